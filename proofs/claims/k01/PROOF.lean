import PyProof.Rows.All
import Wide.All
import OpenK.AllK
import Wide.FinOn
import HandS.ForMost
import HandS.ForExc
import HandS.Zip
import HandS.IsInst
import HandS.TupAny
import HandS.Wide
import HandS.Style
import HandS.Defaults
import HandS.HeadEnd
import HandS.HeadHook2
import HandS.HeadHook4
import HandS.Head2
import HandS.RevTup
import HandS.TupMul
import KE.DataMinMax
import KE.GoesEnum
import PySem.Challenge.RW_straightleast_k01_what_is_a_table
import KE.KEqSeq
set_option Elab.async false
set_option linter.all false
set_option maxRecDepth 100000
/-! Core language: a small pure language of slots over PyData, with lists owned by one slot. -/
namespace Cr
open PySem
abbrev D := PyData
instance : Inhabited D := ⟨.none⟩

/-- a slot of a frame: unbound; a value that nobody changes; a list of its own (b: lent by the caller); a lent list that is no longer changed -/
inductive Sl where
  | un
  | val (d : D)
  | mu (b : Bool) (d : D)
  | frz (d : D)
  deriving Inhabited
abbrev Ev := List Sl

/-- a value handed on: known to be changed by nobody, or new and held by nobody else -/
inductive Rv where
  | fz (d : D)
  | fr (d : D)
def Rv.d : Rv → D
  | .fz d => d
  | .fr d => d

/-- an outcome -/
inductive Rs (α : Type) where
  | ok (a : α) (e : Ev)
  | ex (x : Nat) (e : Ev)
  | er
def Rs.bind {α β : Type} (m : Rs α) (f : α → Ev → Rs β) : Rs β :=
  match m with
  | .ok a e => f a e
  | .ex x e => .ex x e
  | .er => .er

/-- an operand: a place, looked up when it is needed, or a value -/
inductive Op where
  | pl (i : Nat)
  | vl (d : D)

/-- what a call ends with: its value, what the arguments' slots hold then -/
inductive CR where
  | ret (r : Rv) (o : List Sl)
  | exc (x : Nat) (o : List Sl)
  | er

inductive Ty where
  | int | bool | str | tuple | list
  deriving DecidableEq

/-- built-in functions by values -/
inductive Bt where
  | len | sum | min | max | min2 | max2 | all | any | tuple | list | int | abs | repr | sorted | listRange1 | listRange2
  deriving DecidableEq

/-- methods that change a place -/
inductive Mm where
  | append | extend | pop | popAt | reverse
  deriving DecidableEq
/-- methods that only look -/
inductive Vm where
  | index | count
  deriving DecidableEq

mutual
inductive CE where
  | k (d : D)
  | edict
  | glob (d : D)
  | var (i : Nat)
  | tup (es : List CE)
  | lst (es : List CE)
  | bin (o : Operator) (a b : CE)
  | neg (a : CE)
  | cmp (o : CmpOp) (a b : CE)
  | chain (o p : CmpOp) (a b c : CE)
  | and_ (a b : CE)
  | or_ (a b : CE)
  | not_ (a : CE)
  | ife (c a b : CE)
  | idx (a i : CE)
  | slc (a : CE) (lo hi : Option CE)
  | rev (a : CE)
  | call (f : Nat) (es : List CE)
  | callk (f : Nat) (perm : List Nat) (es ks : List CE)
  | isi (a : CE) (t : Ty)
  | blt (f : Bt) (es : List CE)
  | vm (m : Vm) (a : CE) (es : List CE)
  | mm (m : Mm) (i : Nat) (es : List CE)
  | comp (own : List Nat) (t : Tg) (it : It) (c : Option CE) (e : CE)
inductive It where
  | over (e : CE)
  | range1 (e : CE)
  | range2 (a b : CE)
  | enum (e : CE)
  | zip (a b : CE)
inductive Tg where
  | name (i : Nat)
  | tup (ts : List Tg)
  | sub (i : Nat) (e : CE)
end
inductive CS where
  | asg (t : Tg) (e : CE)
  | par (ts : List Tg) (es : List CE)
  | aug (i : Nat) (o : Operator) (e : CE)
  | ex (e : CE)
  | ret (e : CE)
  | ife (c : CE) (a b : List CS)
  | while_ (c : CE) (b : List CS)
  | for_ (t : Tg) (it : It) (b : List CS)
  | pass
  | brk
  | cont
  | raise (x : Nat)
inductive Fl where
  | nx | bk | ct
  | rt (r : Rv)
/-- names stored together -/
def tgNames : List Tg → Option (List Nat)
  | [] => some []
  | .name i :: r => (tgNames r).map (i :: ·)
  | _ :: _ => none
structure FD where
  np : Nat
  nl : Nat
  body : List CS

/-! ### values -/
def lineLen (n : Nat) : Bool := decide (n ≤ sizeLine)
def mulOk (i j : Int) : Bool := decide (-(2 ^ 64) < i ∧ i < 2 ^ 64) || decide (-(2 ^ 64) < j ∧ j < 2 ^ 64) || decide (i.natAbs.log2 + j.natAbs.log2 < 1000000)
def repD (xs : List D) (k : Nat) : List D := (List.replicate k xs).flatten
def binD (o : Operator) (a b : D) : Option Rv :=
  match o, a, b with
  | .Add, .int i, .int j => some (.fz (.int (i + j)))
  | .Sub, .int i, .int j => some (.fz (.int (i - j)))
  | .Mult, .int i, .int j => if mulOk i j = true then some (.fz (.int (i * j))) else none
  | .FloorDiv, .int i, .int j => if 0 < j ∧ j.natAbs.log2 < 9000 then some (.fz (.int (i / j))) else none
  | .Mod, .int i, .int j => if 0 < j then some (.fz (.int (i % j))) else none
  | .Pow, .int i, .int j => if 0 ≤ j ∧ j ≤ 1000 ∧ i.natAbs < 2 ^ 64 then some (.fz (.int (i ^ j.toNat))) else none
  | .Add, .str i, .str j => if i.length + j.length ≤ sizeLine then some (.fz (.str (i ++ j))) else none
  | .Add, .tuple xs, .tuple ys => if xs.length + ys.length ≤ sizeLine then some (.fz (.tuple (xs ++ ys))) else none
  | .Add, .list xs, .list ys => if xs.length + ys.length ≤ sizeLine then some (.fr (.list (xs ++ ys))) else none
  | .Mult, .tuple xs, .int k => if k < 1000000 ∧ -1000000 < k ∧ xs.length * k.toNat ≤ sizeLine then some (.fz (.tuple (repD xs k.toNat))) else none
  | .Mult, .list xs, .int k => if k < 1000000 ∧ -1000000 < k ∧ xs.length * k.toNat ≤ sizeLine then some (.fr (.list (repD xs k.toNat))) else none
  | _, _, _ => none
def isScal : D → Bool
  | .none => true | .bool _ => true | .int _ => true | .str _ => true
  | _ => false
def twoS : D → D → Option (Str × Str)
  | .str x, .str y => some (x, y)
  | _, _ => none
def eqD (a b : D) : Option Bool :=
  match twoS a b with
  | some p => some (decide (p.1 = p.2))
  | none => if SeqAt.shaped a = true ∧ SeqAt.shaped b = true then some (PyData.eqv a b) else none
def cmpD (o : CmpOp) (a b : D) : Option Bool :=
  match o, a, b with
  | .Eq, a, b => eqD a b
  | .NotEq, a, b => (eqD a b).map (!·)
  | .Lt, .int i, .int j => some (decide (i < j))
  | .LtE, .int i, .int j => some (decide (i ≤ j))
  | .Gt, .int i, .int j => some (decide (j < i))
  | .GtE, .int i, .int j => some (decide (j ≤ i))
  | .Is, .none, .none => some true
  | .Is, .bool a, .bool b => some (decide (a = b))
  | .Is, _, .none => some false
  | .IsNot, .none, .none => some false
  | .IsNot, .bool a, .bool b => some (!decide (a = b))
  | .IsNot, _, .none => some true
  | .In, a, .list ys => if isScal a = true ∧ ys.all isScal = true then some (ys.any fun y => PyData.eqv y a) else none
  | .In, a, .tuple ys => if isScal a = true ∧ ys.all isScal = true then some (ys.any fun y => PyData.eqv y a) else none
  | .NotIn, a, .list ys => if isScal a = true ∧ ys.all isScal = true then some (!ys.any fun y => PyData.eqv y a) else none
  | .NotIn, a, .tuple ys => if isScal a = true ∧ ys.all isScal = true then some (!ys.any fun y => PyData.eqv y a) else none
  | _, _, _ => none
def truD : D → Option Bool
  | .bool b => some b
  | .list xs => some (!xs.isEmpty)
  | .tuple xs => some (!xs.isEmpty)
  | .int i => some (i != 0)
  | _ => none
def idxD (a i : D) : Option D :=
  match a, i with
  | .list xs, .int k => L2.atI xs k
  | .tuple xs, .int k => L2.atI xs k
  | .str z, .int k => if z.length ≤ sizeLine then (L2.atI z.cps.toList k).map fun c => .str ⟨#[c]⟩ else none
  | _, _ => none
def cutD {α : Type} (xs : List α) (lo hi : Option Int) : List α := (xs.drop (HT.sIx xs.length 0 lo)).take (HT.sIx xs.length xs.length hi - HT.sIx xs.length 0 lo)
def slcD (a : D) (lo hi : Option Int) : Option Rv :=
  match a with
  | .list xs => some (.fr (.list (cutD xs lo hi)))
  | .tuple xs => some (.fz (.tuple (cutD xs lo hi)))
  | .str z => if z.length ≤ sizeLine then some (.fz (.str ⟨(cutD z.cps.toList lo hi).toArray⟩)) else none
  | _ => none
def revD : D → Option Rv
  | .list xs => some (.fr (.list xs.reverse))
  | .tuple xs => some (.fz (.tuple xs.reverse))
  | _ => none
def isD : D → Ty → Bool
  | .int _, .int => true
  | .bool _, .int => true
  | .bool _, .bool => true
  | .str _, .str => true
  | .tuple _, .tuple => true
  | .list _, .list => true
  | _, _ => false
def intsD : List D → Option (List Int)
  | [] => some []
  | .int i :: r => (intsD r).map (i :: ·)
  | _ :: _ => none
def boolsD : List D → Option (List Bool)
  | [] => some []
  | .bool i :: r => (boolsD r).map (i :: ·)
  | _ :: _ => none
def minI : List Int → Option Int
  | [] => none
  | i :: r => some (r.foldl (fun a b => if b < a then b else a) i)
def maxI : List Int → Option Int
  | [] => none
  | i :: r => some (r.foldl (fun a b => if b > a then b else a) i)
def seqD : D → Option (List D)
  | .list xs => some xs
  | .tuple xs => some xs
  | _ => none
def insI (a : Int) : List Int → List Int
  | [] => [a]
  | b :: r => if a ≤ b then a :: b :: r else b :: insI a r
def sortI : List Int → List Int
  | [] => []
  | a :: r => insI a (sortI r)
def ok63 (i : Int) : Bool := decide (-(2 ^ 62) ≤ i ∧ i < 2 ^ 62)
def rangeD (a b : Int) : List D := (List.range (b - a).toNat).map fun (i : Nat) => .int (a + (i : Int))
def bltD (f : Bt) (ds : List D) : Option Rv :=
  match f, ds with
  | .len, [.list xs] => some (.fz (.int xs.length))
  | .len, [.tuple xs] => some (.fz (.int xs.length))
  | .len, [.str z] => if z.length ≤ sizeLine then some (.fz (.int z.length)) else none
  | .sum, [.list xs] => (intsD xs).map fun l => .fz (.int l.sum)
  | .min, [.list xs] => (intsD xs).bind fun l => (minI l).map fun m => .fz (.int m)
  | .min, [.tuple xs] => (intsD xs).bind fun l => (minI l).map fun m => .fz (.int m)
  | .max, [.list xs] => (intsD xs).bind fun l => (maxI l).map fun m => .fz (.int m)
  | .max, [.tuple xs] => (intsD xs).bind fun l => (maxI l).map fun m => .fz (.int m)
  | .min2, [.int i, .int j] => some (.fz (.int (if j < i then j else i)))
  | .max2, [.int i, .int j] => some (.fz (.int (if j > i then j else i)))
  | .all, [.list xs] => (boolsD xs).map fun l => .fz (.bool (l.all id))
  | .any, [.list xs] => (boolsD xs).map fun l => .fz (.bool (l.any id))
  | .tuple, [.list xs] => some (.fz (.tuple xs))
  | .tuple, [.tuple xs] => some (.fz (.tuple xs))
  | .list, [.list xs] => some (.fr (.list xs))
  | .list, [.tuple xs] => some (.fr (.list xs))
  | .int, [.int i] => some (.fz (.int i))
  | .abs, [.int i] => some (.fz (.int (if i < 0 then -i else i)))
  | .repr, [d] => if d.showable = true ∧ d.shown.length ≤ sizeLine ∧ d.depth ≤ 60 then some (.fz (.str d.shown)) else none
  | .sorted, [.list xs] => (intsD xs).bind fun l => if l.length < 64 then some (.fr (.list ((sortI l).map .int))) else none
  | .listRange1, [.int b] => if ok63 b = true ∧ b ≤ 1000000 then some (.fr (.list (rangeD 0 b))) else none
  | .listRange2, [.int a, .int b] => if ok63 a = true ∧ ok63 b = true ∧ b - a ≤ 1000000 then some (.fr (.list (rangeD a b))) else none
  | _, _ => none
def vmD (m : Vm) (a : D) (ds : List D) : Option Rv :=
  match m, a, ds with
  | .index, .list xs, [y] => if isScal y = true ∧ xs.all isScal = true then ((xs.findIdx? fun x => PyData.eqv x y).map fun (n : Nat) => .fz (.int (n : Int))) else none
  | _, _, _ => none
/-- what is left at the place, what is handed back -/
def mmD (m : Mm) (a : D) (ds : List D) : Option (D × D) :=
  match m, a, ds with
  | .append, .list xs, [y] => if xs.length < sizeLine then some (.list (xs ++ [y]), .none) else none
  | .extend, .list xs, [.list ys] => if xs.length + ys.length ≤ sizeLine then some (.list (xs ++ ys), .none) else none
  | .pop, .list xs, [] => (xs[xs.length - 1]?).map fun y => (.list xs.dropLast, y)
  | .popAt, .list xs, [.int i] => if -(2 ^ 63) ≤ i ∧ i < 2 ^ 63 then ((L2.ixN xs.length i).bind fun k => (xs[k]?).map fun y => (.list (xs.eraseIdx k), y)) else none
  | .reverse, .list xs, [] => some (.list xs.reverse, .none)
  | _, _, _ => none

/-! ### slots -/
def look (e : Ev) (i : Nat) : Option D :=
  match e[i]? with
  | some (.val d) => some d
  | some (.mu _ d) => some d
  | some (.frz d) => some d
  | _ => none
def rdA (i : Nat) (e : Ev) : Rs Rv :=
  match e[i]? with
  | some (.val d) => .ok (.fz d) e
  | some (.mu b d) => .ok (.fz d) (e.set i (if b = true then .frz d else .val d))
  | some (.frz d) => .ok (.fz d) e
  | _ => .er
def Op.get (o : Op) (e : Ev) : Option D :=
  match o with
  | .pl i => look e i
  | .vl d => some d
def opd (a : CE) (f : Ev → Rs Rv) (e : Ev) : Rs Op :=
  match a with
  | .var i => (match look e i with | some _ => .ok (.pl i) e | none => .er)
  | _ => (f e).bind fun r e => .ok (.vl r.d) e
def two (x y : Op) (e : Ev) (f : D → D → Option Rv) : Rs Rv :=
  match x.get e, y.get e with
  | some a, some b => (match f a b with | some r => .ok r e | none => .er)
  | _, _ => .er
def one (x : Op) (e : Ev) (f : D → Option Rv) : Rs Rv :=
  match x.get e with
  | some a => (match f a with | some r => .ok r e | none => .er)
  | _ => .er
def gets : List Op → Ev → Option (List D)
  | [], _ => some []
  | x :: r, e => match x.get e, gets r e with
    | some d, some ds => some (d :: ds)
    | _, _ => none
def many (xs : List Op) (e : Ev) (f : List D → Option Rv) : Rs Rv :=
  match gets xs e with
  | some ds => (match f ds with | some r => .ok r e | none => .er)
  | none => .er
def tstR (r : Rs Rv) : Rs Bool := r.bind fun r e => match r.d with | .bool b => .ok b e | _ => .er
def tst (a : CE) (f : Ev → Rs Rv) (e : Ev) : Rs Bool :=
  match a with
  | .and_ _ _ => tstR (f e)
  | .or_ _ _ => tstR (f e)
  | .not_ _ => tstR (f e)
  | .cmp _ _ _ => tstR (f e)
  | .chain _ _ _ _ _ => tstR (f e)
  | a => (opd a f e).bind fun o e => match o.get e with
    | some d => (match truD d with | some b => .ok b e | none => .er)
    | none => .er
/-- an argument: a place that is lent, or a value -/
def argd (a : CE) (f : Ev → Rs Rv) (e : Ev) : Rs Op :=
  match a with
  | .var i => (match e[i]? with
    | some (.mu _ _) => .ok (.pl i) e
    | some (.val d) => .ok (.vl d) e
    | some (.frz d) => .ok (.vl d) e
    | _ => .er)
  | _ => (f e).bind fun r e => .ok (.vl r.d) e
def argS (o : Op) (e : Ev) : Option Sl :=
  match o with
  | .vl d => some (.val d)
  | .pl i => match e[i]? with
    | some (.mu _ d) => some (.mu true d)
    | some (.val d) => some (.val d)
    | some (.frz d) => some (.val d)
    | _ => none
def argsS : List Op → Ev → Option (List Sl)
  | [], _ => some []
  | x :: r, e => match argS x e, argsS r e with
    | some s, some ss => some (s :: ss)
    | _, _ => none
/-- the places that are lent -/
def lends : List Op → Ev → List Nat
  | [], _ => []
  | .pl i :: r, e => (match e[i]? with | some (.mu _ _) => i :: lends r e | _ => lends r e)
  | _ :: r, e => lends r e
/-- what a call leaves in a lent place -/
def lentAt : List Op → List Sl → Nat → Option Sl
  | .pl i :: r, s :: ss, j => if i = j then some s else lentAt r ss j
  | _ :: r, _ :: ss, j => lentAt r ss j
  | _, _, _ => none
def backS (os : List Op) (o : List Sl) (j : Nat) (s : Sl) : Sl :=
  match s with
  | .mu b d => (match lentAt os o j with
    | some (.mu _ d') => .mu b d'
    | some (.frz d') => if b = true then .frz d' else .val d'
    | _ => .mu b d)
  | s => s
/-- the lent places behind the call -/
def backG (os : List Op) (o : List Sl) : Nat → Ev → Ev
  | _, [] => []
  | j, s :: r => backS os o j s :: backG os o (j + 1) r
def back (os : List Op) (o : List Sl) (e : Ev) : Ev := backG os o 0 e
def permS (perm : List Nat) (ss : List Sl) : Option (List Sl) := perm.mapM fun i => ss[i]?
def callR (cf : Nat → List Sl → CR) (f : Nat) (perm : List Nat) (os : List Op) (e : Ev) : Rs Rv :=
  match argsS os e with
  | none => .er
  | some ss => if (lends os e).Nodup then
      (if perm = [] then (match cf f ss with
        | .ret r o => .ok r (back os o e)
        | .exc x o => .ex x (back os o e)
        | .er => .er)
      else (if lends os e = [] then (match permS perm ss with
        | some ps => (match cf f ps with
          | .ret r _ => .ok r e
          | .exc x _ => .ex x e
          | .er => .er)
        | none => .er) else .er))
    else .er
def store (i : Nat) (s : Sl) (e : Ev) : Rs Unit :=
  match e[i]? with
  | some (.mu true _) => .er
  | some (.frz _) => .er
  | some _ => .ok () (e.set i s)
  | none => .er
def Rv.sl : Rv → Sl
  | .fz d => .val d
  | .fr d => .mu false d
/-- x[k] = v at a place -/
def putD (a k v : D) : Option D :=
  match a, k with
  | .list xs, .int i => (L2.ixN xs.length i).map fun j => .list (xs.set j v)
  | _, _ => none
def setAt (i : Nat) (f : D → Option D) (e : Ev) : Rs Unit :=
  match e[i]? with
  | some (.mu b d) => (match f d with | some d' => .ok () (e.set i (.mu b d')) | none => .er)
  | _ => .er
def subE (i : Nat) (f : Ev → Rs Op) (r : Rv) (e : Ev) : Rs Unit :=
  match e[i]? with
  | some (.mu _ (.list _)) => (f e).bind fun x e => match x.get e with | some k => setAt i (fun d => putD d k r.d) e | none => .er
  | _ => .er
def mmAt (m : Mm) (i : Nat) (ds : List D) (e : Ev) : Rs Rv :=
  match e[i]? with
  | some (.mu b d) => (match mmD m d ds with | some (d', r) => .ok (.fz r) (e.set i (.mu b d')) | none => .er)
  | _ => .er
/-- the own slots of a comprehension's block -/
def wipeE (e : Ev) : List Nat → Option Ev
  | [] => some e
  | i :: r => (wipeE e r).bind fun e' => match e'[i]? with
    | some .un => some e'
    | some (.val _) => some (e'.set i .un)
    | _ => none
def unwipe (e0 e : Ev) : List Nat → Ev
  | [] => e
  | i :: r => (unwipe e0 e r).set i (e0[i]?.getD .un)
def noEx {α : Type} : Rs α → Rs α
  | .ok a e => .ok a e
  | _ => .er
def wipeK {α : Type} (own : List Nat) (e : Ev) (f : Ev → Rs α) : Rs α :=
  match wipeE e own with
  | some e => f e
  | none => .er
def compL (own : List Nat) (asg : D → Ev → Rs Unit) (c : Ev → Rs Bool) (f : Ev → Rs Rv) : List D → List D → Ev → Rs (List D)
  | [], acc, e => .ok acc e
  | x :: r, acc, e => (asg x e).bind fun _ e => (c e).bind fun b e =>
      if b = true then (f e).bind fun v e => if acc.length < sizeLine then wipeK own e fun e => compL own asg c f r (acc ++ [v.d]) e else .er
      else wipeK own e fun e => compL own asg c f r acc e
def itD (a : D) : Option (List D) := seqD a
def zipD (xs ys : List D) : List D := (xs.zip ys).map fun p => .tuple [p.1, p.2]
def enumD (xs : List D) : List D := (xs.zipIdx).map fun p => .tuple [.int (p.2 : Int), p.1]
def oneI (x : Op) (e : Ev) (f : D → Option (List D)) : Rs (List D) :=
  match x.get e with
  | some a => (match f a with | some r => .ok r e | none => .er)
  | none => .er

section
variable (cf : Nat → List Sl → CR)
mutual
def evE : CE → Ev → Rs Rv
  | .k d, e => .ok (.fz d) e
  | .edict, e => .ok (.fz (.dict [])) e
  | .glob d, e => .ok (.fz d) e
  | .var i, e => rdA i e
  | .tup es, e => (evL es e).bind fun ds e => if ds.length ≤ sizeLine then .ok (.fz (.tuple ds)) e else .er
  | .lst es, e => (evL es e).bind fun ds e => if ds.length ≤ sizeLine then .ok (.fr (.list ds)) e else .er
  | .bin o a b, e => (opd a (evE a) e).bind fun x e => (opd b (evE b) e).bind fun y e => two x y e (binD o)
  | .neg a, e => (opd a (evE a) e).bind fun x e => one x e fun d => match d with | .int i => some (.fz (.int (-i))) | _ => none
  | .cmp o a b, e => (opd a (evE a) e).bind fun x e => (opd b (evE b) e).bind fun y e => two x y e fun p q => (cmpD o p q).map fun b => .fz (.bool b)
  | .chain o p a b c, e => (opd a (evE a) e).bind fun x e => (opd b (evE b) e).bind fun y e => (tstR (two x y e fun p q => (cmpD o p q).map fun b => .fz (.bool b))).bind fun t e =>
      if t = true then (opd c (evE c) e).bind fun z e => two y z e fun u v => (cmpD p u v).map fun b => .fz (.bool b) else .ok (.fz (.bool false)) e
  | .and_ a b, e => (tstR (evE a e)).bind fun t e => if t = true then evE b e else .ok (.fz (.bool false)) e
  | .or_ a b, e => (tstR (evE a e)).bind fun t e => if t = true then .ok (.fz (.bool true)) e else evE b e
  | .not_ a, e => (tstR (evE a e)).bind fun t e => .ok (.fz (.bool (!t))) e
  | .ife c a b, e => (tst c (evE c) e).bind fun t e => if t = true then evE a e else evE b e
  | .idx a i, e => (opd a (evE a) e).bind fun x e => (opd i (evE i) e).bind fun y e => two x y e fun p q => (idxD p q).map .fz
  | .slc a lo hi, e => (opd a (evE a) e).bind fun x e => (evOpt lo e).bind fun l e => (evOpt hi e).bind fun h e => one x e fun d => slcD d l h
  | .rev a, e => (opd a (evE a) e).bind fun x e => one x e revD
  | .call f es, e => (evA es e).bind fun os e => callR cf f [] os e
  | .callk f perm es ks, e => (evA es e).bind fun o1 e => (evA ks e).bind fun o2 e => if o1.length = es.length ∧ o2.length = ks.length then callR cf f perm (o1 ++ o2) e else .er
  | .isi a t, e => (opd a (evE a) e).bind fun x e => one x e fun d => some (.fz (.bool (isD d t)))
  | .blt f es, e => (evO es e).bind fun os e => many os e (bltD f)
  | .vm m a es, e => (opd a (evE a) e).bind fun x e => (evO es e).bind fun os e => many (x :: os) e fun ds => match ds with | d :: r => vmD m d r | [] => none
  | .mm m i es, e => match e[i]? with
    | some (.mu _ (.list _)) => (evL es e).bind fun ds e => mmAt m i ds e
    | _ => .er
  | .comp own t it c f, e => (evI it e).bind fun items e => wipeK own e fun e1 =>
      (noEx (compL own (fun d e => evAsg t (.fz d) e) (fun e => match c with | some q => tst q (evE q) e | none => .ok true e) (evE f) items [] e1)).bind fun acc e2 => .ok (.fr (.list acc)) (unwipe e e2 own)
/-- values, known to nobody else -/
def evL : List CE → Ev → Rs (List D)
  | [], e => .ok [] e
  | a :: r, e => (evE a e).bind fun v e => (evL r e).bind fun ds e => .ok (v.d :: ds) e
def evR : List CE → Ev → Rs (List Rv)
  | [], e => .ok [] e
  | a :: r, e => (evE a e).bind fun v e => (evR r e).bind fun ds e => .ok (v :: ds) e
def evO : List CE → Ev → Rs (List Op)
  | [], e => .ok [] e
  | a :: r, e => (opd a (evE a) e).bind fun o e => (evO r e).bind fun os e => .ok (o :: os) e
def evA : List CE → Ev → Rs (List Op)
  | [], e => .ok [] e
  | a :: r, e => (argd a (evE a) e).bind fun o e => (evA r e).bind fun os e => .ok (o :: os) e
def evOpt : Option CE → Ev → Rs (Option Int)
  | none, e => .ok none e
  | some a, e => (opd a (evE a) e).bind fun x e => match x.get e with | some (.int i) => .ok (some i) e | _ => .er
def evI : It → Ev → Rs (List D)
  | .over a, e => (evE a e).bind fun r e => match itD r.d with | some l => .ok l e | none => .er
  | .range1 a, e => (opd a (evE a) e).bind fun x e => oneI x e fun d => match d with | .int b => if ok63 b = true then some (rangeD 0 b) else none | _ => none
  | .range2 a b, e => (opd a (evE a) e).bind fun x e => (opd b (evE b) e).bind fun y e => match x.get e, y.get e with
    | some (.int i), some (.int j) => if ok63 i = true ∧ ok63 j = true then .ok (rangeD i j) e else .er
    | _, _ => .er
  | .enum a, e => (evE a e).bind fun r e => match itD r.d with | some l => .ok (enumD l) e | none => .er
  | .zip a b, e => (evE a e).bind fun r e => (evE b e).bind fun s e => match itD r.d, itD s.d with | some l, some m => .ok (zipD l m) e | _, _ => .er
def evAsg : Tg → Rv → Ev → Rs Unit
  | .name i, r, e => store i r.sl e
  | .tup ts, r, e => match r.d with
    | .tuple ds => if ds.length = ts.length then evAsgs ts (ds.map .fz) e else .er
    | _ => .er
  | .sub i a, r, e => subE i (opd a (evE a)) r e
def evAsgs : List Tg → List Rv → Ev → Rs Unit
  | [], [], e => .ok () e
  | t :: ts, r :: rs, e => (evAsg t r e).bind fun _ e => evAsgs ts rs e
  | _, _, e => .er
end
def forL (asg : D → Ev → Rs Unit) (body : Ev → Rs Fl) : List D → Ev → Rs Fl
  | [], e => .ok .nx e
  | x :: r, e => (asg x e).bind fun _ e => (body e).bind fun f e => match f with
    | .nx => forL asg body r e
    | .ct => forL asg body r e
    | .bk => .ok .nx e
    | .rt v => .ok (.rt v) e
def whileL (c : Ev → Rs Bool) (body : Ev → Rs Fl) : Nat → Ev → Rs Fl
  | 0, _ => .er
  | n + 1, e => (c e).bind fun b e => if b = true then (body e).bind fun f e => match f with
    | .nx => whileL c body n e
    | .ct => whileL c body n e
    | .bk => .ok .nx e
    | .rt v => .ok (.rt v) e
    else .ok .nx e
variable (fuel : Nat)
def evRet (a : CE) (f : Ev → Rs Rv) (e : Ev) : Rs Rv :=
  match a with
  | .var i => (match e[i]? with
    | some (.mu false d) => .ok (.fr d) (e.set i .un)
    | _ => f e)
  | _ => f e
mutual
def evS : CS → Ev → Rs Fl
  | .asg t a, e => (evE cf a e).bind fun r e => (evAsg cf t r e).bind fun _ e => .ok .nx e
  | .par ts es, e => (evR cf es e).bind fun rs e => if rs.length = ts.length ∧ ts.length ≤ 1000 then (evAsgs cf ts rs e).bind fun _ e => .ok .nx e else .er
  | .aug i o a, e => match look e i with
    | some (.int n) => (opd a (evE cf a) e).bind fun y e => match y.get e with
      | some (.int m) => (match o with
        | .Add => (store i (.val (.int (n + m))) e).bind fun _ e => .ok .nx e
        | .Sub => (store i (.val (.int (n - m))) e).bind fun _ e => .ok .nx e
        | _ => .er)
      | _ => .er
    | _ => .er
  | .ex a, e => (evE cf a e).bind fun _ e => .ok .nx e
  | .ret a, e => (evRet a (evE cf a) e).bind fun r e => .ok (.rt r) e
  | .ife c a b, e => (tst c (evE cf c) e).bind fun t e => if t = true then evSs a e else evSs b e
  | .while_ c b, e => whileL (fun e => tst c (evE cf c) e) (fun e => evSs b e) fuel e
  | .for_ t it b, e => (evI cf it e).bind fun items e => forL (fun d e => evAsg cf t (.fz d) e) (fun e => evSs b e) items e
  | .pass, e => .ok .nx e
  | .brk, e => .ok .bk e
  | .cont, e => .ok .ct e
  | .raise x, e => .ex x e
def evSs : List CS → Ev → Rs Fl
  | [], e => .ok .nx e
  | s :: r, e => (evS s e).bind fun f e => match f with
    | .nx => evSs r e
    | f => .ok f e
end
end
def outOk : List Sl → List Sl → Bool
  | .mu _ _ :: r, .mu true _ :: s => outOk r s
  | .mu _ _ :: r, .frz _ :: s => outOk r s
  | .mu _ _ :: _, _ => false
  | _ :: r, _ :: s => outOk r s
  | [], _ => true
  | _ :: _, [] => false
def runD (cf : Nat → List Sl → CR) (fuel : Nat) (fd : FD) (as : List Sl) : CR :=
  if as.length = fd.np then
    match evSs cf fuel fd.body (as ++ List.replicate (fd.nl - fd.np) .un) with
    | .ok (.rt r) e => if (outOk as e && decide (as.length ≤ e.length)) = true then .ret r (e.take fd.np) else .er
    | .ok .nx e => if (outOk as e && decide (as.length ≤ e.length)) = true then .ret (.fz .none) (e.take fd.np) else .er
    | .ex x e => if (outOk as e && decide (as.length ≤ e.length)) = true then .exc x (e.take fd.np) else .er
    | _ => .er
  else .er
def callN (ft : Nat → Option FD) (fuel : Nat) : Nat → Nat → List Sl → CR
  | 0, _, _ => .er
  | n + 1, f, as => match ft f with
    | some fd => runD (callN ft fuel n) fuel fd as
    | none => .er
end Cr
set_option Elab.async false
set_option linter.all false
set_option maxRecDepth 100000
/-! The relation between core states and the abstract heap. -/
namespace Cr
open PySem PySem.Spec PyProof.Rows L2
open Classical in
/-- the heap without the hidden addresses -/
noncomputable def hid (Z : Addr → Prop) (H : Hp) : Hp := fun a => if Z a then none else H a
theorem hid_some {Z : Addr → Prop} {H : Hp} {a : Addr} {o : HO} : hid Z H a = some o ↔ ¬ Z a ∧ H a = some o := by
  unfold hid
  by_cases h : Z a
  · simp [h]
  · simp [h]
def Sub (H H' : Hp) : Prop := ∀ a o, H a = some o → H' a = some o
theorem Sub.refl {H : Hp} : Sub H H := fun _ _ e => e
theorem Sub.trans {H H' H'' : Hp} (h : Sub H H') (k : Sub H' H'') : Sub H H'' := fun a o e => k a o (h a o e)
theorem hid_sub {Z : Addr → Prop} {H : Hp} : Sub (hid Z H) H := fun _ _ e => (hid_some.mp e).2
theorem Sub.rd {H H' : Hp} (h : Sub H H') {a : Addr} {u : HO} (r : Rd H a u) : Rd H' a u := by
  rcases r with r | ⟨o, r⟩
  · exact .inl (h _ _ r)
  · exact .inr ⟨o, h _ _ r⟩
theorem Sub.sqL {K : PySem.W.Frag} {H H' : Hp} (h : Sub H H') {a : Addr} {xs : List V} (r : SqL K H a xs) : SqL K H' a xs := by
  rcases r with r | r
  · exact .inl (h.rd r)
  · exact .inr r
theorem Sub.sqT {K : PySem.W.Frag} {H H' : Hp} (h : Sub H H') {a : Addr} {xs : List V} (r : SqT K H a xs) : SqT K H' a xs := by
  rcases r with r | r
  · exact .inl (h.rd r)
  · exact .inr r
mutual
/-- a value reads as data -/
inductive Dv (K : PySem.W.Frag) (H : Hp) : V → D → Prop
  | non : Dv K H .non .none
  | bl (b : Bool) : Dv K H (.bl b) (.bool b)
  | int (i : Int) : Dv K H (.int i) (.int i)
  | str (x : Str) : Dv K H (.str x) (.str x)
  | lst {a : Addr} {xs : List V} {ds : List D} : Rd H a (.lst xs) → DvAll K H xs ds → Dv K H (.ref a) (.list ds)
  | tup {a : Addr} {xs : List V} {ds : List D} : SqT K H a xs → DvAll K H xs ds → Dv K H (.ref a) (.tuple ds)
  | dct {a : Addr} : H a = some (.dK []) → Dv K H (.ref a) (.dict [])
inductive DvAll (K : PySem.W.Frag) (H : Hp) : List V → List D → Prop
  | nil : DvAll K H [] []
  | cons {v : V} {vs : List V} {d : D} {ds : List D} : Dv K H v d → DvAll K H vs ds → DvAll K H (v :: vs) (d :: ds)
end
section
variable {K : PySem.W.Frag} {H H' : Hp}
mutual
theorem Dv.mono (h : Sub H H') : ∀ (d : D) (v : V), Dv K H v d → Dv K H' v d
  | .none, _, q => by cases q; exact .non
  | .bool _, _, q => by cases q; exact .bl _
  | .int _, _, q => by cases q; exact .int _
  | .str _, _, q => by cases q; exact .str _
  | .list ds, _, q => by
    cases q with
    | lst s r => exact .lst (h.rd s) (DvAll.mono h ds _ r)
  | .tuple ds, _, q => by
    cases q with
    | tup s r => exact .tup (h.sqT s) (DvAll.mono h ds _ r)
  | .dict _, _, q => by
    cases q with
    | dct s => exact .dct (h _ _ s)
theorem DvAll.mono (h : Sub H H') : ∀ (ds : List D) (vs : List V), DvAll K H vs ds → DvAll K H' vs ds
  | [], _, q => by cases q; exact .nil
  | d :: ds, _, q => by
    cases q with
    | cons a b => exact .cons (Dv.mono h d _ a) (DvAll.mono h ds _ b)
end
theorem DvAll.length : ∀ {vs : List V} {ds : List D}, DvAll K H vs ds → vs.length = ds.length
  | _, _, .nil => rfl
  | _, _, .cons _ r => congrArg Nat.succ (DvAll.length r)
theorem DvAll.append : ∀ {vs ws : List V} {ds es : List D}, DvAll K H vs ds → DvAll K H ws es → DvAll K H (vs ++ ws) (ds ++ es)
  | _, _, _, _, .nil, s => s
  | _, _, _, _, .cons a r, s => .cons a (DvAll.append r s)
theorem DvAll.get : ∀ {vs : List V} {ds : List D} {i : Nat} {v : V} {d : D}, DvAll K H vs ds → vs[i]? = some v → ds[i]? = some d → Dv K H v d
  | _, _, _, _, _, .nil, e, _ => by simp at e
  | _, _, 0, _, _, .cons a r, e, f => by
    simp at e f
    subst e f
    exact a
  | _, _, i + 1, _, _, .cons a r, e, f => DvAll.get (i := i) r (by simpa using e) (by simpa using f)
theorem DvAll.at {vs : List V} {ds : List D} {i : Nat} {d : D} (r : DvAll K H vs ds) (f : ds[i]? = some d) : ∃ v, vs[i]? = some v ∧ Dv K H v d := by
  have h : i < vs.length := by rw [r.length]; exact (List.getElem?_eq_some_iff.mp f).1
  exact ⟨vs[i], List.getElem?_eq_getElem h, r.get (List.getElem?_eq_getElem h) f⟩
theorem DvAll.take : ∀ {vs : List V} {ds : List D} (n : Nat), DvAll K H vs ds → DvAll K H (vs.take n) (ds.take n)
  | _, _, 0, _ => by simpa using DvAll.nil
  | _, _, _ + 1, .nil => .nil
  | _, _, n + 1, .cons a r => .cons a (DvAll.take n r)
theorem DvAll.drop : ∀ {vs : List V} {ds : List D} (n : Nat), DvAll K H vs ds → DvAll K H (vs.drop n) (ds.drop n)
  | _, _, 0, r => by simpa using r
  | _, _, _ + 1, .nil => .nil
  | _, _, n + 1, .cons a r => DvAll.drop n r
theorem DvAll.set : ∀ {vs : List V} {ds : List D} (n : Nat) {v : V} {d : D}, DvAll K H vs ds → Dv K H v d → DvAll K H (vs.set n v) (ds.set n d)
  | _, _, _, _, _, .nil, _ => .nil
  | _, _, 0, _, _, .cons a r, q => .cons q r
  | _, _, n + 1, _, _, .cons a r, q => .cons a (DvAll.set n r q)
theorem DvAll.reverse {vs : List V} {ds : List D} (r : DvAll K H vs ds) : DvAll K H vs.reverse ds.reverse := by
  induction ds generalizing vs with
  | nil => cases r; exact .nil
  | cons d ds ih =>
    cases r with
    | cons a r =>
      rw [List.reverse_cons, List.reverse_cons]
      exact (ih r).append (.cons a .nil)
theorem DvAll.eraseIdx : ∀ {vs : List V} {ds : List D} (n : Nat), DvAll K H vs ds → DvAll K H (vs.eraseIdx n) (ds.eraseIdx n)
  | _, _, _, .nil => by simpa using DvAll.nil
  | _, _, 0, .cons a r => r
  | _, _, n + 1, .cons a r => .cons a (DvAll.eraseIdx n r)
theorem DvAll.dropLast : ∀ {vs : List V} {ds : List D}, DvAll K H vs ds → DvAll K H vs.dropLast ds.dropLast
  | _, _, .nil => .nil
  | _, _, .cons a .nil => .nil
  | _, _, .cons a (.cons b r) => .cons a (DvAll.dropLast (.cons b r))
theorem DvAll.rep {vs : List V} {ds : List D} (r : DvAll K H vs ds) : ∀ k : Nat, DvAll K H (List.replicate k vs).flatten (repD ds k)
  | 0 => .nil
  | k + 1 => r.append (DvAll.rep r k)
theorem DvAll.ints : ∀ {ds : List D} {l : List Int} {vs : List V}, DvAll K H vs ds → intsD ds = some l → vs = l.map V.int
  | [], l, _, .nil, e => by
    have e' : some ([] : List Int) = some l := e
    cases e'
    rfl
  | .int i :: r, l, _, .cons a b, e => by
    have e' : (intsD r).map (i :: ·) = some l := e
    cases q : intsD r with
    | none => rw [q] at e'; cases e'
    | some m =>
      rw [q] at e'
      cases e'
      cases a
      rw [DvAll.ints b q]
      rfl
  | .none :: r, l, _, _, e => by cases e
  | .bool _ :: r, l, _, _, e => by cases e
  | .str _ :: r, l, _, _, e => by cases e
  | .list _ :: r, l, _, _, e => by cases e
  | .tuple _ :: r, l, _, _, e => by cases e
  | .dict _ :: r, l, _, _, e => by cases e
theorem DvAll.bools : ∀ {ds : List D} {l : List Bool} {vs : List V}, DvAll K H vs ds → boolsD ds = some l → vs = l.map V.bl
  | [], l, _, .nil, e => by
    have e' : some ([] : List Bool) = some l := e
    cases e'
    rfl
  | .bool i :: r, l, _, .cons a b, e => by
    have e' : (boolsD r).map (i :: ·) = some l := e
    cases q : boolsD r with
    | none => rw [q] at e'; cases e'
    | some m =>
      rw [q] at e'
      cases e'
      cases a
      rw [DvAll.bools b q]
      rfl
  | .none :: r, l, _, _, e => by cases e
  | .int _ :: r, l, _, _, e => by cases e
  | .str _ :: r, l, _, _, e => by cases e
  | .list _ :: r, l, _, _, e => by cases e
  | .tuple _ :: r, l, _, _, e => by cases e
  | .dict _ :: r, l, _, _, e => by cases e
end

/-! ### frames -/
/-- what is fixed while a frame runs: the heap at its entry, what was hidden then, the addresses that are lent -/
structure Fr where
  H0 : Hp
  Z0 : Addr → Prop
  la : Nat → Option Addr
/-- a place's content -/
def Cell (K : PySem.W.Frag) (Hh H : Hp) (a : Addr) : D → Prop
  | .list ds => ∃ xs, H a = some (.lst xs) ∧ DvAll K Hh xs ds
  | _ => False
def SlR (K : PySem.W.Frag) (F : Fr) (Z : Addr → Prop) (H : Hp) (i : Nat) (o : Option (Option V)) : Sl → Prop
  | .un => True
  | .val d => ∃ v, o = some (some v) ∧ Dv K (hid Z H) v d
  | .mu b d => ∃ a, o = some (some (V.ref a)) ∧ Z a ∧ Cell K (hid Z H) H a d ∧ (b = true → F.la i = some a) ∧ (b = false → F.H0 a = none)
  | .frz d => ∃ a, o = some (some (V.ref a)) ∧ F.la i = some a ∧ Dv K (hid Z H) (V.ref a) d
/-- a slot's own list -/
def MutAt (e : Ev) (σ : L2.St) (a : Addr) : Prop := ∃ (i : Nat) (b : Bool) (d : D), e[i]? = some (Sl.mu b d) ∧ σ[i]? = some (some (V.ref a))
structure Rel (K : PySem.W.Frag) (F : Fr) (e : Ev) (σ : L2.St) (H : Hp) (Z : Addr → Prop) : Prop where
  len : e.length = σ.length
  sl : ∀ (i : Nat) (s : Sl), e[i]? = some s → SlR K F Z H i (σ[i]?) s
  ds : ∀ (i j : Nat) (b : Bool) (d : D) (b' : Bool) (d' : D) (a : Addr), e[i]? = some (Sl.mu b d) → e[j]? = some (Sl.mu b' d') → σ[i]? = some (some (V.ref a)) → σ[j]? = some (some (V.ref a)) → i = j
  zs : ∀ a, Z a → H a ≠ none
  kz : ∀ a, F.Z0 a → (∀ i, F.la i ≠ some a) → Z a
  zn : ∀ a, Z a → F.Z0 a ∨ F.H0 a = none
  fr : ∀ a o, F.H0 a = some o → (∀ i, F.la i ≠ some a) → H a = some o
  lz : ∀ i a, F.la i = some a → F.H0 a ≠ none
  th : ∀ a, F.H0 a ≠ none → H a ≠ none
  z0 : ∀ a, F.Z0 a → F.H0 a ≠ none
/-- between two states of a frame: what no slot owns stands as it was -/
structure Kp (e : Ev) (σ : L2.St) (H : Hp) (Z : Addr → Prop) (e' : Ev) (H' : Hp) (Z' : Addr → Prop) : Prop where
  keep : ∀ a o, H a = some o → ¬ MutAt e σ a → H' a = some o ∧ (Z' a ↔ Z a) ∧ ¬ MutAt e' σ a
  th : ∀ a, H a ≠ none → H' a ≠ none
/-- .. of statements: what is not hidden stands as it was -/
structure Le (H : Hp) (Z : Addr → Prop) (H' : Hp) (Z' : Addr → Prop) : Prop where
  sub : Sub (hid Z H) (hid Z' H')
  th : ∀ a, H a ≠ none → H' a ≠ none
section
variable {K : PySem.W.Frag} {F : Fr} {e e' e'' : Ev} {σ : L2.St} {H H' H'' : Hp} {Z Z' Z'' : Addr → Prop}
theorem Rel.mutZ (R : Rel K F e σ H Z) {a : Addr} (m : MutAt e σ a) : Z a := by
  obtain ⟨i, b, d, h1, h2⟩ := m
  obtain ⟨a', e1, z, _⟩ := R.sl i _ h1
  rw [h2] at e1
  cases e1
  exact z
theorem Kp.refl : Kp e σ H Z e H Z := ⟨fun _ _ h m => ⟨h, Iff.rfl, m⟩, fun _ h => h⟩
theorem Kp.trans (h : Kp e σ H Z e' H' Z') (k : Kp e' σ H' Z' e'' H'' Z'') : Kp e σ H Z e'' H'' Z'' := ⟨fun a o q m => by
  obtain ⟨q1, z1, m1⟩ := h.keep a o q m
  obtain ⟨q2, z2, m2⟩ := k.keep a o q1 m1
  exact ⟨q2, z2.trans z1, m2⟩, fun a q => k.th a (h.th a q)⟩
theorem Kp.le (R : Rel K F e σ H Z) (h : Kp e σ H Z e' H' Z') : Le H Z H' Z' := ⟨fun a o q => by
  obtain ⟨z, q⟩ := hid_some.mp q
  obtain ⟨q1, z1, _⟩ := h.keep a o q fun m => z (R.mutZ m)
  exact hid_some.mpr ⟨fun w => z (z1.mp w), q1⟩, h.th⟩
theorem Le.refl : Le H Z H Z := ⟨Sub.refl, fun _ h => h⟩
theorem Le.trans (h : Le H Z H' Z') (k : Le H' Z' H'' Z'') : Le H Z H'' Z'' := ⟨h.sub.trans k.sub, fun a q => k.th a (h.th a q)⟩
end
/-- a value that is handed on -/
def RvR (K : PySem.W.Frag) (F : Fr) (e : Ev) (σ : L2.St) (H : Hp) (Z : Addr → Prop) (v : V) : Rv → Prop
  | .fz d => Dv K (hid Z H) v d
  | .fr d => ∃ a, v = V.ref a ∧ Z a ∧ Cell K (hid Z H) H a d ∧ ¬ MutAt e σ a ∧ F.H0 a = none
def OpRel (K : PySem.W.Frag) (σ : L2.St) (H : Hp) (Z : Addr → Prop) (v : V) : Op → Prop
  | .pl i => σ[i]? = some (some v)
  | .vl d => Dv K (hid Z H) v d
/-- an operand's content, when it is looked at -/
def Ct (K : PySem.W.Frag) (Z : Addr → Prop) (H : Hp) (v : V) (d : D) : Prop := Dv K (hid Z H) v d ∨ ∃ a, v = V.ref a ∧ Cell K (hid Z H) H a d
section
variable {K : PySem.W.Frag} {F : Fr} {e e' e'' : Ev} {σ : L2.St} {H H' H'' : Hp} {Z Z' Z'' : Addr → Prop} {v : V} {d : D}
theorem Dv.le (l : Le H Z H' Z') (q : Dv K (hid Z H) v d) : Dv K (hid Z' H') v d := Dv.mono l.sub _ _ q
theorem DvAll.le {vs : List V} {ds : List D} (l : Le H Z H' Z') (q : DvAll K (hid Z H) vs ds) : DvAll K (hid Z' H') vs ds := DvAll.mono l.sub _ _ q
theorem Cell.le {a : Addr} (l : Sub (hid Z H) (hid Z' H')) (e : H' a = H a) (q : Cell K (hid Z H) H a d) : Cell K (hid Z' H') H' a d := by
  cases d with
  | list ds =>
    obtain ⟨xs, h, r⟩ := q
    exact ⟨xs, e.trans h, DvAll.mono l _ _ r⟩
  | _ => exact q
theorem Cell.some {a : Addr} (q : Cell K (hid Z H) H a d) : ∃ o, H a = some o := by
  cases d with
  | list ds =>
    obtain ⟨xs, h, r⟩ := q
    exact ⟨_, h⟩
  | _ => exact False.elim q
theorem Ct.full (q : Ct K Z H v d) : Dv K H v d := by
  rcases q with q | ⟨a, rfl, q⟩
  · exact Dv.mono hid_sub _ _ q
  · cases d with
    | list ds =>
      obtain ⟨xs, h, r⟩ := q
      exact .lst (Rd.of h) (DvAll.mono hid_sub _ _ r)
    | _ => exact False.elim q
theorem RvR.keep {r : Rv} (R : Rel K F e σ H Z) (k : Kp e σ H Z e' H' Z') (q : RvR K F e σ H Z v r) : RvR K F e' σ H' Z' v r := by
  cases r with
  | fz d => exact Dv.le (k.le R) q
  | fr d =>
    obtain ⟨a, rfl, z, c, m, f⟩ := q
    obtain ⟨o, ho⟩ := c.some
    obtain ⟨q1, z1, m1⟩ := k.keep a o ho m
    exact ⟨a, rfl, z1.mpr z, c.le (k.le R).sub (q1.trans ho.symm), m1, f⟩
theorem OpRel.keep {o : Op} (R : Rel K F e σ H Z) (k : Kp e σ H Z e' H' Z') (q : OpRel K σ H Z v o) : OpRel K σ H' Z' v o := by
  cases o with
  | pl i => exact q
  | vl d => exact Dv.le (k.le R) q
theorem OpRel.get {o : Op} (R : Rel K F e σ H Z) (q : OpRel K σ H Z v o) (g : o.get e = some d) : Ct K Z H v d := by
  cases o with
  | vl d' =>
    have g' : some d' = some d := g
    cases g'
    exact .inl q
  | pl i =>
    have q' : σ[i]? = some (some v) := q
    have g' : look e i = some d := g
    unfold look at g'
    cases h : e[i]? with
    | none => rw [h] at g'; cases g'
    | some s =>
      rw [h] at g'
      have r := R.sl i s h
      rw [q'] at r
      cases s with
      | un => cases g'
      | val d' =>
        cases g'
        obtain ⟨v', e1, r⟩ := r
        cases e1
        exact .inl r
      | mu b d' =>
        cases g'
        obtain ⟨a, e1, _, c, _⟩ := r
        cases e1
        exact .inr ⟨a, rfl, c⟩
      | frz d' =>
        cases g'
        obtain ⟨a, e1, _, c⟩ := r
        cases e1
        exact .inl c
end
end Cr
set_option Elab.async false
set_option linter.all false
set_option maxRecDepth 100000
/-! Posts, how states grow, freezing. -/
namespace Cr
open PySem PySem.Spec PyProof.Rows L2
section
variable {K : PySem.W.Frag} {F : Fr} {e e' e'' : Ev} {σ : L2.St} {H H' H'' : Hp} {Z Z' Z'' : Addr → Prop} {v : V} {d : D}
theorem SlR.mono {i : Nat} {o : Option (Option V)} {s : Sl} (l : Sub (hid Z H) (hid Z' H')) (hm : ∀ b d a, s = Sl.mu b d → o = some (some (V.ref a)) → Z' a ∧ H' a = H a) (q : SlR K F Z H i o s) : SlR K F Z' H' i o s := by
  cases s with
  | un => trivial
  | val d =>
    obtain ⟨v, e1, r⟩ := q
    exact ⟨v, e1, Dv.mono l _ _ r⟩
  | mu b d =>
    obtain ⟨a, e1, z, c, r1, r2⟩ := q
    obtain ⟨z', h'⟩ := hm b d a rfl e1
    exact ⟨a, e1, z', c.le l h', r1, r2⟩
  | frz d =>
    obtain ⟨a, e1, r1, r2⟩ := q
    exact ⟨a, e1, r1, Dv.mono l _ _ r2⟩
/-- new objects alone -/
theorem Rel.grow (R : Rel K F e σ H Z) (hs : Sub H H') (z1 : ∀ a, Z a → Z' a) (z2 : ∀ a, Z' a → Z a ∨ (H a = none ∧ H' a ≠ none)) : Rel K F e σ H' Z' ∧ Kp e σ H Z e H' Z' := by
  have l : Sub (hid Z H) (hid Z' H') := fun a o q => by
    obtain ⟨z, q⟩ := hid_some.mp q
    refine hid_some.mpr ⟨fun w => ?_, hs a o q⟩
    rcases z2 a w with h | ⟨h, _⟩
    · exact z h
    · rw [q] at h; cases h
  have th : ∀ a, H a ≠ none → H' a ≠ none := fun a h => by
    cases q : H a with
    | none => exact absurd q h
    | some o => rw [hs a o q]; simp
  refine ⟨⟨R.len, fun i s h => (R.sl i s h).mono l fun b d a e1 e2 => ?_, R.ds, fun a h => ?_, fun a h1 h2 => z1 a (R.kz a h1 h2), fun a h => ?_, fun a o h1 h2 => hs a o (R.fr a o h1 h2), R.lz, fun a h => th a (R.th a h), R.z0⟩, ⟨fun a o q m => ⟨hs a o q, ⟨fun w => ?_, z1 a⟩, m⟩, th⟩⟩
  · subst e1
    have m : MutAt e σ a := ⟨i, b, d, h, e2⟩
    obtain ⟨a', e3, _, c, _⟩ := R.sl i _ h
    rw [e2] at e3
    cases e3
    obtain ⟨o, ho⟩ := c.some
    exact ⟨z1 a (R.mutZ m), (hs a o ho).trans ho.symm⟩
  · rcases z2 a h with q | ⟨_, q⟩
    · exact th a (R.zs a q)
    · exact q
  · rcases z2 a h with q | ⟨q, _⟩
    · exact R.zn a q
    · right
      cases q2 : F.H0 a with
      | none => rfl
      | some o => exact absurd q (R.th a (by rw [q2]; simp))
  · rcases z2 a w with h | ⟨h, _⟩
    · exact h
    · rw [q] at h; cases h
/-- what an operation hands on, over the heap that it leaves -/
inductive NewR (K : PySem.W.Frag) (Z : Addr → Prop) (H : Hp) : V → Hp → Rv → Prop
  | old {v : V} {d : D} (q : Dv K (hid Z H) v d) : NewR K Z H v H (.fz d)
  | tup {p : Addr} {xs : List V} {ds : List D} (n : H p = none) (q : DvAll K (hid Z H) xs ds) : NewR K Z H (.ref p) (upd H p (.tup xs)) (.fz (.tuple ds))
  | lst {p : Addr} {xs : List V} {ds : List D} (n : H p = none) (q : DvAll K (hid Z H) xs ds) : NewR K Z H (.ref p) (upd H p (.lst xs)) (.fr (.list ds))
  | dct {p : Addr} (n : H p = none) : NewR K Z H (.ref p) (upd H p (.dK [])) (.fz (.dict []))
theorem sub_upd {p : Addr} {o : HO} (n : H p = none) : Sub H (upd H p o) := fun a u q => by
  rw [upd_ne (ne_of_none q n)]; exact q
theorem hid_upd {p : Addr} {o : HO} (R : Rel K F e σ H Z) (n : H p = none) : Sub (hid Z H) (hid Z (upd H p o)) := fun a u q => by
  obtain ⟨z, q⟩ := hid_some.mp q
  exact hid_some.mpr ⟨z, sub_upd n a u q⟩
/-- a value that an expression hands on -/
def RvS (K : PySem.W.Frag) (F : Fr) (σ : L2.St) (Hs : Hp) (r : Rv) (v : V) (e : Ev) (H : Hp) (Z : Addr → Prop) : Prop := RvR K F e σ H Z v r ∧ ∀ d a, r = .fr d → v = V.ref a → Hs a = none
theorem new_ok {r : Rv} (R : Rel K F e σ H Z) (n : NewR K Z H v H' r) : ∃ Z', Rel K F e σ H' Z' ∧ Kp e σ H Z e H' Z' ∧ RvS K F σ H r v e H' Z' := by
  cases n with
  | old q => exact ⟨Z, R, .refl, q, fun d a e1 => by cases e1⟩
  | @tup p xs ds n q =>
    obtain ⟨R', k⟩ := R.grow (H' := upd H p (.tup xs)) (Z' := Z) (sub_upd n) (fun _ z => z) fun _ z => .inl z
    refine ⟨Z, R', k, ?_, fun d a e1 => by cases e1⟩
    refine .tup (SqT.of (hid_some.mpr ⟨fun z => R.zs p z n, upd_same⟩)) (DvAll.mono (hid_upd R n) _ _ q)
  | @dct p n =>
    obtain ⟨R', k⟩ := R.grow (H' := upd H p (.dK [])) (Z' := Z) (sub_upd n) (fun _ z => z) fun _ z => .inl z
    refine ⟨Z, R', k, ?_, fun d a e1 => by cases e1⟩
    exact .dct (hid_some.mpr ⟨fun z => R.zs p z n, upd_same⟩)
  | @lst p xs ds n q =>
    obtain ⟨R', k⟩ := R.grow (H' := upd H p (.lst xs)) (Z' := fun a => Z a ∨ a = p) (sub_upd n) (fun _ z => .inl z) fun a z => by
      rcases z with z | z
      · exact .inl z
      · subst z
        exact .inr ⟨n, by rw [upd_same]; simp⟩
    refine ⟨_, R', k, ⟨p, rfl, .inr rfl, ⟨xs, upd_same, DvAll.mono (fun a u w => ?_) _ _ q⟩, fun m => R.zs p (R.mutZ m) n, ?_⟩, fun d a _ e2 => by cases e2; exact n⟩
    · obtain ⟨z, w⟩ := hid_some.mp w
      refine hid_some.mpr ⟨fun z' => ?_, sub_upd n a u w⟩
      rcases z' with z' | z'
      · exact z z'
      · subst z'
        rw [n] at w
        cases w
    · cases q2 : F.H0 p with
      | none => rfl
      | some o => exact absurd n (R.th p (by rw [q2]; simp))
/-- a value of its own is held by others from now on -/
theorem Rel.freeze {a : Addr} (R : Rel K F e σ H Z) (z : Z a) (c : Cell K (hid Z H) H a d) (m : ¬ MutAt e σ a) (f : F.H0 a = none ∨ ∃ i, F.la i = some a) :
    Rel K F e σ H (fun b => Z b ∧ b ≠ a) ∧ Dv K (hid (fun b => Z b ∧ b ≠ a) H) (V.ref a) d ∧ ∀ b, b ≠ a → ((Z b ∧ b ≠ a) ↔ Z b) := by
  have l : Sub (hid Z H) (hid (fun b => Z b ∧ b ≠ a) H) := fun b o q => by
    obtain ⟨z, q⟩ := hid_some.mp q
    exact hid_some.mpr ⟨fun w => z w.1, q⟩
  refine ⟨⟨R.len, fun i s h => (R.sl i s h).mono l fun b d' a' e1 e2 => ?_, R.ds, fun b h => R.zs b h.1, fun b h1 h2 => ⟨R.kz b h1 h2, ?_⟩, fun b h => R.zn b h.1, R.fr, R.lz, R.th, R.z0⟩, ?_, fun b h => ⟨fun q => q.1, fun q => ⟨q, h⟩⟩⟩
  · subst e1
    have m' : MutAt e σ a' := ⟨i, b, d', h, e2⟩
    exact ⟨⟨R.mutZ m', fun q => m (q ▸ m')⟩, rfl⟩
  · intro q
    subst q
    rcases f with f | ⟨i, f⟩
    · exact R.z0 _ h1 f
    · exact h2 i f
  · cases d with
    | list ds =>
      obtain ⟨xs, h, r⟩ := c
      exact .lst (Rd.of (hid_some.mpr ⟨fun w => w.2 rfl, h⟩)) (DvAll.mono l _ _ r)
    | _ => exact False.elim c
theorem getElem?_set' {α : Type} {xs : List α} {i j : Nat} {x y : α} (h : (xs.set i x)[j]? = some y) : (j = i ∧ y = x) ∨ (j ≠ i ∧ xs[j]? = some y) := by
  by_cases q : j = i
  · subst q
    by_cases hl : j < xs.length
    · rw [List.getElem?_set_self hl] at h
      exact .inl ⟨rfl, (Option.some.inj h).symm⟩
    · rw [List.getElem?_eq_none (by simpa using hl)] at h
      cases h
  · rw [List.getElem?_set_ne (Ne.symm q)] at h
    exact .inr ⟨q, h⟩
/-- a slot forgets its list, or what it owns -/
theorem Rel.setSlot {i : Nat} {s : Sl} (R : Rel K F e σ H Z) (hs : SlR K F Z H i (σ[i]?) s) (nm : ∀ b d, s ≠ Sl.mu b d) : Rel K F (e.set i s) σ H Z ∧ ∀ a, MutAt (e.set i s) σ a → MutAt e σ a := by
  have mm : ∀ {j : Nat} {b : Bool} {d : D}, (e.set i s)[j]? = some (Sl.mu b d) → e[j]? = some (Sl.mu b d) := fun {j b d} h => by
    rcases getElem?_set' h with ⟨_, q⟩ | ⟨_, q⟩
    · exact absurd q.symm (nm b d)
    · exact q
  refine ⟨⟨by rw [List.length_set]; exact R.len, fun j t h => ?_, fun j k b d b' d' a h1 h2 => R.ds j k b d b' d' a (mm h1) (mm h2), R.zs, R.kz, R.zn, R.fr, R.lz, R.th, R.z0⟩, fun a m => ?_⟩
  · rcases getElem?_set' h with ⟨q1, q2⟩ | ⟨_, q⟩
    · subst q1 q2
      exact hs
    · exact R.sl j t q
  · obtain ⟨j, b, d, h1, h2⟩ := m
    exact ⟨j, b, d, mm h1, h2⟩
/-- a name is read: others may hold its list from now on -/
theorem rdA_ok {i : Nat} {r : Rv} (R : Rel K F e σ H Z) (hv : σ[i]? = some (some v)) (h : rdA i e = .ok r e') : ∃ Z', Rel K F e' σ H Z' ∧ Kp e σ H Z e' H Z' ∧ RvS K F σ H r v e' H Z' := by
  unfold rdA at h
  cases q : e[i]? with
  | none => rw [q] at h; cases h
  | some s =>
    rw [q] at h
    have sr := R.sl i s q
    rw [hv] at sr
    cases s with
    | un => cases h
    | val d =>
      cases h
      obtain ⟨v', e1, r⟩ := sr
      cases e1
      exact ⟨Z, R, .refl, r, fun d a e1 => by cases e1⟩
    | frz d =>
      cases h
      obtain ⟨a, e1, _, r⟩ := sr
      cases e1
      exact ⟨Z, R, .refl, r, fun d a e1 => by cases e1⟩
    | mu b d =>
      obtain ⟨a, e1, z, c, f1, f2⟩ := sr
      cases e1
      have m : MutAt e σ a := ⟨i, b, d, q, hv⟩
      -- forget the slot, freeze, put the value back
      obtain ⟨R1, m1⟩ := R.setSlot (i := i) (s := .un) trivial fun _ _ h => by cases h
      have nm : ¬ MutAt (e.set i .un) σ a := fun ⟨j, b', d', h1, h2⟩ => by
        rcases getElem?_set' h1 with ⟨_, w⟩ | ⟨hj, w⟩
        · cases w
        · exact hj (R.ds j i b' d' b d a w q h2 hv)
      have hf : F.H0 a = none ∨ ∃ i, F.la i = some a := by
        cases b with
        | true => exact .inr ⟨i, f1 rfl⟩
        | false => exact .inl (f2 rfl)
      obtain ⟨R2, dv, zz⟩ := R1.freeze z c nm hf
      have e3 : ∀ s : Sl, (e.set i .un).set i s = e.set i s := fun s => by rw [List.set_set]
      have fin : ∀ s : Sl, SlR K F (fun b => Z b ∧ b ≠ a) H i (σ[i]?) s → (∀ b d, s ≠ Sl.mu b d) → e' = e.set i s → r = .fz d → ∃ Z', Rel K F e' σ H Z' ∧ Kp e σ H Z e' H Z' ∧ RvS K F σ H r (V.ref a) e' H Z' := fun s hs hn he hr => by
        obtain ⟨R3, m3⟩ := R2.setSlot hs hn
        rw [e3 s] at R3 m3
        subst he hr
        refine ⟨_, R3, ⟨fun b o w mb => ⟨w, ?_, fun mb' => mb (m1 b (m3 b mb'))⟩, fun _ w => w⟩, dv, fun d a e1 => by cases e1⟩
        exact zz b fun w2 => mb (w2 ▸ m)
      cases b with
      | true =>
        have h' : Rs.ok (Rv.fz d) (e.set i (.frz d)) = .ok r e' := h
        cases h'
        exact fin (.frz d) ⟨a, hv, f1 rfl, dv⟩ (fun _ _ h => by cases h) rfl rfl
      | false =>
        have h' : Rs.ok (Rv.fz d) (e.set i (.val d)) = .ok r e' := h
        cases h'
        exact fin (.val d) ⟨_, hv, dv⟩ (fun _ _ h => by cases h) rfl rfl
/-- an expression's value, from now on held by others -/
theorem RvS.freeze {r : Rv} {H0 : Hp} {e0 : Ev} {Z0 : Addr → Prop} (R : Rel K F e σ H Z) (k : Kp e0 σ H0 Z0 e H Z) (q : RvS K F σ H0 r v e H Z) : ∃ Z', Rel K F e σ H Z' ∧ Kp e0 σ H0 Z0 e H Z' ∧ Dv K (hid Z' H) v r.d := by
  cases r with
  | fz d => exact ⟨Z, R, k, q.1⟩
  | fr d =>
    obtain ⟨⟨a, rfl, z, c, m, f⟩, n⟩ := q
    obtain ⟨R2, dv, zz⟩ := R.freeze z c m (.inl f)
    refine ⟨_, R2, ⟨fun b o w mb => ?_, k.th⟩, dv⟩
    obtain ⟨w1, z1, m1⟩ := k.keep b o w mb
    refine ⟨w1, (zz b ?_).trans z1, m1⟩
    intro e1
    subst e1
    rw [n d b rfl rfl] at w
    cases w
end
end Cr
set_option Elab.async false
set_option linter.all false
set_option maxRecDepth 100000
/-! Readings by core runs. -/
namespace Cr
open PySem PySem.Spec PyProof.Rows L2
/-- what a piece's result is to the values -/
abbrev RelT (α β : Type) := Fr → L2.St → Hp → α → β → Ev → Hp → (Addr → Prop) → Prop
section
variable {α β γ δ : Type} {K : PySem.W.Frag} {W : WX} {cv : Nat → Value}
/-- what is wanted behind a run m that began at e, H, Z -/
def Pst (K : PySem.W.Frag) (W : WX) (cv : Nat → Value) (R : RelT α β) (F : Fr) (σ : L2.St) (e : Ev) (H : Hp) (Z : Addr → Prop) (m : Rs α) (Q : β → Hp → Prop) : Prop :=
  match m with
  | .ok a e' => ∀ b H' Z', Rel K F e' σ H' Z' → Kp e σ H Z e' H' Z' → R F σ H a b e' H' Z' → Q b H'
  | .ex x e' => ∀ H' Z', Rel K F e' σ H' Z' → Le H Z H' Z' → W (cv x) none σ H'
  | .er => False
/-- the reading of a run -/
def tR (K : PySem.W.Frag) (W : WX) (cv : Nat → Value) (R : RelT α β) (f : Ev → Rs α) : L2.St → Hp → (β → Hp → Prop) → Prop :=
  fun σ H Q => ∃ F e Z, Rel K F e σ H Z ∧ Pst K W cv R F σ e H Z (f e) Q
theorem Pst.mono {R : RelT α β} {F : Fr} {σ : L2.St} {e : Ev} {H : Hp} {Z : Addr → Prop} {m : Rs α} {Q Q' : β → Hp → Prop} (h : Pst K W cv R F σ e H Z m Q) (hq : ∀ b H', Q b H' → Q' b H') : Pst K W cv R F σ e H Z m Q' := by
  cases m with
  | ok a e' => exact fun b H' Z' r k q => hq _ _ (h b H' Z' r k q)
  | ex x e' => exact h
  | er => exact h
/-- one run, then another: what is wanted behind the first -/
theorem Pst.bind {R1 : RelT α β} {R2 : RelT γ δ} {F : Fr} {σ : L2.St} {e : Ev} {H : Hp} {Z : Addr → Prop} {m : Rs α} {f : α → Ev → Rs γ} {Q : δ → Hp → Prop}
    (tr : ∀ a b e1 H1 Z1 H2 e2 Z2 c d, Kp e σ H Z e1 H1 Z1 → R1 F σ H a b e1 H1 Z1 → R2 F σ H1 c d e2 H2 Z2 → R2 F σ H c d e2 H2 Z2)
    (R : Rel K F e σ H Z) (h : Pst K W cv R2 F σ e H Z (m.bind f) Q) :
    Pst K W cv R1 F σ e H Z m fun b H1 => ∃ a e1 Z1, Rel K F e1 σ H1 Z1 ∧ Kp e σ H Z e1 H1 Z1 ∧ R1 F σ H a b e1 H1 Z1 ∧ Pst K W cv R2 F σ e1 H1 Z1 (f a e1) Q := by
  cases m with
  | er => exact h
  | ex x e' => exact h
  | ok a e1 =>
    intro b H1 Z1 r k q
    refine ⟨a, e1, Z1, r, k, q, ?_⟩
    have h' : Pst K W cv R2 F σ e H Z (f a e1) Q := h
    cases g : f a e1 with
    | er => rw [g] at h'; exact h'
    | ex x e' => rw [g] at h'; exact fun H' Z' r' l => h' H' Z' r' ((k.le R).trans l)
    | ok c e2 => rw [g] at h'; exact fun d H' Z' r' k' q' => h' d H' Z' r' (k.trans k') (tr _ _ _ _ _ _ _ _ _ _ k q q')
end
/-! ### the kinds of results -/
abbrev rE (K : PySem.W.Frag) : RelT Rv V := fun F σ Hs r v e H Z => RvS K F σ Hs r v e H Z
abbrev rD (K : PySem.W.Frag) : RelT D V := fun _ _ _ d v _ H Z => Dv K (hid Z H) v d
abbrev rDs (K : PySem.W.Frag) : RelT (List D) (List V) := fun _ _ _ d v _ H Z => DvAll K (hid Z H) v d
abbrev rO (K : PySem.W.Frag) : RelT Op V := fun _ σ _ o v _ H Z => OpRel K σ H Z v o
inductive OpAll (K : PySem.W.Frag) (σ : L2.St) (H : Hp) (Z : Addr → Prop) : List V → List Op → Prop
  | nil : OpAll K σ H Z [] []
  | cons {v : V} {vs : List V} {o : Op} {os : List Op} : OpRel K σ H Z v o → OpAll K σ H Z vs os → OpAll K σ H Z (v :: vs) (o :: os)
abbrev rOs (K : PySem.W.Frag) : RelT (List Op) (List V) := fun _ σ _ o v _ H Z => OpAll K σ H Z v o
abbrev rB : RelT Bool Bool := fun _ _ _ b c _ _ _ => c = b
abbrev rIo : RelT (Option Int) (Option Int) := fun _ _ _ b c _ _ _ => c = b
section
variable {K : PySem.W.Frag} {W : WX} {cv : Nat → Value} {X : Cx}
theorem trE {F : Fr} {σ : L2.St} {e e1 : Ev} {H H1 : Hp} {Z Z1 : Addr → Prop} (k : Kp e σ H Z e1 H1 Z1) {c : Rv} {d : V} {e2 : Ev} {H2 : Hp} {Z2 : Addr → Prop} (q : RvS K F σ H1 c d e2 H2 Z2) : RvS K F σ H c d e2 H2 Z2 :=
  ⟨q.1, fun d a e1 e2 => by
    have n := q.2 d a e1 e2
    cases w : H a with
    | none => rfl
    | some o => exact absurd n (k.th a (by rw [w]; simp))⟩
theorem OpAll.keep {F : Fr} {σ : L2.St} {e e1 : Ev} {H H1 : Hp} {Z Z1 : Addr → Prop} (R : Rel K F e σ H Z) (k : Kp e σ H Z e1 H1 Z1) : ∀ {vs : List V} {os : List Op}, OpAll K σ H Z vs os → OpAll K σ H1 Z1 vs os
  | _, _, .nil => .nil
  | _, _, .cons a r => .cons (a.keep R k) (OpAll.keep R k r)
theorem OpAll.gets {F : Fr} {σ : L2.St} {e : Ev} {H : Hp} {Z : Addr → Prop} (R : Rel K F e σ H Z) : ∀ {vs : List V} {os : List Op} {ds : List D}, OpAll K σ H Z vs os → Cr.gets os e = some ds → Paired (Ct K Z H) vs ds
  | _, _, _, .nil, h => by cases h; exact .nil
  | _, _, ds, .cons (o := o) (os := os) a r, h => by
    have h' : (match o.get e, Cr.gets os e with | some d, some ds => some (d :: ds) | _, _ => none) = some ds := h
    cases h1 : o.get e with
    | none => rw [h1] at h'; cases h'
    | some d =>
      cases h2 : Cr.gets os e with
      | none => rw [h1, h2] at h'; cases h'
      | some es =>
        rw [h1, h2] at h'
        cases h'
        exact .cons (a.get R h1) (OpAll.gets R r h2)
/-- weaker readings -/
theorem _root_.L2.PE.imp {e : Expr} {t t' : TE} (h : PE X e t) (i : ∀ σ H Q, t' σ H Q → t σ H Q) : PE X e t' := ⟨fun pins s σ H Q I w => h.run pins s σ H Q I (i σ H Q w)⟩
theorem _root_.L2.PT.imp {e : Expr} {t t' : TT} (h : PT X e t) (i : ∀ σ H Q, t' σ H Q → t σ H Q) : PT X e t' := ⟨fun pins s σ H Q I w => h.run pins s σ H Q I (i σ H Q w)⟩
theorem _root_.L2.PA.imp {e : List Expr} {t t' : TA} (h : PA X e t) (i : ∀ σ H Q, t' σ H Q → t σ H Q) : PA X e t' := ⟨fun pos pins s σ H Q I w => h.run pos pins s σ H Q I (i σ H Q w)⟩
theorem _root_.L2.PS.imp {e : Stmt} {t t' : TS} (h : PS X e t) (i : ∀ D σ H, t' D σ H → t D σ H) : PS X e t' := ⟨fun pins s σ H D I w => h.run pins s σ H D I (i D σ H w)⟩
theorem _root_.L2.PSs.imp {e : List Stmt} {t t' : TS} (h : PSs X e t) (i : ∀ D σ H, t' D σ H → t D σ H) : PSs X e t' := ⟨fun pins s σ H D I w => h.run pins s σ H D I (i D σ H w)⟩
theorem _root_.L2.PO.imp {e : Option Expr} {t t' : TO} (h : PO X e t) (i : ∀ σ H Q, t' σ H Q → t σ H Q) : PO X e t' := ⟨fun pins s σ H Q I w => h.run pins s σ H Q I (i σ H Q w)⟩
/-- a value, known to others -/
abbrev tE (K : PySem.W.Frag) (W : WX) (cv : Nat → Value) (f : Ev → Rs Rv) : TE := tR K W cv (rE K) f
abbrev tD (K : PySem.W.Frag) (W : WX) (cv : Nat → Value) (f : Ev → Rs D) : TE := tR K W cv (rD K) f
abbrev tO (K : PySem.W.Frag) (W : WX) (cv : Nat → Value) (f : Ev → Rs Op) : TE := tR K W cv (rO K) f
abbrev tT (K : PySem.W.Frag) (W : WX) (cv : Nat → Value) (f : Ev → Rs Bool) : TT := tR K W cv rB f
theorem pe_D {x : Expr} {f : Ev → Rs Rv} (h : PE X x (tE K W cv f)) : PE X x (tD K W cv fun e => (f e).bind fun r e => .ok r.d e) := h.imp fun σ H Q ⟨F, e, Z, R, p⟩ => by
  refine ⟨F, e, Z, R, ?_⟩
  replace p : Pst K W cv (rD K) F σ e H Z ((f e).bind fun r e => .ok r.d e) Q := p
  cases g : f e with
  | er => rw [g] at p; exact p
  | ex x e' => rw [g] at p; exact p
  | ok r e' =>
    rw [g] at p
    intro v H' Z' R' k q
    obtain ⟨Z2, R2, k2, q2⟩ := q.freeze R' k
    exact p v H' Z2 R2 k2 q2
/-- an operand that is no name -/
theorem pe_Ov {x : Expr} {f : Ev → Rs Rv} (h : PE X x (tE K W cv f)) : PE X x (tO K W cv fun e => (f e).bind fun r e => .ok (.vl r.d) e) := (pe_D h).imp fun σ H Q ⟨F, e, Z, R, p⟩ => by
  refine ⟨F, e, Z, R, ?_⟩
  replace p : Pst K W cv (rO K) F σ e H Z ((f e).bind fun r e => .ok (.vl r.d) e) Q := p
  show Pst K W cv (rD K) F σ e H Z ((f e).bind fun r e => .ok r.d e) Q
  cases g : f e with
  | er => rw [g] at p; exact p
  | ex x e' => rw [g] at p; exact p
  | ok r e' => rw [g] at p; exact p
theorem look_val {F : Fr} {e : Ev} {σ : L2.St} {H : Hp} {Z : Addr → Prop} {i : Nat} {d : D} (R : Rel K F e σ H Z) (h : look e i = some d) : ∃ v, σ[i]? = some (some v) := by
  unfold look at h
  cases q : e[i]? with
  | none => rw [q] at h; cases h
  | some s =>
    rw [q] at h
    have r := R.sl i s q
    cases s with
    | un => cases h
    | val _ => obtain ⟨v, e1, _⟩ := r; exact ⟨v, e1⟩
    | mu _ _ => obtain ⟨v, e1, _⟩ := r; exact ⟨_, e1⟩
    | frz _ => obtain ⟨v, e1, _⟩ := r; exact ⟨_, e1⟩
/-- an operand that is a name -/
theorem pe_Op {x : Expr} {i : Nat} (h : PE X x (tVar i)) : PE X x (tO K W cv fun e => match look e i with | some _ => .ok (.pl i) e | none => .er) := h.imp fun σ H Q ⟨F, e, Z, R, p⟩ => by
  replace p : Pst K W cv (rO K) F σ e H Z (match look e i with | some _ => .ok (.pl i) e | none => .er) Q := p
  cases g : look e i with
  | none => rw [g] at p; exact p.elim
  | some d =>
    rw [g] at p
    obtain ⟨v, hv⟩ := look_val R g
    exact ⟨v, hv, p v H Z R .refl hv⟩
/-- a name as a value -/
theorem pe_rd {x : Expr} {i : Nat} (h : PE X x (tVar i)) : PE X x (tE K W cv (rdA i)) := h.imp fun σ H Q ⟨F, e, Z, R, p⟩ => by
  cases g : rdA i e with
  | er => rw [g] at p; exact p.elim
  | ex x e' => unfold rdA at g; split at g <;> cases g
  | ok r e' =>
    rw [g] at p
    have : ∃ v, σ[i]? = some (some v) := by
      unfold rdA at g
      cases q : e[i]? with
      | none => rw [q] at g; cases g
      | some s =>
        rw [q] at g
        have r := R.sl i s q
        cases s with
        | un => cases g
        | val _ => obtain ⟨v, e1, _⟩ := r; exact ⟨v, e1⟩
        | mu _ _ => obtain ⟨v, e1, _⟩ := r; exact ⟨_, e1⟩
        | frz _ => obtain ⟨v, e1, _⟩ := r; exact ⟨_, e1⟩
    obtain ⟨v, hv⟩ := this
    obtain ⟨Z', R', k, q⟩ := rdA_ok R hv g
    exact ⟨v, hv, p v H Z' R' k q⟩
/-- a constant -/
theorem pe_const {x : Expr} {v : V} {d : D} (h : PE X x (tC v)) (q : ∀ H, Dv K H v d) : PE X x (tE K W cv fun e => .ok (.fz d) e) := h.imp fun σ H Q ⟨F, e, Z, R, p⟩ => p v H Z R .refl ⟨q _, fun _ _ e => by cases e⟩
/-- an operator's result, from the contents of its operands -/
def rBin (K : PySem.W.Frag) (f : D → D → Option Rv) : R2 := fun x y H Q => ∃ Z a b r, Ct K Z H x a ∧ Ct K Z H y b ∧ f a b = some r ∧ ∀ v H', NewR K Z H v H' r → Q v H'
def rUn (K : PySem.W.Frag) (f : D → Option Rv) : V → Hp → VK → Prop := fun x H Q => ∃ Z a r, Ct K Z H x a ∧ f a = some r ∧ ∀ v H', NewR K Z H v H' r → Q v H'
def rMany (K : PySem.W.Frag) (f : List D → Option Rv) : List V → Hp → VK → Prop := fun xs H Q => ∃ Z ds r, Paired (Ct K Z H) xs ds ∧ f ds = some r ∧ ∀ v H', NewR K Z H v H' r → Q v H'
theorem two_ok {F : Fr} {e : Ev} {σ : L2.St} {H : Hp} {Z : Addr → Prop} {o1 o2 : Op} {x y : V} {f : D → D → Option Rv} {Q : VK} (R : Rel K F e σ H Z) (h1 : OpRel K σ H Z x o1) (h2 : OpRel K σ H Z y o2) (p : Pst K W cv (rE K) F σ e H Z (two o1 o2 e f) Q) : rBin K f x y H Q := by
  unfold two at p
  cases g1 : o1.get e with
  | none => rw [g1] at p; exact p.elim
  | some a =>
    cases g2 : o2.get e with
    | none => rw [g1, g2] at p; exact p.elim
    | some b =>
      rw [g1, g2] at p
      cases g3 : f a b with
      | none => simp only [g3] at p; exact p.elim
      | some r =>
        simp only [g3] at p
        refine ⟨Z, a, b, r, h1.get R g1, h2.get R g2, g3, fun v H' n => ?_⟩
        obtain ⟨Z', R', k, q⟩ := new_ok R n
        exact p v H' Z' R' k q
theorem one_ok {F : Fr} {e : Ev} {σ : L2.St} {H : Hp} {Z : Addr → Prop} {o1 : Op} {x : V} {f : D → Option Rv} {Q : VK} (R : Rel K F e σ H Z) (h1 : OpRel K σ H Z x o1) (p : Pst K W cv (rE K) F σ e H Z (one o1 e f) Q) : rUn K f x H Q := by
  unfold one at p
  cases g1 : o1.get e with
  | none => rw [g1] at p; exact p.elim
  | some a =>
    rw [g1] at p
    cases g3 : f a with
    | none => simp only [g3] at p; exact p.elim
    | some r =>
      simp only [g3] at p
      refine ⟨Z, a, r, h1.get R g1, g3, fun v H' n => ?_⟩
      obtain ⟨Z', R', k, q⟩ := new_ok R n
      exact p v H' Z' R' k q
theorem many_ok {F : Fr} {e : Ev} {σ : L2.St} {H : Hp} {Z : Addr → Prop} {os : List Op} {xs : List V} {f : List D → Option Rv} {Q : VK} (R : Rel K F e σ H Z) (h1 : OpAll K σ H Z xs os) (p : Pst K W cv (rE K) F σ e H Z (many os e f) Q) : rMany K f xs H Q := by
  unfold many at p
  cases g1 : gets os e with
  | none => rw [g1] at p; exact p.elim
  | some ds =>
    rw [g1] at p
    cases g3 : f ds with
    | none => simp only [g3] at p; exact p.elim
    | some r =>
      simp only [g3] at p
      refine ⟨Z, ds, r, h1.gets R g1, g3, fun v H' n => ?_⟩
      obtain ⟨Z', R', k, q⟩ := new_ok R n
      exact p v H' Z' R' k q
/-- two operands, an operator -/
theorem bin_red {f1 f2 : Ev → Rs Op} {f : D → D → Option Rv} {σ : L2.St} {H : Hp} {Q : VK} (w : tE K W cv (fun e => (f1 e).bind fun x e => (f2 e).bind fun y e => two x y e f) σ H Q) : tOp (rBin K f) (tO K W cv f1) (tO K W cv f2) σ H Q := by
  obtain ⟨F, e, Z, R, p⟩ := w
  refine ⟨F, e, Z, R, (p.bind (R1 := rO K) (fun _ _ _ _ _ _ _ _ _ _ k _ q => trE k q) R).mono fun x H1 ⟨o1, e1, Z1, R1, k1, q1, p1⟩ => ?_⟩
  refine ⟨F, e1, Z1, R1, (p1.bind (R1 := rO K) (fun _ _ _ _ _ _ _ _ _ _ k _ q => trE k q) R1).mono fun y H2 ⟨o2, e2, Z2, R2, k2, q2, p2⟩ => ?_⟩
  exact two_ok R2 (q1.keep R1 k2) q2 p2
theorem un_red {f1 : Ev → Rs Op} {f : D → Option Rv} {σ : L2.St} {H : Hp} {Q : VK} (w : tE K W cv (fun e => (f1 e).bind fun x e => one x e f) σ H Q) : tUn (rUn K f) (tO K W cv f1) σ H Q := by
  obtain ⟨F, e, Z, R, p⟩ := w
  refine ⟨F, e, Z, R, (p.bind (R1 := rO K) (fun _ _ _ _ _ _ _ _ _ _ k _ q => trE k q) R).mono fun x H1 ⟨o1, e1, Z1, R1, k1, q1, p1⟩ => ?_⟩
  exact one_ok R1 q1 p1
end
end Cr
set_option Elab.async false
set_option linter.all false
set_option maxRecDepth 100000
set_option maxHeartbeats 2000000
/-! Operators by the data of their operands. -/
namespace Cr
open PySem PySem.Spec PyProof.Rows L2
section
variable {K : PySem.W.Frag} {Z : Addr → Prop} {H H' : Hp} {v : V}
theorem Ct.int {i : Int} (h : Ct K Z H v (.int i)) : v = .int i := by
  have q := h.full
  cases q
  rfl
theorem Ct.bool {i : Bool} (h : Ct K Z H v (.bool i)) : v = .bl i := by
  have q := h.full
  cases q
  rfl
theorem Ct.str {i : Str} (h : Ct K Z H v (.str i)) : v = .str i := by
  have q := h.full
  cases q
  rfl
theorem Ct.none (h : Ct K Z H v .none) : v = .non := by
  have q := h.full
  cases q
  rfl
theorem Ct.tup {ds : List D} (h : Ct K Z H v (.tuple ds)) : ∃ a xs, v = .ref a ∧ SqT K H a xs ∧ DvAll K (hid Z H) xs ds := by
  rcases h with h | ⟨a, _, h⟩
  · cases h with
    | tup s r => exact ⟨_, _, rfl, hid_sub.sqT s, r⟩
  · exact h.elim
theorem Ct.lst {ds : List D} (h : Ct K Z H v (.list ds)) : ∃ a xs, v = .ref a ∧ Rd H a (.lst xs) ∧ DvAll K (hid Z H) xs ds := by
  rcases h with h | ⟨a, e, h⟩
  · cases h with
    | lst s r => exact ⟨_, _, rfl, hid_sub.rd s, r⟩
  · obtain ⟨xs, h1, h2⟩ := h
    exact ⟨a, xs, e, Rd.of h1, h2⟩
theorem Ct.tupH {ds : List D} (h : Ct K Z H v (.tuple ds)) : Dv K (hid Z H) v (.tuple ds) := by
  rcases h with h | ⟨a, _, h⟩
  · exact h
  · exact h.elim
theorem Rd.sq {K : PySem.W.Frag} {a : Addr} {xs : List V} (h : Rd H a (.lst xs)) : SqL K H a xs := .inl h
theorem NewR.int {i : Int} : NewR K Z H (.int i) H (.fz (.int i)) := .old (.int i)
theorem NewR.bool {i : Bool} : NewR K Z H (.bl i) H (.fz (.bool i)) := .old (.bl i)
theorem NewR.str {i : Str} : NewR K Z H (.str i) H (.fz (.str i)) := .old (.str i)
theorem cutD_of {xs : List V} {ds : List D} {lo hi : Option Int} (r : DvAll K H xs ds) : DvAll K H (cutV xs lo hi) (cutD ds lo hi) := by
  unfold cutV cutD
  rw [r.length]
  exact (r.drop _).take _
end
section
variable {X : Cx} {pins : List (Addr × Obj)} {σ : L2.St} {H : Hp} {s : Shared} {a b : Addr} {xs ys zs : List V}
theorem rd_lst (I : Inv X pins σ H s) (h : Rd H a (.lst xs)) : xs.length ≤ sizeLine ∧ ∃ (its : List Value) (n : Nat), Vals xs its ∧ xs.length = its.length ∧ s.heap.get? a = some { cls := .type "list", data := .seq its.toArray n } := by
  obtain ⟨z, its, n, r, e⟩ := h.ok I.hok
  exact ⟨z, its, n, r, r.length, e⟩
def rCatL : R2 := fun x y H Q => ∃ l b xs zs, x = .ref l ∧ y = .ref b ∧ Rd H l (.lst xs) ∧ Rd H b (.lst zs) ∧ xs.length + zs.length ≤ sizeLine ∧ ∀ p, H p = none → Q (.ref p) (upd H p (.lst (xs ++ zs)))
theorem op_catL : OpR X (binaryOp .Add) rCatL := by
  intro pins s σ H x y v u Q I rx ry h
  obtain ⟨l, b, xs, zs, rfl, rfl, h1, h2, hz, q⟩ := h
  cases rx
  cases ry
  obtain ⟨_, i1, n1, r1, l1, g1⟩ := rd_lst I h1
  obtain ⟨_, i2, n2, r2, l2, g2⟩ := rd_lst I h2
  refine PySem.P.add_list g1 g2 ?_ (by rw [List.size_toArray, List.size_toArray]; omega)
  rw [show i1.toArray ++ i2.toArray = (i1 ++ i2).toArray by simp]
  refine ⟨.ref _, _, I.lnew (t' := s.toks) (r1.append r2) ?_, rfl, q _ I.fresh⟩
  rw [List.length_append]
  omega
end
section
variable {X : Cx}
/-- an operator over data, from a rule for each kind -/
theorem OpR.imp {f : Value → Value → Sem Value} {r r' : R2} (h : OpR X f r) (i : ∀ x y H Q, r' x y H Q → r x y H Q) : OpR X f r' := fun pins s σ H x y v u Q I rx ry w => h pins s σ H x y v u Q I rx ry (i x y H Q w)
theorem mulOk_of {i j : Int} (h : mulOk i j = true) : CMul i j ∨ CMulW i j := by
  unfold mulOk at h
  simp only [Bool.or_eq_true, decide_eq_true_eq] at h
  rcases h with (h | h) | h
  · exact .inl (.inl h)
  · exact .inl (.inr h)
  · exact .inr h
theorem bin_add : OpR X (binaryOp .Add) (rBin X.K (binD .Add)) := by
  intro pins s σ H x y v u Q I rx ry ⟨Z, a, b, r, ha, hb, e, k⟩
  unfold binD at e
  split at e <;> try (first | cases e | skip)
  all_goals try contradiction
  · cases ha.int; cases hb.int
    exact op_add pins s σ H _ _ v u Q I rx ry ⟨_, _, rfl, rfl, k _ _ .int⟩
  · rename_i i j _
    cases ha.str; cases hb.str
    split at e
    · cases e
      exact op_add_str pins s σ H _ _ v u Q I rx ry ⟨_, _, rfl, rfl, by assumption, k _ _ .str⟩
    · cases e
  · split at e
    · rename_i hz
      cases e
      obtain ⟨p, xs, rfl, h1, r1⟩ := ha.tup
      obtain ⟨q, ys, rfl, h2, r2⟩ := hb.tup
      have hT := ha.tupH
      have hU := hb.tupH
      refine op_catA pins s σ H _ _ v u Q I rx ry ⟨p, q, xs, ys, rfl, rfl, h1, h2, by rw [r1.length, r2.length]; exact hz, fun w => ?_, fun _ w => ?_, fun _ _ p' n => k _ _ (.tup n (r1.append r2))⟩
      · subst w
        cases r1
        exact k _ _ (.old hU)
      · subst w
        cases r2
        rw [List.append_nil] at k
        exact k _ _ (.old hT)
    · cases e
  · split at e
    · rename_i hz
      cases e
      obtain ⟨p, xs, rfl, h1, r1⟩ := ha.lst
      obtain ⟨q, ys, rfl, h2, r2⟩ := hb.lst
      exact op_catL pins s σ H _ _ v u Q I rx ry ⟨p, q, xs, ys, rfl, rfl, h1, h2, by rw [r1.length, r2.length]; exact hz, fun p' n => k _ _ (.lst n (r1.append r2))⟩
    · cases e
theorem bin_sub : OpR X (binaryOp .Sub) (rBin X.K (binD .Sub)) := by
  intro pins s σ H x y v u Q I rx ry ⟨Z, a, b, r, ha, hb, e, k⟩
  unfold binD at e
  split at e <;> try (first | cases e | skip)
  all_goals try contradiction
  cases ha.int; cases hb.int
  exact op_sub pins s σ H _ _ v u Q I rx ry ⟨_, _, rfl, rfl, k _ _ .int⟩
theorem bin_fdiv : OpR X (binaryOp .FloorDiv) (rBin X.K (binD .FloorDiv)) := by
  intro pins s σ H x y v u Q I rx ry ⟨Z, a, b, r, ha, hb, e, k⟩
  unfold binD at e
  split at e <;> try (first | cases e | skip)
  all_goals try contradiction
  split at e
  · rename_i hz
    cases e
    cases ha.int; cases hb.int
    exact op_fdivW pins s σ H _ _ v u Q I rx ry ⟨_, _, rfl, rfl, hz, k _ _ .int⟩
  · cases e
theorem bin_mod : OpR X (binaryOp .Mod) (rBin X.K (binD .Mod)) := by
  intro pins s σ H x y v u Q I rx ry ⟨Z, a, b, r, ha, hb, e, k⟩
  unfold binD at e
  split at e <;> try (first | cases e | skip)
  all_goals try contradiction
  split at e
  · rename_i hz
    cases e
    cases ha.int; cases hb.int
    exact op_mod pins s σ H _ _ v u Q I rx ry ⟨_, _, rfl, rfl, hz, k _ _ .int⟩
  · cases e
theorem bin_pow : OpR X (binaryOp .Pow) (rBin X.K (binD .Pow)) := by
  intro pins s σ H x y v u Q I rx ry ⟨Z, a, b, r, ha, hb, e, k⟩
  unfold binD at e
  split at e <;> try (first | cases e | skip)
  all_goals try contradiction
  split at e
  · rename_i hz
    cases e
    cases ha.int; cases hb.int
    exact op_pow pins s σ H _ _ v u Q I rx ry ⟨_, _, rfl, rfl, ⟨hz.1, by omega, hz.2.2⟩, k _ _ .int⟩
  · cases e
end
end Cr
set_option Elab.async false
set_option linter.all false
set_option maxRecDepth 100000
set_option maxHeartbeats 4000000
namespace Cr
open PySem PySem.Spec PyProof.Rows L2
/-! ### tuple * int, list * int -/
theorem tuple_mul_same (l : Addr) (items : Array Value) (n : Nat) (dd : Option Addr) (sl : Array (Option Value)) (x : Int) (u : Tok) (c0 : (decide (x < -(2 ^ 63)) || decide (x ≥ 2 ^ 63)) = false) (c1 : (items.isEmpty || x == 1) = true) :
    Meets (Builtin.«tuple.__mul__» ⟨[.ref l, .int x u], []⟩) (fun _ R s => s.heap.get? l = some { cls := .type "tuple", dict := dd, data := .seq items n, slots := sl } ∧
      R (.ok (.ret (Value.ref l))) s) :=
  .of_wp fun prog w A R s h => by
    obtain ⟨hp, g, d, tk, os⟩ := s
    obtain ⟨hl, h⟩ := h
    have f1 := AutoSeq1.idx_int
    wp_walk using wpAny_loadPart' hl
    repeat (first
      | (refine wpAny_ite_false (decide_eq_false (by rw [c0]; exact Bool.false_ne_true)) ?_; wp_walk using wpAny_loadPart' hl)
      | (refine wpAny_ite_true (decide_eq_true c1) ?_; wp_walk using wpAny_loadPart' hl))
    exact ⟨_, rfl, h⟩
theorem tuple_mul_none (l : Addr) (items : Array Value) (n : Nat) (dd : Option Addr) (sl : Array (Option Value)) (x : Int) (u : Tok) (c0 : (decide (x < -(2 ^ 63)) || decide (x ≥ 2 ^ 63)) = false) (c1 : (items.isEmpty || x == 1) = false) (c2 : (decide (x ≤ 0) || items.isEmpty) = true) :
    Meets (Builtin.«tuple.__mul__» ⟨[.ref l, .int x u], []⟩) (fun _ R s => s.heap.get? l = some { cls := .type "tuple", dict := dd, data := .seq items n, slots := sl } ∧
      R (.ok (.ret (Value.ref s.heap.objs.size))) { s with heap := s.heap.push { cls := Value.type "tuple", data := Data.seq #[] }, toks := s.toks }) :=
  .of_wp fun prog w A R s h => by
    obtain ⟨hp, g, d, tk, os⟩ := s
    obtain ⟨hl, h⟩ := h
    have f1 := AutoSeq1.idx_int
    wp_walk using wpAny_loadPart' hl
    repeat (first
      | (refine wpAny_ite_false (decide_eq_false (by rw [c0]; exact Bool.false_ne_true)) ?_; wp_walk using wpAny_loadPart' hl)
      | (refine wpAny_ite_false (decide_eq_false (by rw [c1]; exact Bool.false_ne_true)) ?_; wp_walk using wpAny_loadPart' hl)
      | (refine wpAny_ite_true (decide_eq_true c2) ?_; wp_walk using wpAny_loadPart' hl))
    exact ⟨_, rfl, h⟩

section
variable {X : Cx}
def rRepA (K : PySem.W.Frag) : R2 := fun x y H Q => ∃ l k xs, x = .ref l ∧ y = .int k ∧ SqT K H l xs ∧ k < 1000000 ∧ -1000000 < k ∧ xs.length * k.toNat ≤ sizeLine ∧
  (xs = [] ∨ k = 1 → Q (.ref l) H) ∧ (xs ≠ [] → k ≠ 1 → ∀ p, H p = none → Q (.ref p) (upd H p (.tup (List.replicate k.toNat xs).flatten)))
theorem op_repA : OpR X (binaryOp .Mult) (rRepA X.K) := by
  intro pins s σ H x y v u Q I rx ry h
  obtain ⟨l, k, xs, rfl, rfl, hT, hk1, hk2, hz, q0, q1⟩ := h
  cases rx
  obtain ⟨t, rfl⟩ := ry
  obtain ⟨its, r, ⟨⟨cls, dd, data, sl⟩, ho, hc, n, hd⟩, hs⟩ := I.tuple hT
  simp only at hc hd
  subst hc hd
  have hle : its.length = xs.length := r.length.symm
  have c0 : (decide (k < -(2 ^ 63)) || decide (k ≥ 2 ^ 63)) = false := by
    rw [decide_eq_false (by omega), decide_eq_false (by omega)] <;> rfl
  by_cases hself : xs = [] ∨ k = 1
  · have c1 : (its.toArray.isEmpty || k == 1) = true := by
      rcases hself with h | h
      · subst h
        cases r
        rfl
      · subst h
        simp
    refine wpAny_binaryOp_repeat_ref (T := "tuple") (U := "int") (by decide) ⟨_, ho, rfl⟩ (fun s' => typeIs_int s' k t) noFill_tuple_mul F.fills_int_mul F.slot_int_rmul repeat_tuple F.slot_int_index.lookup
      (call_meets F.slot_int_rmul (typeIs_int s k t) F.entry_int_rmul (F.args_int_rmul_2 _ _) (int_rmul_tuple k t l its.toArray n dd sl)
        ⟨ho, rfl, ⟨_, ho, rfl⟩, call_meets F.slot_tuple_mul ⟨_, ho, rfl⟩ F.entry_tuple_mul (F.args_tuple_mul_2 _ _) (tuple_mul_same l its.toArray n dd sl k t c0 c1) ⟨ho, ?_⟩⟩)
    exact ⟨.ref l, H, I, rfl, q0 hself⟩
  · have hne : xs ≠ [] := fun h => hself (.inl h)
    have hk : k ≠ 1 := fun h => hself (.inr h)
    have hi : its.toArray.isEmpty = false := by
      cases its with
      | nil => exact absurd (List.eq_nil_of_length_eq_zero hle.symm) hne
      | cons a b => rfl
    have c1 : (its.toArray.isEmpty || k == 1) = false := by
      rw [hi, Bool.false_or]
      exact beq_eq_false_iff_ne.mpr hk
    by_cases hneg : k ≤ 0
    · have c2 : (decide (k ≤ 0) || its.toArray.isEmpty) = true := by rw [decide_eq_true hneg]; rfl
      refine wpAny_binaryOp_repeat_ref (T := "tuple") (U := "int") (by decide) ⟨_, ho, rfl⟩ (fun s' => typeIs_int s' k t) noFill_tuple_mul F.fills_int_mul F.slot_int_rmul repeat_tuple F.slot_int_index.lookup
        (call_meets F.slot_int_rmul (typeIs_int s k t) F.entry_int_rmul (F.args_int_rmul_2 _ _) (int_rmul_tuple k t l its.toArray n dd sl)
          ⟨ho, rfl, ⟨_, ho, rfl⟩, call_meets F.slot_tuple_mul ⟨_, ho, rfl⟩ F.entry_tuple_mul (F.args_tuple_mul_2 _ _) (tuple_mul_none l its.toArray n dd sl k t c0 c1 c2) ⟨ho, ?_⟩⟩)
      have e : (List.replicate k.toNat xs).flatten = ([] : List V) := by
        rw [show k.toNat = 0 by omega]
        rfl
      have q := q1 hne hk
      rw [e] at q
      refine ⟨.ref s.heap.objs.size, _, I.laid (t' := s.toks) (o := .tup []) (fun b ob q => Heap.get?_push_of_some _ q) (Nat.le_refl _) ?_, rfl, q _ (I.hok.fresh (Nat.le_refl _))⟩
      exact ⟨Nat.zero_le _, [], .nil, IsTup.new _ _⟩
    · have hsl := sizeLine_eq
      have flen : (List.replicate k.toNat its).flatten.length ≤ sizeLine := by
        rw [PyProof.Rows.lm_len_rep_flat, hle, Nat.mul_comm]
        exact hz
      have c2 : (decide (k ≤ 0) || its.toArray.isEmpty) = false := by
        rw [hi, Bool.or_false]
        exact decide_eq_false hneg
      have em : ((its.toArray.size : Nat) : Int) * k = ((xs.length * k.toNat : Nat) : Int) := by
        rw [List.size_toArray, hle, Int.natCast_mul, Int.toNat_of_nonneg (by omega)]
      have c4 : Builtin.Tuple.tupleTooMany (((its.toArray.size : Nat) : Int) * k) = false := by
        unfold Builtin.Tuple.tupleTooMany
        rw [em]
        exact decide_eq_false (by omega)
      refine wpAny_binaryOp_repeat_ref (T := "tuple") (U := "int") (by decide) ⟨_, ho, rfl⟩ (fun s' => typeIs_int s' k t) noFill_tuple_mul F.fills_int_mul F.slot_int_rmul repeat_tuple F.slot_int_index.lookup
        (call_meets F.slot_int_rmul (typeIs_int s k t) F.entry_int_rmul (F.args_int_rmul_2 _ _) (int_rmul_tuple k t l its.toArray n dd sl)
          ⟨ho, rfl, ⟨_, ho, rfl⟩, call_meets F.slot_tuple_mul ⟨_, ho, rfl⟩ F.entry_tuple_mul (F.args_tuple_mul_2 _ _) (tuple_mulW l its.toArray n dd sl k t c0 c1 c2 (by rw [em]; omega) c4 (by rw [size_rep, List.size_toArray]; exact flen)) ⟨ho, ?_⟩⟩)
      rw [size_rep]
      refine ⟨.ref s.heap.objs.size, _, I.laid (t' := s.toks) (o := .tup (List.replicate k.toNat xs).flatten) (fun b ob q => Heap.get?_push_of_some _ q) (Nat.le_refl _) ?_, rfl, q1 hne hk _ (I.hok.fresh (Nat.le_refl _))⟩
      exact ⟨by rw [PyProof.Rows.lm_len_rep_flat, Nat.mul_comm]; exact hz, _, r.rep k.toNat, IsTup.new _ _⟩
end
end Cr
set_option Elab.async false
set_option linter.all false
set_option maxRecDepth 100000
set_option maxHeartbeats 4000000
namespace Cr
open PySem PySem.Spec PyProof.Rows L2
section
variable {X : Cx}
def rRepL : R2 := fun x y H Q => ∃ l k xs, x = .ref l ∧ y = .int k ∧ Rd H l (.lst xs) ∧ k < 1000000 ∧ -1000000 < k ∧ xs.length * k.toNat ≤ sizeLine ∧ ∀ p, H p = none → Q (.ref p) (upd H p (.lst (List.replicate k.toNat xs).flatten))
theorem op_repL : OpR X (binaryOp .Mult) rRepL := by
  intro pins s σ H x y v u Q I rx ry h
  obtain ⟨l, k, xs, rfl, rfl, hH, h1, h2, hz, q⟩ := h
  cases rx
  obtain ⟨t, rfl⟩ := ry
  obtain ⟨_, its, n, r, hl, e⟩ := rd_lst I hH
  have hs := sizeLine_eq
  have hm : its.toArray.size * k.toNat ≤ sizeLine := by rw [List.size_toArray, ← hl]; exact hz
  have f0 : ∀ m : Nat, List.foldl (fun x1 x2 => x1 ++ x2) #[] (List.replicate m its.toArray) = (List.replicate m its).flatten.toArray := size_rep its
  have hnew : List.foldl (fun x1 x2 => x1 ++ x2) #[] (List.replicate (if its.toArray.isEmpty = true then 0 else k.toNat) its.toArray) = (List.replicate k.toNat its).flatten.toArray := by
    rw [f0]
    cases its with
    | nil => simp
    | cons a b => rfl
  have g1 : ¬ (!Builtin.List.listFitsIndex k) = true := by rw [fitsIndex_both (by omega) (by omega)]; simp
  have g2 : ¬ its.toArray.size * k.toNat > (2 ^ 63 - 1) / 8 := by omega
  have g3 : ¬ Builtin.List.listTooLong (its.toArray.size * k.toNat) = true := by rw [notLongL hm]; simp
  refine wpAny_binaryOp_repeat_ref (T := "list") (U := "int") (by decide) ⟨_, e, rfl⟩ (fun s' => typeIs_int s' k t) noFill_list_mul F.fills_int_mul F.slot_int_rmul repeat_list F.slot_int_index.lookup
    (call_meets F.slot_int_rmul (typeIs_int s k t) F.entry_int_rmul (F.args_int_rmul_2 _ _) (int___rmul___int_list k t l its.toArray n)
      ⟨e, rfl, ⟨_, e, rfl⟩, call_meets F.slot_list_mul ⟨_, e, rfl⟩ F.entry_list_mul (F.args_list_mul_2 _ _) (AutoListH.list___mul___list_int_3 l its.toArray n k t g1 g2 g3) ⟨e, ?_⟩⟩)
  rw [hnew]
  refine ⟨.ref _, _, I.lnew (t' := s.toks) (r.rep k.toNat) ?_, rfl, q _ I.fresh⟩
  rw [PyProof.Rows.lm_len_rep_flat, Nat.mul_comm]
  exact hz
theorem bin_mult : OpR X (binaryOp .Mult) (rBin X.K (binD .Mult)) := by
  intro pins s σ H x y v u Q I rx ry ⟨Z, a, b, r, ha, hb, e, k⟩
  unfold binD at e
  split at e <;> try (first | cases e | skip)
  all_goals try contradiction
  · split at e
    · rename_i hz
      cases e
      cases ha.int; cases hb.int
      rcases mulOk_of hz with h | h
      · exact op_mul pins s σ H _ _ v u Q I rx ry ⟨_, _, rfl, rfl, h, k _ _ .int⟩
      · exact op_mulW pins s σ H _ _ v u Q I rx ry ⟨_, _, rfl, rfl, h, k _ _ .int⟩
    · cases e
  · split at e
    · rename_i ds i _ hz
      cases e
      cases hb.int
      have hT := ha.tupH
      obtain ⟨p, xs, rfl, h1, r1⟩ := ha.tup
      refine op_repA pins s σ H _ _ v u Q I rx ry ⟨p, i, xs, rfl, rfl, h1, hz.1, hz.2.1, by rw [r1.length]; exact hz.2.2, fun w => ?_, fun _ _ p' n => k _ _ (.tup n (r1.rep _))⟩
      have e2 : repD ds i.toNat = ds := by
        rcases w with w | w
        · subst w
          cases r1
          unfold repD
          simp
        · subst w
          simp [repD]
      rw [e2] at k
      exact k _ _ (.old hT)
    · cases e
  · split at e
    · rename_i ds i _ hz
      cases e
      cases hb.int
      obtain ⟨p, xs, rfl, h1, r1⟩ := ha.lst
      exact op_repL pins s σ H _ _ v u Q I rx ry ⟨p, i, xs, rfl, rfl, h1, hz.1, hz.2.1, by rw [r1.length]; exact hz.2.2, fun p' n => k _ _ (.lst n (r1.rep _))⟩
    · cases e
theorem un_negD : UnR X (unaryOp .USub) (rUn X.K fun d => match d with | .int i => some (.fz (.int (-i))) | _ => none) := by
  intro pins s σ H x v Q I rx ⟨Z, a, r, ha, e, k⟩
  cases a <;> try (cases e; done)
  cases e
  cases ha.int
  exact un_neg pins s σ H _ v Q I rx ⟨_, rfl, k _ _ .int⟩
/-! ### comparisons -/
mutual
theorem Dv.dp {K : PySem.W.Frag} {H : Hp} : ∀ (d : D) (v : V), Dv K H v d → d.canLay0 = true → Dp K H v d
  | .none, _, q, _ => by cases q; exact .non
  | .bool _, _, q, _ => by cases q; exact .bl _
  | .int _, _, q, _ => by cases q; exact .int _
  | .str _, _, q, _ => by cases q; exact .str _
  | .list ds, _, q, c => by
    cases q with
    | lst s r => exact .lst (.inl s) (DvAll.dp ds _ r (by simpa [PyData.canLay0] using c))
  | .tuple ds, _, q, c => by
    cases q with
    | tup s r => exact .tup s (DvAll.dp ds _ r (by simpa [PyData.canLay0] using c))
  | .dict _, _, q, c => by simp [PyData.canLay0] at c
theorem DvAll.dp {K : PySem.W.Frag} {H : Hp} : ∀ (ds : List D) (vs : List V), DvAll K H vs ds → PyData.canLayAll0 ds = true → DpAll K H vs ds
  | [], _, q, _ => by cases q; exact .nil
  | d :: ds, _, q, c => by
    have c' : d.canLay0 = true ∧ PyData.canLayAll0 ds = true := by simpa [PyData.canLayAll0] using c
    cases q with
    | cons a b => exact .cons (Dv.dp d _ a c'.1) (DvAll.dp ds _ b c'.2)
end
/-- a comparison's reading -/
def rCm (K : PySem.W.Frag) (f : D → D → Option Bool) : R2 := rBin K fun p q => (f p q).map fun b => .fz (.bool b)
theorem cm_of {op : CmpOp} (h : ∀ (pins : List (Addr × Obj)) (s : Shared) (σ : L2.St) (H : Hp) (x y : V) (v u : Value) (Q : VK) (Z : Addr → Prop) (a b : D) (t : Bool), Inv X pins σ H s → RelV x v → RelV y u → Ct X.K Z H x a → Ct X.K Z H y b → cmpD op a b = some t → Q (.bl t) H →
    wpAny (model X.prog X.w) X.A (compareOp op v u) (EP X pins σ Q) X.xe s) : OpR X (compareOp op) (rCm X.K (cmpD op)) := by
  intro pins s σ H x y v u Q I rx ry ⟨Z, a, b, r, ha, hb, e, k⟩
  replace e : (cmpD op a b).map (fun b => Rv.fz (.bool b)) = some r := e
  cases g : cmpD op a b with
  | none => rw [g] at e; cases e
  | some t =>
    rw [g] at e
    cases e
    exact h pins s σ H x y v u Q Z a b t I rx ry ha hb g (k _ _ .bool)
theorem eqD_inv {a b : D} {t : Bool} (e : eqD a b = some t) : (∃ x y, a = .str x ∧ b = .str y ∧ t = decide (x = y)) ∨ (SeqAt.shaped a = true ∧ SeqAt.shaped b = true ∧ t = PyData.eqv a b) := by
  unfold eqD at e
  split at e
  · rename_i p hp
    cases e
    unfold twoS at hp
    split at hp
    · cases hp; exact .inl ⟨_, _, rfl, rfl, rfl⟩
    · cases hp
  · split at e
    · rename_i hz
      cases e
      exact .inr ⟨hz.1, hz.2, rfl⟩
    · cases e
theorem cm_eq (hu : X.A.units + 64 < cLine) : OpR X (compareOp .Eq) (rCm X.K (cmpD .Eq)) := cm_of fun pins s σ H x y v u Q Z a b t I rx ry ha hb e q => by
  have e' : eqD a b = some t := by cases a <;> exact e
  rcases eqD_inv e' with ⟨p, r, rfl, rfl, rfl⟩ | ⟨h1, h2, rfl⟩
  · cases ha.str; cases hb.str
    refine op_eq pins s σ H _ _ v u Q I rx ry ⟨rfl, ?_⟩
    have : decide (V.str p = V.str r) = decide (p = r) := by
      rw [Bool.eq_iff_iff]
      simp
    rw [this]
    exact q
  · exact op_eqD hu pins s σ H x y v u Q I rx ry ⟨a, b, Dv.dp _ _ ha.full (SeqAt.canLay_of_shaped h1), Dv.dp _ _ hb.full (SeqAt.canLay_of_shaped h2), h1, h2, q⟩
theorem cm_ne (hu : X.A.units + 64 < cLine) : OpR X (compareOp .NotEq) (rCm X.K (cmpD .NotEq)) := cm_of fun pins s σ H x y v u Q Z a b t I rx ry ha hb e q => by
  have e0 : (eqD a b).map (!·) = some t := by cases a <;> exact e
  cases e' : eqD a b with
  | none => rw [e'] at e0; cases e0
  | some t0 =>
    rw [e'] at e0
    cases e0
    rcases eqD_inv e' with ⟨p, r, rfl, rfl, rfl⟩ | ⟨h1, h2, rfl⟩
    · cases ha.str; cases hb.str
      refine op_ne pins s σ H _ _ v u Q I rx ry ⟨rfl, ?_⟩
      have : decide (V.str p = V.str r) = decide (p = r) := by
        rw [Bool.eq_iff_iff]
        simp
      rw [this]
      exact q
    · exact op_neD hu pins s σ H x y v u Q I rx ry ⟨a, b, Dv.dp _ _ ha.full (SeqAt.canLay_of_shaped h1), Dv.dp _ _ hb.full (SeqAt.canLay_of_shaped h2), h1, h2, q⟩
theorem cm_lt : OpR X (compareOp .Lt) (rCm X.K (cmpD .Lt)) := cm_of fun pins s σ H x y v u Q Z a b t I rx ry ha hb e q => by
  cases a <;> cases b <;> simp only [cmpD] at e <;> try (cases e; done)
  cases e
  cases ha.int; cases hb.int
  exact op_lt pins s σ H _ _ v u Q I rx ry ⟨_, _, rfl, rfl, q⟩
theorem cm_le : OpR X (compareOp .LtE) (rCm X.K (cmpD .LtE)) := cm_of fun pins s σ H x y v u Q Z a b t I rx ry ha hb e q => by
  cases a <;> cases b <;> simp only [cmpD] at e <;> try (cases e; done)
  cases e
  cases ha.int; cases hb.int
  exact op_le pins s σ H _ _ v u Q I rx ry ⟨_, _, rfl, rfl, q⟩
theorem cm_gt : OpR X (compareOp .Gt) (rCm X.K (cmpD .Gt)) := cm_of fun pins s σ H x y v u Q Z a b t I rx ry ha hb e q => by
  cases a <;> cases b <;> simp only [cmpD] at e <;> try (cases e; done)
  cases e
  cases ha.int; cases hb.int
  exact op_gt pins s σ H _ _ v u Q I rx ry ⟨_, _, rfl, rfl, q⟩
theorem cm_ge : OpR X (compareOp .GtE) (rCm X.K (cmpD .GtE)) := cm_of fun pins s σ H x y v u Q Z a b t I rx ry ha hb e q => by
  cases a <;> cases b <;> simp only [cmpD] at e <;> try (cases e; done)
  cases e
  cases ha.int; cases hb.int
  exact op_ge pins s σ H _ _ v u Q I rx ry ⟨_, _, rfl, rfl, q⟩
theorem Dv.non_iff {K : PySem.W.Frag} {H : Hp} {v : V} {d : D} (h : Dv K H v d) : v = .non ↔ d = .none := by
  cases h <;> simp
theorem cm_is : OpR X (compareOp .Is) (rCm X.K (cmpD .Is)) := cm_of fun pins s σ H x y v u Q Z a b t I rx ry ha hb e q => by
  have hn := ha.full.non_iff
  cases b with
  | none =>
    cases hb.none
    refine op_isN pins s σ H _ _ v u Q I rx ry ⟨rfl, ?_⟩
    have : decide (x = V.non) = t := by
      cases a <;> simp only [cmpD] at e <;> cases e
      · exact decide_eq_true (hn.mpr rfl)
      all_goals exact decide_eq_false fun w => by have := hn.mp w; cases this
    rw [this]
    exact q
  | bool j =>
    cases a <;> simp only [cmpD] at e <;> try (cases e; done)
    cases e
    cases ha.bool; cases hb.bool
    exact op_isBl pins s σ H _ _ v u Q I rx ry ⟨_, _, rfl, rfl, q⟩
  | _ => cases a <;> simp [cmpD] at e
theorem cm_isNot : OpR X (compareOp .IsNot) (rCm X.K (cmpD .IsNot)) := cm_of fun pins s σ H x y v u Q Z a b t I rx ry ha hb e q => by
  have hn := ha.full.non_iff
  cases b with
  | none =>
    cases hb.none
    refine op_notN pins s σ H _ _ v u Q I rx ry ⟨rfl, ?_⟩
    have : (!decide (x = V.non)) = t := by
      cases a <;> simp only [cmpD] at e <;> cases e
      · rw [decide_eq_true (hn.mpr rfl)]; rfl
      all_goals (rw [decide_eq_false fun w => by have := hn.mp w; cases this]; rfl)
    rw [this]
    exact q
  | bool j =>
    cases a <;> simp only [cmpD] at e <;> try (cases e; done)
    cases e
    cases ha.bool; cases hb.bool
    exact op_notBl pins s σ H _ _ v u Q I rx ry ⟨_, _, rfl, rfl, q⟩
  | _ => cases a <;> simp [cmpD] at e
theorem scal_flat {K : PySem.W.Frag} {H : Hp} {v : V} {d : D} (h : Dv K H v d) (s : isScal d = true) : flatV v = true := by
  cases h <;> simp [isScal] at s <;> rfl
theorem scal_eq {K : PySem.W.Frag} {H : Hp} {v w : V} {d e : D} (h : Dv K H v d) (k : Dv K H w e) (s : isScal d = true) (t : isScal e = true) : eqV v w = PyData.eqv d e := by
  cases h <;> cases k <;> simp [isScal] at s t <;> simp [eqV, PyData.eqv]
theorem flat_all {K : PySem.W.Frag} {H : Hp} : ∀ {vs : List V} {ds : List D}, DvAll K H vs ds → ds.all isScal = true → vs.all flatV = true
  | _, _, .nil, _ => rfl
  | _, _, .cons a r, s => by
    rw [List.all_cons, Bool.and_eq_true] at s
    rw [List.all_cons, scal_flat a s.1, flat_all r s.2]
    rfl
theorem inV_eq {K : PySem.W.Frag} {H : Hp} {x : V} {a : D} (h : Dv K H x a) (sa : isScal a = true) : ∀ {vs : List V} {ds : List D}, DvAll K H vs ds → ds.all isScal = true → inV x vs = ds.any fun y => PyData.eqv y a
  | _, _, .nil, _ => rfl
  | _, _, .cons b r, s => by
    rw [List.all_cons, Bool.and_eq_true] at s
    have ih := inV_eq h sa r s.2
    unfold inV at ih ⊢
    rw [List.any_cons, List.any_cons, ih, scal_eq b h s.1 sa]
theorem cm_in : OpR X (compareOp .In) (rCm X.K (cmpD .In)) := cm_of fun pins s σ H x y v u Q Z a b t I rx ry ha hb e q => by
  have go : ∀ (ds : List D) (p : Addr) (xs : List V), y = .ref p → (SqL X.K H p xs ∨ SqT X.K H p xs) → DvAll X.K (hid Z H) xs ds → isScal a = true → ds.all isScal = true → t = (ds.any fun y => PyData.eqv y a) → wpAny (model X.prog X.w) X.A (compareOp .In v u) (EP X pins σ Q) X.xe s := by
    intro ds p xs hy hs r s1 s2 et
    have r' := DvAll.mono hid_sub _ _ r
    refine op_in_seq pins s σ H x y v u Q I rx ry ⟨p, xs, hy, hs, scal_flat ha.full s1, flat_all r' s2, ?_⟩
    rw [if_neg (by simp), inV_eq ha.full s1 r' s2, ← et]
    exact q
  cases b <;> simp only [cmpD] at e <;> try (cases e; done)
  · split at e
    · rename_i hz
      obtain ⟨p, xs, hy, h1, r1⟩ := hb.lst
      exact go _ p xs hy (.inl (.inl h1)) r1 hz.1 hz.2 (Option.some.inj e).symm
    · cases e
  · split at e
    · rename_i hz
      obtain ⟨p, xs, hy, h1, r1⟩ := hb.tup
      exact go _ p xs hy (.inr h1) r1 hz.1 hz.2 (Option.some.inj e).symm
    · cases e
theorem cm_notIn : OpR X (compareOp .NotIn) (rCm X.K (cmpD .NotIn)) := cm_of fun pins s σ H x y v u Q Z a b t I rx ry ha hb e q => by
  have go : ∀ (ds : List D) (p : Addr) (xs : List V), y = .ref p → (SqL X.K H p xs ∨ SqT X.K H p xs) → DvAll X.K (hid Z H) xs ds → isScal a = true → ds.all isScal = true → t = (!ds.any fun y => PyData.eqv y a) → wpAny (model X.prog X.w) X.A (compareOp .NotIn v u) (EP X pins σ Q) X.xe s := by
    intro ds p xs hy hs r s1 s2 et
    have r' := DvAll.mono hid_sub _ _ r
    refine op_notIn_seq pins s σ H x y v u Q I rx ry ⟨p, xs, hy, hs, scal_flat ha.full s1, flat_all r' s2, ?_⟩
    rw [if_pos rfl, inV_eq ha.full s1 r' s2, ← et]
    exact q
  cases b <;> simp only [cmpD] at e <;> try (cases e; done)
  · split at e
    · rename_i hz
      obtain ⟨p, xs, hy, h1, r1⟩ := hb.lst
      exact go _ p xs hy (.inl (.inl h1)) r1 hz.1 hz.2 (Option.some.inj e).symm
    · cases e
  · split at e
    · rename_i hz
      obtain ⟨p, xs, hy, h1, r1⟩ := hb.tup
      exact go _ p xs hy (.inr h1) r1 hz.1 hz.2 (Option.some.inj e).symm
    · cases e
end
end Cr
set_option Elab.async false
set_option linter.all false
set_option maxRecDepth 100000
set_option maxHeartbeats 4000000
namespace Cr
open PySem PySem.Spec PyProof.Rows L2
/-! ### items, slices -/
theorem DvAll.atI {K : PySem.W.Frag} {H : Hp} {vs : List V} {ds : List D} {k : Int} {d : D} (r : DvAll K H vs ds) (h : L2.atI ds k = some d) : ∃ v, L2.atI vs k = some v ∧ Dv K H v d := by
  unfold L2.atI at h ⊢
  rw [r.length]
  cases e : ixN ds.length k with
  | none => rw [e] at h; cases h
  | some j =>
    rw [e] at h
    exact r.at h
section
variable {X : Cx}
theorem ix_D : IxR X (rBin X.K fun p q => (idxD p q).map .fz) := by
  intro value slice pins s σ H x y v u Q I rx ry ⟨Z, a, b, r, ha, hb, e, k⟩ hs
  replace e : (idxD a b).map Rv.fz = some r := e
  cases g : idxD a b with
  | none => rw [g] at e; cases e
  | some d =>
    rw [g] at e
    cases e
    unfold idxD at g
    split at g
    · obtain ⟨p, xs, rfl, h1, r1⟩ := ha.lst
      cases hb.int
      obtain ⟨w, hw, dw⟩ := r1.atI g
      exact ix_seq value slice pins s σ H _ _ v u Q I rx ry (.inl ⟨_, _, _, _, rfl, rfl, .inl h1, hw, k _ _ (.old dw)⟩) hs
    · obtain ⟨p, xs, rfl, h1, r1⟩ := ha.tup
      cases hb.int
      obtain ⟨w, hw, dw⟩ := r1.atI g
      exact ix_seq value slice pins s σ H _ _ v u Q I rx ry (.inr (.inl ⟨_, _, _, _, rfl, rfl, h1, hw, k _ _ (.old dw)⟩)) hs
    · cases ha.str
      cases hb.int
      split at g
      · rename_i z k' hz
        cases g2 : L2.atI z.cps.toList k' with
        | none => rw [g2] at g; cases g
        | some c =>
          rw [g2] at g
          cases g
          exact ix_seq value slice pins s σ H _ _ v u Q I rx ry (.inr (.inr ⟨_, _, c, rfl, rfl, hz, g2, k _ _ .str⟩)) hs
      · cases g
    · cases g
/-- a slice's reading -/
def rSlD (K : PySem.W.Frag) : V → Option Int → Option Int → Hp → VK → Prop := fun x lo hi H Q => ∃ Z a r, Ct K Z H x a ∧ slcD a lo hi = some r ∧ ∀ v H', NewR K Z H v H' r → Q v H'
theorem cutD_str (z : Str) (lo hi : Option Int) : (⟨(cutD z.cps.toList lo hi).toArray⟩ : Str) = cutS z lo hi := by
  unfold cutD cutS
  rw [Array.length_toList]
  rfl
theorem sl_D : L2.SlR X (rSlD X.K) := by
  intro pins s σ H x v vl vu lo hi sl Q I rx hs pl pu ⟨Z, a, r, ha, e, k⟩
  unfold slcD at e
  split at e
  · cases e
    obtain ⟨p, xs, rfl, h1, r1⟩ := ha.lst
    exact sl_list pins s σ H _ v vl vu lo hi sl Q I rx hs pl pu ⟨p, xs, rfl, .inl h1, fun p' n => k _ _ (.lst n (cutD_of r1))⟩
  · cases e
    have hT := ha.tupH
    obtain ⟨p, xs, rfl, h1, r1⟩ := ha.tup
    refine sl_tupA pins s σ H _ v vl vu lo hi sl Q I rx hs pl pu ⟨p, xs, rfl, h1, fun w => ?_, fun _ p' n => k _ _ (.tup n (cutD_of r1))⟩
    rename_i ds
    have e2 : cutD ds lo hi = ds := by
      unfold cutD
      rw [← r1.length, w.1, w.2, List.drop_zero, Nat.sub_zero, r1.length, List.take_length]
    rw [e2] at k
    exact k _ _ (.old hT)
  · cases ha.str
    split at e
    · rename_i hz
      cases e
      rw [cutD_str] at k
      exact sl_str pins s σ H _ v vl vu lo hi sl Q I rx hs pl pu ⟨_, rfl, hz, k _ _ .str⟩
    · cases e
  · cases e
end
/-! ### the other way round -/
section
variable {prog : Program} {w : World} {A : Around} {E : Value → Shared → Prop} {s : Shared}
theorem sliceApplied_rev {sl : Addr} {vl vu vs : Value} {n : Nat} {Q : Int × Int × Nat → Shared → Prop} (hs : s.heap.IsSliceOf sl vl vu vs) (pl : IsPart vl none) (pu : IsPart vu none) (ps : IsPart vs (some (-1)))
    (h : Q ((n : Int) - 1, -1, n) s) : wpAny (model prog w) A (Builtin.Slice.sliceApplied (.ref sl) (pure (n : Int))) Q E s := by
  obtain ⟨os, hos, hcs, hds⟩ := id hs
  unfold Builtin.Slice.sliceApplied Builtin.Slice.sliceFields
  refine wpAny_bind (wpAny_bind (wpAny_field hos hds (x := vl) rfl (wpAny_bind (wpAny_field hos hds (x := vu) rfl (wpAny_bind (wpAny_field hos hds (x := vs) rfl (wpAny_pure ?_)))))))
  refine wpAny_bind (HT.slicePart_ ps ?_)
  show wpAny _ _ (if ((-1 : Int) == 0) = true then _ else _) _ _ s
  rw [if_neg (by decide)]
  refine wpAny_bind (HT.slicePart_ pl (wpAny_bind (HT.slicePart_ pu (wpAny_bind (wpAny_pure ?_)))))
  show wpAny _ _ (match Builtin.Slice.sliceAdjust none none (-1) (n : Int) with | (lo, hi) => pure (lo, (-1 : Int), Builtin.Slice.slicePlaces lo hi (-1))) _ _ s
  have e1 : Builtin.Slice.sliceAdjust none none (-1) (n : Int) = ((n : Int) - 1, -1) := rfl
  rw [e1]
  show wpAny _ _ (pure ((n : Int) - 1, (-1 : Int), Builtin.Slice.slicePlaces ((n : Int) - 1) (-1) (-1))) _ _ s
  have e2 : Builtin.Slice.slicePlaces ((n : Int) - 1) (-1) (-1) = n := by
    unfold Builtin.Slice.slicePlaces
    rw [if_neg (by decide)]
    split
    · have : ((n : Int) - 1 - -1 - 1) / (- -1) + 1 = (n : Int) := by
        rw [show (- -1 : Int) = 1 by decide, Int.ediv_one]
        omega
      rw [this]
      simp
    · have : n = 0 := by omega
      subst this
      rfl
  rw [e2]
  exact wpAny_pure h
theorem pick_rev (xs : Array Value) : ((List.range xs.size).filterMap fun (m : Nat) => xs[((xs.size : Int) - 1 + (m : Int) * (-1)).toNat]?).toArray = xs.toList.reverse.toArray := by
  have e : ((List.range xs.size).filterMap fun (m : Nat) => xs[((xs.size : Int) - 1 + (m : Int) * (-1)).toNat]?) = (List.range xs.size).filterMap (fun m => xs[xs.size - 1 - m]?) := by
    have go : ∀ l : List Nat, (∀ m ∈ l, m < xs.size) → (l.filterMap fun (m : Nat) => xs[((xs.size : Int) - 1 + (m : Int) * (-1)).toNat]?) = l.filterMap (fun m => xs[xs.size - 1 - m]?) := by
      intro l
      induction l with
      | nil => intro _; rfl
      | cons m r ih =>
        intro hm
        have h := hm m List.mem_cons_self
        have e1 : ((xs.size : Int) - 1 + (m : Int) * (-1)).toNat = xs.size - 1 - m := by omega
        rw [List.filterMap_cons, List.filterMap_cons, e1, ih fun q hq => hm q (List.mem_cons_of_mem _ hq)]
    exact go _ fun m hm => List.mem_range.mp hm
  rw [e]
  have := PySem.W.krv_range xs.size
  have e3 : (List.range xs.size).filterMap (fun m => xs[xs.size - 1 - m]?) = ((List.range xs.size).map (fun k => xs.size - 1 - k)).filterMap (xs[·]?) := by
    rw [List.filterMap_map]
    rfl
  rw [e3, this, List.filterMap_reverse, PySem.W.krv_all]
theorem getItem_tuple_rev {t sl : Addr} {items : Array Value} {vl vu vs : Value} {Q : Value → Shared → Prop} (ht : IsTup s.heap t items) (hs : s.heap.IsSliceOf sl vl vu vs) (pl : IsPart vl none) (pu : IsPart vu none) (ps : IsPart vs (some (-1)))
    (h : Q (.ref s.heap.objs.size) { s with heap := s.heap.push { cls := .type "tuple", data := .seq items.toList.reverse.toArray } })
    (hsz : items.size ≤ sizeLine) : wpAny (model prog w) A (getItem (.ref t) (.ref sl)) Q E s := by
  have hz : sizeOk (.seq items.toList.reverse.toArray) := by
    show items.toList.reverse.toArray.size ≤ sizeLine
    rw [List.size_toArray, List.length_reverse, Array.length_toList]
    exact hsz
  obtain ⟨os, hos, hcs, hds⟩ := id hs
  have hTs : s.TypeIs (.ref sl) "slice" := ⟨os, hos, hcs⟩
  unfold getItem
  try with_reducible refine wpAny_holding ?_
  first | refine wpAny_bind (wpAny_pure ?_) | skip
  refine wpAny_bind (wpAny_sequenceKey ht.typeIs (by decide) ?_)
  refine wpAny_bind (wpAny_callSpecial?_slot (name := Str.ofString "__getitem__") ht.typeIs PyProof.Rows.slot_tuple_getitem
    (wpAny_call_entry PyProof.Rows.slot_tuple_getitem ht.typeIs entry_tuple_getitem ?_ (args_tuple_getitem _ _)))
  show wpAny _ _ (Builtin.Tuple.tupleItemsOf (.ref t) >>= _) _ _ s
  refine wpAny_bind (tupleItemsOf_ ht ?_)
  refine wpAny_bind (wpAny_typeOf hTs ?_)
  rw [if_pos (by decide)]
  refine wpAny_bind (sliceApplied_rev hs pl pu ps ?_)
  have hno : ¬ (((items.size : Int) - 1 == 0 && (-1 : Int) == 1 && items.size == items.size) = true) := by
    intro q
    simp at q
  show wpAny _ _ (if ((items.size : Int) - 1 == 0 && (-1 : Int) == 1 && items.size == items.size) = true then _ else _) _ _ s
  rw [if_neg hno, pick_rev]
  first
    | exact wpAny_bind (m := Builtin.Tuple.tupleExact _) (wpAny_newObj_type (wpAny_pure ⟨_, rfl, wpAny_pure h⟩) hz)
    | exact wpAny_bind (m := Builtin.Tuple.tupleExact _) (wpAny_newObj_type (wpAny_bind (wpAny_pure (wpAny_pure ⟨_, rfl, wpAny_pure h⟩))) hz)
    | exact wpAny_bind (wpAny_bind (m := Builtin.Tuple.tupleExact _) (wpAny_newObj_type (wpAny_pure (wpAny_pure ⟨_, rfl, wpAny_pure h⟩)) hz))
    | exact wpAny_bind (wpAny_bind (m := Builtin.Tuple.tupleExact _) (wpAny_newObj_type (wpAny_pure ⟨_, rfl, wpAny_pure h⟩) hz))
end
section
variable {X : Cx}
theorem pe_revD {e : Expr} {te : TE} {k : Nat} {p1 p2 p3 pos : Pos} (he : PE X e te) : PE X (.Subscript e (.Slice none none (some (.UnaryOp .USub (.Constant (.int 1) k p1) p2)) p3) pos) (tUn (rUn X.K revD) te) := by
  refine ⟨fun pins s σ H Q I h => ?_⟩
  refine Subscript_ (thn (he.run pins s σ H _ I h) fun v s1 ⟨x, H1, I1, r1, Z, a, r, ha, er, kq⟩ => ?_)
  have hst : PO X (some (.UnaryOp .USub (.Constant (.int 1) k p1) p2)) (tPart (tUn (rU fun i => .int (-i)) (tC (.int 1)))) := po_some (pe_un un_neg pe_int)
  refine wpAny_Slice (thn (po_none.run pins s1 σ H1 (fun o H2 => o = none ∧ H2 = H1) I1 ⟨rfl, rfl⟩) fun vl s2 ⟨l, H2, I2, pl, el, e2⟩ => ?_)
  subst el e2
  refine thn (po_none.run pins s2 σ H2 (fun o H3 => o = none ∧ H3 = H2) I2 ⟨rfl, rfl⟩) fun vu s3 ⟨u, H3, I3, pu, eu, e3⟩ => ?_
  subst eu e3
  refine thn (hst.run pins s3 σ H3 (fun o H4 => o = some (-1) ∧ H4 = H3) I3 ⟨1, rfl, -1, rfl, rfl, rfl⟩) fun vs s4 ⟨o, H4, I4, ps, eo, e4⟩ => ?_
  subst eo e4
  have I5 : Inv X pins σ H4 { s4 with heap := s4.heap.push { cls := .type "slice", data := .fields #[vl, vu, vs] } } := I4.kept (t' := s4.toks) fun b ob q => Heap.get?_push_of_some _ q
  unfold revD at er
  split at er
  · cases er
    obtain ⟨p, xs, rfl, h1, d1⟩ := ha.lst
    cases r1
    obtain ⟨its, r, ht, hz⟩ := I5.list (.inl h1)
    have hlen := r.length
    show wpAny (model X.prog X.w) X.A (subscriptTail e (.Slice none none (some (.UnaryOp .USub (.Constant (.int 1) k p1) p2)) p3) (.ref p) (.ref s4.heap.objs.size)) (EP X pins σ Q) X.xe { s4 with heap := s4.heap.push { cls := .type "slice", data := .fields #[vl, vu, vs] } }
    refine tail_any (ops := [.ref p, .ref s4.heap.objs.size]) ht.isList.typeIs (PySem.slot_list_getitem.lookup) ?_ (by with_unfolding_all rfl)
    refine wpAny_getItem_list_slice ht.isList (Heap.IsSliceOf.new _ vl vu vs) pl pu ps (by decide) ?_ (by rw [List.size_toArray]; omega)
    rw [PySem.W.krv_pick]
    refine ⟨.ref _, _, I5.laid (t' := s4.toks) (o := .lst xs.reverse) (fun b ob q => Heap.get?_push_of_some _ q) (Nat.le_refl _) ?_, rfl, kq _ _ (.lst (I5.hok.fresh (Nat.le_refl _)) d1.reverse)⟩
    exact ⟨by rw [List.length_reverse]; exact hz, _, 0, r.reverse, Heap.get?_push_size _ rfl⟩
  · cases er
    obtain ⟨p, xs, rfl, h1, d1⟩ := ha.tup
    cases r1
    obtain ⟨its, r, ht, hz⟩ := I5.tuple h1
    have hlen := r.length
    show wpAny (model X.prog X.w) X.A (subscriptTail e (.Slice none none (some (.UnaryOp .USub (.Constant (.int 1) k p1) p2)) p3) (.ref p) (.ref s4.heap.objs.size)) (EP X pins σ Q) X.xe { s4 with heap := s4.heap.push { cls := .type "slice", data := .fields #[vl, vu, vs] } }
    refine tail_any (ops := [.ref p, .ref s4.heap.objs.size]) ht.typeIs (PyProof.Rows.slot_tuple_getitem.lookup) ?_ (by with_unfolding_all rfl)
    refine getItem_tuple_rev ht (Heap.IsSliceOf.new _ vl vu vs) pl pu ps ?_ (by rw [List.size_toArray]; omega)
    refine ⟨.ref _, _, I5.laid (t' := s4.toks) (o := .tup xs.reverse) (fun b ob q => Heap.get?_push_of_some _ q) (Nat.le_refl _) ?_, rfl, kq _ _ (.tup (I5.hok.fresh (Nat.le_refl _)) d1.reverse)⟩
    exact ⟨by rw [List.length_reverse]; exact hz, _, r.reverse, IsTup.new _ _⟩
  · cases er
/-! ### isinstance -/
def Ty.n : Ty → String
  | .int => "int" | .bool => "bool" | .str => "str" | .tuple => "tuple" | .list => "list"
theorem tyx_D {K : PySem.W.Frag} {H : Hp} {v : V} {d : D} (h : Dv K H v d) (t : Ty) : ∃ u, TyX K H v u ∧ PySem.W.kitOne K u (.type t.n) = some (isD d t) := by
  cases h with
  | non => exact ⟨_, .base .non, by cases t <;> first | exact kit_ty (r := true) (by decide +kernel) | exact kit_ty (r := false) (by decide +kernel)⟩
  | bl b => exact ⟨_, .base (.bl b), by cases t <;> first | exact kit_ty (r := true) (by decide +kernel) | exact kit_ty (r := false) (by decide +kernel)⟩
  | int i => exact ⟨_, .base (.int i), by cases t <;> first | exact kit_ty (r := true) (by decide +kernel) | exact kit_ty (r := false) (by decide +kernel)⟩
  | str x => exact ⟨_, .base (.str x), by cases t <;> first | exact kit_ty (r := true) (by decide +kernel) | exact kit_ty (r := false) (by decide +kernel)⟩
  | lst s _ =>
    rcases s with s | ⟨o, s⟩
    · exact ⟨_, .base (.lst s), by cases t <;> first | exact kit_ty (r := true) (by decide +kernel) | exact kit_ty (r := false) (by decide +kernel)⟩
    · exact ⟨_, .base (.frz s), by cases t <;> first | exact kit_ty (r := true) (by decide +kernel) | exact kit_ty (r := false) (by decide +kernel)⟩
  | tup s _ =>
    rcases s with (s | ⟨o, s⟩) | ⟨o, its, n, hk, hc, _⟩
    · exact ⟨_, .base (.tup s), by cases t <;> first | exact kit_ty (r := true) (by decide +kernel) | exact kit_ty (r := false) (by decide +kernel)⟩
    · exact ⟨_, .fTuple s, by cases t <;> first | exact kit_ty (r := true) (by decide +kernel) | exact kit_ty (r := false) (by decide +kernel)⟩
    · exact ⟨_, .kTuple hk hc, by cases t <;> first | exact kit_ty (r := true) (by decide +kernel) | exact kit_ty (r := false) (by decide +kernel)⟩
  | dct s => exact ⟨_, .base (.dK s), by cases t <;> first | exact kit_ty (r := true) (by decide +kernel) | exact kit_ty (r := false) (by decide +kernel)⟩
end
end Cr
set_option Elab.async false
set_option linter.all false
set_option maxRecDepth 100000
set_option maxHeartbeats 4000000
namespace Cr
open PySem PySem.Spec PyProof.Rows L2
section
variable {X : Cx} {pins : List (Addr × Obj)} {σ : L2.St} {H : Hp} {s : Shared}
mutual
theorem Dv.reads (I : Inv X pins σ H s) (hn : H sysModules = none) : ∀ (d : D) (v : V) (u : Value), Dv X.K H v d → RelV v u → ∃ as, Reads s.heap u d as ∧ sysModules ∉ as
  | .none, _, _, h, r => by
    cases h
    cases r
    exact ⟨_, Reads.none, by simp⟩
  | .bool b, _, _, h, r => by
    cases h
    cases r
    exact ⟨_, Reads.bool b, by simp⟩
  | .int i, _, _, h, r => by
    cases h
    obtain ⟨t, rfl⟩ := r
    exact ⟨_, Reads.int i t, by simp⟩
  | .str x, _, _, h, r => by
    cases h
    obtain ⟨t, rfl⟩ := r
    exact ⟨_, Reads.str x t, by simp⟩
  | .list ds, _, _, h, r => by
    cases h with
    | @lst a xs _ hs ha =>
      cases r
      obtain ⟨_, its, n, rv, _, ho⟩ := rd_lst I hs
      obtain ⟨as, hr, hm⟩ := DvAll.reads I hn ds _ its ha rv
      refine ⟨_, Reads.list ho rfl rfl hr, fun w => ?_⟩
      rcases List.mem_cons.mp w with w | w
      · subst w
        rcases hs with q | ⟨o, q⟩
        · rw [hn] at q; cases q
        · rw [hn] at q; cases q
      · exact hm w
  | .tuple ds, _, _, h, r => by
    cases h with
    | tup hs ha =>
      cases r
      obtain ⟨its, rv, ⟨o, ho, hc, n, hd⟩, _⟩ := I.tuple hs
      obtain ⟨as, hr, hm⟩ := DvAll.reads I hn ds _ its ha rv
      exact ⟨_, Reads.tuple ho hc hd hr, hm⟩
  | .dict kvs, _, _, h, r => by
    cases h with
    | @dct a hs =>
      cases r
      obtain ⟨_, hne, vs, kv, o, es, ep, h1, h2, h3, h4, h5, h6⟩ := I.hok _ _ hs
      cases kv
      have e0 : es.toList = [] := by
        generalize es.toList = l at h5
        cases h5
        rfl
      refine ⟨_, Reads.dict (as := []) (bs := []) h1 h2.1 h3 (by rw [e0]; exact .nil) (by rw [e0]; exact .nil), fun w => ?_⟩
      simp at w
      rw [← w] at hne
      simp at hne
theorem DvAll.reads (I : Inv X pins σ H s) (hn : H sysModules = none) : ∀ (ds : List D) (vs : List V) (us : List Value), DvAll X.K H vs ds → Vals vs us → ∃ as, ReadsAll s.heap us ds as ∧ sysModules ∉ as
  | [], _, _, h, r => by
    cases h
    cases r
    exact ⟨_, ReadsAll.nil, by simp⟩
  | d :: ds, _, _, h, r => by
    cases h with
    | cons h1 h2 =>
      cases r with
      | cons r1 r2 =>
        obtain ⟨as, q1, m1⟩ := Dv.reads I hn d _ _ h1 r1
        obtain ⟨bs, q2, m2⟩ := DvAll.reads I hn ds _ _ h2 r2
        refine ⟨_, ReadsAll.cons q1 q2, fun w => ?_⟩
        rcases List.mem_append.mp w with w | w
        · exact m1 w
        · exact m2 w
end
end
/-- the type of a built-in function's rule -/
def Bt.v : Bt → Value
  | .len => .builtin "len" | .sum => .builtin "sum" | .min => .builtin "min" | .max => .builtin "max" | .min2 => .builtin "min" | .max2 => .builtin "max"
  | .all => .builtin "all" | .any => .builtin "any" | .tuple => .type "tuple" | .list => .type "list" | .int => .type "int" | .abs => .builtin "abs"
  | .repr => .builtin "repr" | .sorted => .builtin "sorted" | .listRange1 => .none | .listRange2 => .none
theorem Paired.one {α β : Type} {R : α → β → Prop} {xs : List α} {b : β} (h : Paired R xs [b]) : ∃ a, xs = [a] ∧ R a b := by
  cases h with
  | cons r t => cases t; exact ⟨_, rfl, r⟩
theorem Paired.two {α β : Type} {R : α → β → Prop} {xs : List α} {b c : β} (h : Paired R xs [b, c]) : ∃ a a', xs = [a, a'] ∧ R a b ∧ R a' c := by
  cases h with
  | cons r t =>
    obtain ⟨a', e, r'⟩ := Paired.one t
    subst e
    exact ⟨_, _, rfl, r, r'⟩
theorem foldl_min (l : List Int) : ∀ a : Int, (l.foldl (fun a b => if b < a then b else a) a ∈ a :: l) ∧ ∀ y ∈ a :: l, l.foldl (fun a b => if b < a then b else a) a ≤ y := by
  induction l with
  | nil => intro a; exact ⟨List.mem_cons_self, fun y hy => by rw [List.mem_singleton.mp hy]; exact Int.le_refl a⟩
  | cons b r ih =>
    intro a
    rw [List.foldl_cons]
    obtain ⟨h1, h2⟩ := ih (if b < a then b else a)
    have h3 := h2 _ List.mem_cons_self
    have h4 : (if b < a then b else a) ≤ a := by split <;> omega
    have h5 : (if b < a then b else a) ≤ b := by split <;> omega
    refine ⟨?_, fun y hy => ?_⟩
    · rcases List.mem_cons.mp h1 with h | h
      · rw [h]
        split
        · simp
        · simp
      · exact List.mem_cons_of_mem _ (List.mem_cons_of_mem _ h)
    · rcases List.mem_cons.mp hy with e | hy
      · subst e
        exact Int.le_trans h3 h4
      · rcases List.mem_cons.mp hy with e | hy
        · subst e
          exact Int.le_trans h3 h5
        · exact h2 y (List.mem_cons_of_mem _ hy)
theorem foldl_max (l : List Int) : ∀ a : Int, (l.foldl (fun a b => if b > a then b else a) a ∈ a :: l) ∧ ∀ y ∈ a :: l, y ≤ l.foldl (fun a b => if b > a then b else a) a := by
  induction l with
  | nil => intro a; exact ⟨List.mem_cons_self, fun y hy => by rw [List.mem_singleton.mp hy]; exact Int.le_refl a⟩
  | cons b r ih =>
    intro a
    rw [List.foldl_cons]
    obtain ⟨h1, h2⟩ := ih (if b > a then b else a)
    have h3 := h2 _ List.mem_cons_self
    have h4 : a ≤ (if b > a then b else a) := by split <;> omega
    have h5 : b ≤ (if b > a then b else a) := by split <;> omega
    refine ⟨?_, fun y hy => ?_⟩
    · rcases List.mem_cons.mp h1 with h | h
      · rw [h]
        split
        · simp
        · simp
      · exact List.mem_cons_of_mem _ (List.mem_cons_of_mem _ h)
    · rcases List.mem_cons.mp hy with e | hy
      · subst e
        exact Int.le_trans h4 h3
      · rcases List.mem_cons.mp hy with e | hy
        · subst e
          exact Int.le_trans h5 h3
        · exact h2 y (List.mem_cons_of_mem _ hy)
theorem minI_spec {l : List Int} {m : Int} (h : minI l = some m) : m ∈ l ∧ ∀ y ∈ l, m ≤ y := by
  cases l with
  | nil => cases h
  | cons a r =>
    have h' : some (r.foldl (fun a b => if b < a then b else a) a) = some m := h
    cases h'
    exact foldl_min r a
theorem maxI_spec {l : List Int} {m : Int} (h : maxI l = some m) : m ∈ l ∧ ∀ y ∈ l, y ≤ m := by
  cases l with
  | nil => cases h
  | cons a r =>
    have h' : some (r.foldl (fun a b => if b > a then b else a) a) = some m := h
    cases h'
    exact foldl_max r a
theorem insI_perm (a : Int) : ∀ l : List Int, (insI a l).Perm (a :: l)
  | [] => .refl _
  | b :: r => by
    unfold insI
    split
    · exact .refl _
    · exact ((insI_perm a r).cons b).trans (.swap a b r)
theorem sortI_perm : ∀ l : List Int, (sortI l).Perm l
  | [] => .refl _
  | a :: r => (insI_perm a (sortI r)).trans ((sortI_perm r).cons a)
theorem insI_sorted (a : Int) : ∀ l : List Int, l.Pairwise (· ≤ ·) → (insI a l).Pairwise (· ≤ ·)
  | [], _ => by simp [insI]
  | b :: r, h => by
    obtain ⟨h1, h2⟩ := List.pairwise_cons.mp h
    unfold insI
    split
    · rename_i hab
      refine List.pairwise_cons.mpr ⟨fun y hy => ?_, h⟩
      rcases List.mem_cons.mp hy with e | hy
      · rw [e]; exact hab
      · exact Int.le_trans hab (h1 y hy)
    · rename_i hab
      refine List.pairwise_cons.mpr ⟨fun y hy => ?_, insI_sorted a r h2⟩
      rcases List.mem_cons.mp ((insI_perm a r).mem_iff.mp hy) with e | hy
      · rw [e]; omega
      · exact h1 y hy
theorem sortI_sorted : ∀ l : List Int, (sortI l).Pairwise (· ≤ ·)
  | [] => .nil
  | a :: r => insI_sorted a _ (sortI_sorted r)
theorem sorted_one {l l' : List Int} (p : l.Perm l') (h : l.Pairwise (· ≤ ·)) (h' : l'.Pairwise (· ≤ ·)) : l = l' :=
  p.eq_of_pairwise (fun _ _ _ _ a b => Int.le_antisymm a b) h h'
theorem ints_map {K : PySem.W.Frag} {H : Hp} : ∀ l : List Int, DvAll K H (l.map V.int) (l.map PyData.int)
  | [] => .nil
  | a :: r => .cons (.int a) (ints_map r)
end Cr
set_option Elab.async false
set_option linter.all false
set_option maxRecDepth 100000
set_option maxHeartbeats 4000000
namespace Cr
open PySem PySem.Spec PyProof.Rows L2
section
variable {X : Cx}
theorem CallR.impD {f : Value} {r r' : List V → Hp → VK → Prop} (h : CallR X f r) (i : ∀ xs H Q, r' xs H Q → r xs H Q) : CallR X f r' := fun pins s σ H xs us Q I rx w => h pins s σ H xs us Q I rx (i xs H Q w)
theorem bt_len : CallR X (.builtin "len") (rMany X.K (bltD .len)) := by
  intro pins s σ H xs us Q I rx ⟨Z, ds, r, hp, e, k⟩
  unfold bltD at e
  split at e <;> try (first | cases e | skip)
  all_goals try contradiction
  · obtain ⟨x, rfl, hx⟩ := (Paired.one hp)
    obtain ⟨p, xs, rfl, h1, r1⟩ := hx.lst
    rw [← r1.length] at k
    exact call_len_seq pins s σ H _ us Q I rx ⟨p, xs, rfl, .inl (.inl h1), k _ _ .int⟩
  · obtain ⟨x, rfl, hx⟩ := (Paired.one hp)
    obtain ⟨p, xs, rfl, h1, r1⟩ := hx.tup
    rw [← r1.length] at k
    exact call_len_seq pins s σ H _ us Q I rx ⟨p, xs, rfl, .inr h1, k _ _ .int⟩
  · split at e
    · rename_i hz
      cases e
      obtain ⟨x, rfl, hx⟩ := (Paired.one hp)
      cases hx.str
      exact call_len_str pins s σ H _ us Q I rx ⟨_, rfl, hz, k _ _ .int⟩
    · cases e
theorem bt_sum (hc : X.calm = true) : CallR X (.builtin "sum") (rMany X.K (bltD .sum)) := by
  intro pins s σ H xs us Q I rx ⟨Z, ds, r, hp, e, k⟩
  unfold bltD at e
  split at e <;> try (first | cases e | skip)
  all_goals try contradiction
  obtain ⟨x, rfl, hx⟩ := (Paired.one hp)
  obtain ⟨p, xs, rfl, h1, r1⟩ := hx.lst
  rename_i xs' _
  cases g : intsD xs' with
  | none => rw [g] at e; cases e
  | some l =>
    rw [g] at e
    cases e
    cases r1.ints g
    exact cr_sum hc pins s σ H _ us Q I rx ⟨p, l, rfl, .inl h1, k _ _ .int⟩
/-- min, max of a tuple of ints -/
theorem reads_int {h : Heap} {v : Value} {i : Int} {as : List Addr} (r : Reads h v (.int i) as) : ∃ t, v = .int i t := by
  cases r
  exact ⟨_, rfl⟩
theorem alike_ints (l : List Int) : PySem.W.AlikeAll (l.map PyData.int) := by
  refine ⟨fun x hx y hy => ?_, fun x hx e => ?_⟩
  · obtain ⟨i, _, rfl⟩ := List.mem_map.mp hx
    obtain ⟨j, _, rfl⟩ := List.mem_map.mp hy
    rfl
  · obtain ⟨i, _, rfl⟩ := List.mem_map.mp hx
    cases e
theorem depth_ints : ∀ l : List Int, PyData.depthAll (l.map PyData.int) = 0
  | [] => rfl
  | a :: r => by simp [PyData.depthAll, PyData.depth, depth_ints r]
theorem intsD_map {ds : List D} {l : List Int} (h : intsD ds = some l) : ds = l.map PyData.int := by
  induction ds generalizing l with
  | nil => cases h; rfl
  | cons d r ih =>
    cases d with
    | int i =>
      have h' : (intsD r).map (i :: ·) = some l := h
      cases g : intsD r with
      | none => rw [g] at h'; cases h'
      | some m =>
        rw [g] at h'
        cases h'
        rw [ih g]
        rfl
    | _ => cases h

theorem minI_fold (a : Int) (l : List Int) : minI (a :: l) = some (l.foldl min a) := by
  unfold minI
  have : (fun a b : Int => if b < a then b else a) = min := by
    funext a b
    show _ = (if a ≤ b then a else b)
    split <;> split <;> omega
  rw [this]
theorem maxI_fold (a : Int) (l : List Int) : maxI (a :: l) = some (l.foldl max a) := by
  unfold maxI
  have : (fun a b : Int => if b > a then b else a) = max := by
    funext a b
    show _ = (if a ≤ b then b else a)
    split <;> split <;> omega
  rw [this]
theorem tup_reads {pins : List (Addr × Obj)} {σ : L2.St} {H : Hp} {s : Shared} {a : Addr} (I : Inv X pins σ H s) {l : List Int} (h : SqT X.K H a (l.map V.int)) : ∃ vs : Array Value, s.heap.IsTuple a vs ∧ ∃ as, ReadsAll s.heap vs.toList (l.map PyData.int) as := by
  obtain ⟨its, rv, p, _⟩ := I.tuple h
  refine ⟨its.toArray, p, ?_⟩
  have go : ∀ (l : List Int) (its : List Value), Vals (l.map V.int) its → ∃ as, ReadsAll s.heap its (l.map PyData.int) as := by
    intro l
    induction l with
    | nil =>
      intro its r
      cases r
      exact ⟨_, .nil⟩
    | cons i l ih =>
      intro its r
      cases r with
      | cons r1 r2 =>
        obtain ⟨t, rfl⟩ := r1
        obtain ⟨as, q⟩ := ih _ r2
        exact ⟨_, .cons (.int i t) q⟩
  simpa using go l its rv
theorem bt_min (hc : X.calm = true) (hu : X.A.units + 64 < cLine) : CallR X (.builtin "min") (rMany X.K (bltD .min)) := by
  intro pins s σ H xs us Q I rx ⟨Z, ds, r, hp, e, k⟩
  unfold bltD at e
  split at e <;> try (first | cases e | skip)
  all_goals try contradiction
  · obtain ⟨x, rfl, hx⟩ := (Paired.one hp)
    obtain ⟨p, xs, rfl, h1, r1⟩ := hx.lst
    rename_i xs' _
    cases g : intsD xs' with
    | none => rw [g] at e; cases e
    | some l =>
      rw [g] at e
      cases g2 : minI l with
      | none =>
        replace e : (minI l).map (fun m => Rv.fz (.int m)) = some r := e
        rw [g2] at e
        cases e
      | some m =>
        replace e : (minI l).map (fun m => Rv.fz (.int m)) = some r := e
        rw [g2] at e
        cases e
        cases r1.ints g
        obtain ⟨m1, m2⟩ := minI_spec g2
        refine cr_min hc pins s σ H _ us Q I rx ⟨p, l, rfl, .inl h1, List.length_pos_of_mem m1, fun m' n1 n2 => ?_⟩
        have : m' = m := Int.le_antisymm (n2 m m1) (m2 m' n1)
        subst this
        exact k _ _ .int
  · obtain ⟨x, rfl, hx⟩ := (Paired.one hp)
    obtain ⟨p, xs, rfl, h1, r1⟩ := hx.tup
    rename_i xs' _
    cases g : intsD xs' with
    | none => rw [g] at e; cases e
    | some l =>
      rw [g] at e
      replace e : (minI l).map (fun m => Rv.fz (.int m)) = some r := e
      cases l with
      | nil => cases e
      | cons a l =>
        rw [minI_fold] at e
        cases e
        cases r1.ints g
        rw [Vals.ref1 rx]
        obtain ⟨vs, ht, as, hr⟩ := tup_reads I h1
        refine PySem.W.min_tuple_data (I.ok.hd hc) ht hr (alike_ints (a :: l)) (by have w := depth_ints (a :: l); rw [List.map_cons] at w; rw [w]; omega) fun i v h' tk bs _ hv hk => ?_
        rw [PySem.W.minD_ints] at hv
        obtain ⟨t, rfl⟩ := reads_int hv
        exact ⟨.int _, H, I.kept (t' := tk) hk, ⟨t, rfl⟩, k _ _ .int⟩
theorem bt_max (hc : X.calm = true) (hu : X.A.units + 64 < cLine) : CallR X (.builtin "max") (rMany X.K (bltD .max)) := by
  intro pins s σ H xs us Q I rx ⟨Z, ds, r, hp, e, k⟩
  unfold bltD at e
  split at e <;> try (first | cases e | skip)
  all_goals try contradiction
  · obtain ⟨x, rfl, hx⟩ := (Paired.one hp)
    obtain ⟨p, xs, rfl, h1, r1⟩ := hx.lst
    rename_i xs' _
    cases g : intsD xs' with
    | none => rw [g] at e; cases e
    | some l =>
      rw [g] at e
      replace e : (maxI l).map (fun m => Rv.fz (.int m)) = some r := e
      cases g2 : maxI l with
      | none =>
        rw [g2] at e
        cases e
      | some m =>
        rw [g2] at e
        cases e
        cases r1.ints g
        obtain ⟨m1, m2⟩ := maxI_spec g2
        refine cr_max hc pins s σ H _ us Q I rx ⟨p, l, rfl, .inl h1, List.length_pos_of_mem m1, fun m' n1 n2 => ?_⟩
        have : m' = m := Int.le_antisymm (m2 m' n1) (n2 m m1)
        subst this
        exact k _ _ .int
  · obtain ⟨x, rfl, hx⟩ := (Paired.one hp)
    obtain ⟨p, xs, rfl, h1, r1⟩ := hx.tup
    rename_i xs' _
    cases g : intsD xs' with
    | none => rw [g] at e; cases e
    | some l =>
      rw [g] at e
      replace e : (maxI l).map (fun m => Rv.fz (.int m)) = some r := e
      cases l with
      | nil => cases e
      | cons a l =>
        rw [maxI_fold] at e
        cases e
        cases r1.ints g
        rw [Vals.ref1 rx]
        obtain ⟨vs, ht, as, hr⟩ := tup_reads I h1
        refine PySem.W.max_tuple_data (I.ok.hd hc) ht hr (alike_ints (a :: l)) (by have w := depth_ints (a :: l); rw [List.map_cons] at w; rw [w]; omega) fun i v h' tk bs _ hv hk => ?_
        rw [PySem.W.maxD_ints] at hv
        obtain ⟨t, rfl⟩ := reads_int hv
        exact ⟨.int _, H, I.kept (t' := tk) hk, ⟨t, rfl⟩, k _ _ .int⟩
theorem bt_min2 (hc : X.calm = true) : CallR X (.builtin "min") (rMany X.K (bltD .min2)) := by
  intro pins s σ H xs us Q I rx ⟨Z, ds, r, hp, e, k⟩
  unfold bltD at e
  split at e <;> try (first | cases e | skip)
  all_goals try contradiction
  obtain ⟨x, y, rfl, hx, hy⟩ := (Paired.two hp)
  cases hx.int; cases hy.int
  exact call_min2 hc pins s σ H _ us Q I rx ⟨_, _, rfl, k _ _ .int⟩
theorem bt_max2 (hc : X.calm = true) : CallR X (.builtin "max") (rMany X.K (bltD .max2)) := by
  intro pins s σ H xs us Q I rx ⟨Z, ds, r, hp, e, k⟩
  unfold bltD at e
  split at e <;> try (first | cases e | skip)
  all_goals try contradiction
  obtain ⟨x, y, rfl, hx, hy⟩ := (Paired.two hp)
  cases hx.int; cases hy.int
  exact call_max2 hc pins s σ H _ us Q I rx ⟨_, _, rfl, k _ _ .int⟩
theorem bt_all (hc : X.calm = true) : CallR X (.builtin "all") (rMany X.K (bltD .all)) := by
  intro pins s σ H xs us Q I rx ⟨Z, ds, r, hp, e, k⟩
  unfold bltD at e
  split at e <;> try (first | cases e | skip)
  all_goals try contradiction
  obtain ⟨x, rfl, hx⟩ := (Paired.one hp)
  obtain ⟨p, xs, rfl, h1, r1⟩ := hx.lst
  rename_i xs' _
  cases g : boolsD xs' with
  | none => rw [g] at e; cases e
  | some l =>
    rw [g] at e
    cases e
    cases r1.bools g
    exact cr_all hc pins s σ H _ us Q I rx ⟨p, l, rfl, .inl h1, k _ _ .bool⟩
theorem bt_any (hc : X.calm = true) : CallR X (.builtin "any") (rMany X.K (bltD .any)) := by
  intro pins s σ H xs us Q I rx ⟨Z, ds, r, hp, e, k⟩
  unfold bltD at e
  split at e <;> try (first | cases e | skip)
  all_goals try contradiction
  obtain ⟨x, rfl, hx⟩ := (Paired.one hp)
  obtain ⟨p, xs, rfl, h1, r1⟩ := hx.lst
  rename_i xs' _
  cases g : boolsD xs' with
  | none => rw [g] at e; cases e
  | some l =>
    rw [g] at e
    cases e
    cases r1.bools g
    exact cr_any hc pins s σ H _ us Q I rx ⟨p, l, rfl, .inl h1, k _ _ .bool⟩
theorem bt_tuple : CallR X (.type "tuple") (rMany X.K (bltD .tuple)) := by
  intro pins s σ H xs us Q I rx ⟨Z, ds, r, hp, e, k⟩
  unfold bltD at e
  split at e <;> try (first | cases e | skip)
  all_goals try contradiction
  · obtain ⟨x, rfl, hx⟩ := (Paired.one hp)
    obtain ⟨p, xs, rfl, h1, r1⟩ := hx.lst
    exact call_tuple_of pins s σ H _ us Q I rx ⟨p, xs, rfl, .inl ⟨.inl h1, fun l n => k _ _ (.tup n r1)⟩⟩
  · obtain ⟨x, rfl, hx⟩ := (Paired.one hp)
    have hT := hx.tupH
    obtain ⟨p, xs, rfl, h1, r1⟩ := hx.tup
    exact call_tuple_of pins s σ H _ us Q I rx ⟨p, xs, rfl, .inr ⟨h1, k _ _ (.old hT)⟩⟩
theorem bt_list : CallR X (.type "list") (rMany X.K (bltD .list)) := by
  intro pins s σ H xs us Q I rx ⟨Z, ds, r, hp, e, k⟩
  unfold bltD at e
  split at e <;> try (first | cases e | skip)
  all_goals try contradiction
  · obtain ⟨x, rfl, hx⟩ := (Paired.one hp)
    obtain ⟨p, xs, rfl, h1, r1⟩ := hx.lst
    exact call_list_of pins s σ H _ us Q I rx ⟨p, xs, rfl, .inl (.inl h1), fun l n => k _ _ (.lst n r1)⟩
  · obtain ⟨x, rfl, hx⟩ := (Paired.one hp)
    obtain ⟨p, xs, rfl, h1, r1⟩ := hx.tup
    exact call_list_of pins s σ H _ us Q I rx ⟨p, xs, rfl, .inr h1, fun l n => k _ _ (.lst n r1)⟩
theorem bt_int : CallR X (.type "int") (rMany X.K (bltD .int)) := by
  intro pins s σ H xs us Q I rx ⟨Z, ds, r, hp, e, k⟩
  unfold bltD at e
  split at e <;> try (first | cases e | skip)
  all_goals try contradiction
  obtain ⟨x, rfl, hx⟩ := (Paired.one hp)
  cases hx.int
  exact call_int1 pins s σ H _ us Q I rx (.inl ⟨_, rfl, k _ _ .int⟩)
theorem bt_abs : CallR X (.builtin "abs") (rMany X.K (bltD .abs)) := by
  intro pins s σ H xs us Q I rx ⟨Z, ds, r, hp, e, k⟩
  unfold bltD at e
  split at e <;> try (first | cases e | skip)
  all_goals try contradiction
  obtain ⟨x, rfl, hx⟩ := (Paired.one hp)
  cases hx.int
  exact call_abs pins s σ H _ us Q I rx ⟨_, rfl, k _ _ .int⟩
theorem bt_sorted : CallR X (.builtin "sorted") (rMany X.K (bltD .sorted)) := by
  intro pins s σ H xs us Q I rx ⟨Z, ds, r, hp, e, k⟩
  unfold bltD at e
  split at e <;> try (first | cases e | skip)
  all_goals try contradiction
  obtain ⟨x, rfl, hx⟩ := (Paired.one hp)
  obtain ⟨p, xs, rfl, h1, r1⟩ := hx.lst
  rename_i xs' _
  cases g : intsD xs' with
  | none => rw [g] at e; cases e
  | some l =>
    rw [g] at e
    replace e : (if l.length < 64 then some (Rv.fr (.list ((sortI l).map .int))) else none) = some r := e
    split at e
    · rename_i h64
      cases e
      cases r1.ints g
      refine cr_sorted pins s σ H _ us Q I rx ⟨p, l, rfl, .inl h1, h64, fun ns' q pm srt n => ?_⟩
      have : ns' = sortI l := sorted_one (pm.trans (sortI_perm l).symm) srt (sortI_sorted l)
      subst this
      exact k _ _ (.lst n (ints_map _))
    · cases e
theorem bt_repr (hg : X.A.guards = some []) (hu : X.A.units + 64 < cLine) (hs : ∃ o, X.K.lookup sysModules = some o) : CallR X (.builtin "repr") (rMany X.K (bltD .repr)) := by
  intro pins s σ H xs us Q I rx ⟨Z, ds, r, hp, e, k⟩
  unfold bltD at e
  split at e <;> try (first | cases e | skip)
  all_goals try contradiction
  rename_i d _
  split at e
  · rename_i hz
    cases e
    obtain ⟨x, rfl, hx⟩ := (Paired.one hp)
    obtain ⟨u, rfl, ru⟩ := vals1 rx
    have hn : H sysModules = none := by
      obtain ⟨o, ho⟩ := hs
      exact (I.bs _ _ (I.ok.mod.kin _ _ ho)).2
    have hf := hx.full
    cases hf with
    | non =>
      cases ru
      exact PySem.P.repr_of_none ⟨.str _, H, I.tok _, ⟨_, rfl⟩, k _ _ .str⟩
    | bl b =>
      cases ru
      exact PySem.P.repr_of_bool ⟨.str _, H, I.tok _, ⟨_, rfl⟩, k _ _ .str⟩
    | int i =>
      obtain ⟨t, rfl⟩ := ru
      exact PySem.P.repr_of_int (by simpa [PyData.showable] using hz.1) ⟨.str _, H, I.tok _, ⟨_, rfl⟩, k _ _ .str⟩
    | str y =>
      obtain ⟨t, rfl⟩ := ru
      exact PySem.P.repr_of_str ⟨.str _, H, I.tok _, ⟨_, rfl⟩, k _ _ .str⟩ hz.2.1
    | lst a b =>
      obtain ⟨as, hr, hm⟩ := Dv.reads I hn _ _ _ (.lst a b) ru
      cases ru
      exact repr_of_reads' hr hz.1 (fun _ => hm) hg (by have := hz.2.2; omega) (fun _ _ q => q) (fun h' u tk hk => ⟨.str _, H, I.kept (t' := tk) hk, ⟨_, rfl⟩, k _ _ .str⟩) hz.2.1
    | tup a b =>
      obtain ⟨as, hr, hm⟩ := Dv.reads I hn _ _ _ (.tup a b) ru
      cases ru
      exact repr_of_reads' hr hz.1 (fun _ => hm) hg (by have := hz.2.2; omega) (fun _ _ q => q) (fun h' u tk hk => ⟨.str _, H, I.kept (t' := tk) hk, ⟨_, rfl⟩, k _ _ .str⟩) hz.2.1
    | dct a =>
      obtain ⟨as, hr, hm⟩ := Dv.reads I hn _ _ _ (.dct a) ru
      cases ru
      exact repr_of_reads' hr hz.1 (fun _ => hm) hg (by have := hz.2.2; omega) (fun _ _ q => q) (fun h' u tk hk => ⟨.str _, H, I.kept (t' := tk) hk, ⟨_, rfl⟩, k _ _ .str⟩) hz.2.1
  · cases e
end
end Cr
set_option Elab.async false
set_option linter.all false
set_option maxRecDepth 100000
set_option maxHeartbeats 4000000
namespace Cr
open PySem PySem.Spec PyProof.Rows L2
/-! ### syntax that stands alone -/
def isPl : Expr → Bool
  | .Starred _ _ => false
  | .Slice _ _ _ _ => false
  | .Set _ _ _ => false
  | .NamedExpr _ _ _ => false
  | .Lambda _ _ _ _ => false
  | _ => true
theorem star1 {e : Expr} (h : isPl e = true) (es : List Expr) (env : Env) : starEach (e :: es) env = (false, eval e env) :: starEach es env := by
  cases e <;> first | rfl | cases h
theorem starAll (env : Env) : ∀ es : List Expr, es.all isPl = true → (starEach es env).any (·.1) = false
  | [], _ => rfl
  | e :: es, h => by
    rw [List.all_cons, Bool.and_eq_true] at h
    rw [star1 h.1, List.any_cons, starAll env es h.2]
    rfl
theorem backTo_any (pos : Pos) (l : List (Bool × Sem Value)) (h : l.any (·.1) = false) : (backTo pos l).any (·.1) = false := by
  unfold backTo
  rw [List.any_map]
  exact h
theorem plIx {e : Expr} (h : isPl e = true) : PlainIx e := by
  intro o i
  cases e <;> first | rfl | cases h
theorem plSet {e : Expr} (h : isPl e = true) (env : Env) (x : Value) : foldedSetIterable e env x = pure x := by
  cases e <;> first | rfl | cases h
theorem plMark {e : Expr} (h : isPl e = true) (op : CmpOp) : behindInMarks op e = false := by
  cases e <;> first | rfl | cases h
section
variable {X : Cx} {K : PySem.W.Frag} {W : WX} {cv : Nat → Value}
theorem bindR {α β γ : Type} (m : Rs α) (f : α → Ev → Rs β) (g : β → Ev → Rs γ) : (m.bind f).bind g = m.bind fun a e => (f a e).bind g := by
  cases m <;> rfl
/-! ### argument lists -/
abbrev tDs (K : PySem.W.Frag) (W : WX) (cv : Nat → Value) (f : Ev → Rs (List D)) : TA := tR K W cv (rDs K) f
abbrev tOs (K : PySem.W.Frag) (W : WX) (cv : Nat → Value) (f : Ev → Rs (List Op)) : TA := tR K W cv (rOs K) f
theorem pa_D0 : PA X [] (tDs K W cv fun e => .ok [] e) := pa_nil.imp fun σ H Q ⟨F, e, Z, R, p⟩ => p [] H Z R .refl .nil
theorem pa_D1 {a : Expr} {es : List Expr} {f : Ev → Rs Rv} {g : Ev → Rs (List D)} (hp : isPl a = true) (ha : PE X a (tE K W cv f)) (hr : PA X es (tDs K W cv g)) :
    PA X (a :: es) (tDs K W cv fun e => (f e).bind fun v e => (g e).bind fun ds e => .ok (v.d :: ds) e) := (pa_cons (pe_D ha) hr (star1 hp _ _)).imp fun σ H Q ⟨F, e, Z, R, p⟩ => by
  have e1 : ((f e).bind fun v e => (g e).bind fun ds e => Rs.ok (v.d :: ds) e) = ((f e).bind fun r e => Rs.ok r.d e).bind fun d e => (g e).bind fun ds e => Rs.ok (d :: ds) e := by
    rw [bindR]
    rfl
  replace p : Pst K W cv (rDs K) F σ e H Z (((f e).bind fun r e => Rs.ok r.d e).bind fun d e => (g e).bind fun ds e => Rs.ok (d :: ds) e) Q := e1 ▸ p
  refine ⟨F, e, Z, R, (p.bind (R1 := rD K) (fun _ _ _ _ _ _ _ _ _ _ k _ q => q) R).mono fun x H1 ⟨d, e1, Z1, R1, k1, q1, p1⟩ => ?_⟩
  refine ⟨F, e1, Z1, R1, (p1.bind (R1 := rDs K) (fun _ _ _ _ _ _ _ _ _ _ k _ q => q) R1).mono fun y H2 ⟨ds, e2, Z2, R2, k2, q2, p2⟩ => ?_⟩
  exact p2 (x :: y) H2 Z2 R2 .refl (.cons (Dv.le (k2.le R1) q1) q2)
theorem pa_O0 : PA X [] (tOs K W cv fun e => .ok [] e) := pa_nil.imp fun σ H Q ⟨F, e, Z, R, p⟩ => p [] H Z R .refl .nil
theorem pa_O1 {a : Expr} {es : List Expr} {f : Ev → Rs Op} {g : Ev → Rs (List Op)} (hp : isPl a = true) (ha : PE X a (tO K W cv f)) (hr : PA X es (tOs K W cv g)) :
    PA X (a :: es) (tOs K W cv fun e => (f e).bind fun v e => (g e).bind fun ds e => .ok (v :: ds) e) := (pa_cons ha hr (star1 hp _ _)).imp fun σ H Q ⟨F, e, Z, R, p⟩ => by
  refine ⟨F, e, Z, R, (Pst.bind (R1 := rO K) (R2 := rOs K) (fun _ _ _ _ _ _ _ _ _ _ k _ q => q) R p).mono fun x H1 ⟨d, e1, Z1, R1, k1, q1, p1⟩ => ?_⟩
  refine ⟨F, e1, Z1, R1, (p1.bind (R1 := rOs K) (fun _ _ _ _ _ _ _ _ _ _ k _ q => q) R1).mono fun y H2 ⟨ds, e2, Z2, R2, k2, q2, p2⟩ => ?_⟩
  exact p2 (x :: y) H2 Z2 R2 .refl (.cons (q1.keep R1 k2) q2)
/-! ### displays -/
theorem pe_tupD {es : List Expr} {k : Nat} {pos : Pos} {f : Ev → Rs (List D)} (h : PA X es (tDs K W cv f)) : PE X (.Tuple es k pos) (tE K W cv fun e => (f e).bind fun ds e => if ds.length ≤ sizeLine then .ok (.fz (.tuple ds)) e else .er) :=
  (pe_tup h).imp fun σ H Q ⟨F, e, Z, R, p⟩ => by
    refine ⟨F, e, Z, R, (Pst.bind (R1 := rDs K) (R2 := rE K) (fun _ _ _ _ _ _ _ _ _ _ k _ q => trE k q) R p).mono fun xs H1 ⟨ds, e1, Z1, R1, k1, q1, p1⟩ => ?_⟩
    split at p1
    · rename_i hz
      refine ⟨by rw [q1.length]; exact hz, fun a n => ?_⟩
      obtain ⟨Z', R', k, q⟩ := new_ok R1 (.tup n q1)
      exact p1 _ _ Z' R' k q
    · exact p1.elim
theorem pe_lstD {es : List Expr} {pos : Pos} {f : Ev → Rs (List D)} (h : PA X es (tDs K W cv f)) : PE X (.List es pos) (tE K W cv fun e => (f e).bind fun ds e => if ds.length ≤ sizeLine then .ok (.fr (.list ds)) e else .er) :=
  (pe_lst h).imp fun σ H Q ⟨F, e, Z, R, p⟩ => by
    refine ⟨F, e, Z, R, (Pst.bind (R1 := rDs K) (R2 := rE K) (fun _ _ _ _ _ _ _ _ _ _ k _ q => trE k q) R p).mono fun xs H1 ⟨ds, e1, Z1, R1, k1, q1, p1⟩ => ?_⟩
    split at p1
    · rename_i hz
      refine ⟨by rw [q1.length]; exact hz, fun a n => ?_⟩
      obtain ⟨Z', R', k, q⟩ := new_ok R1 (.lst n q1)
      exact p1 _ _ Z' R' k q
    · exact p1.elim
theorem pe_dictD {pos : Pos} : PE X (.Dict [] [] pos) (tE K W cv fun e => .ok (.fz (.dict [])) e) := pe_dnewK.imp fun σ H Q ⟨F, e, Z, R, p⟩ a n => by
  obtain ⟨Z', R', k, q⟩ := new_ok R (.dct (K := K) n)
  exact p _ _ Z' R' k q
/-! ### built-in functions -/
theorem pe_bltD {x : Str} {id : String} {p pos : Pos} {a : Expr} {es : List Expr} {g : Ev → Rs (List Op)} {f : List D → Option Rv} (hc : CallR X (.builtin id) (rMany K f)) (hg : Gl X x) (hm : X.mg x = none) (hv : bootBuiltins x = some (.builtin id)) (hpl : (a :: es).all isPl = true) (ha : PA X (a :: es) (tOs K W cv g))
    (hn : x ≠ "__name__") (hdb : (x == ("__debug__" : Str)) = false) : PE X (.Call (.Name x p) (a :: es) [] pos) (tE K W cv fun e => (g e).bind fun os e => many os e f) := by
  have hpl' : isPl a = true ∧ es.all isPl = true := by rw [List.all_cons, Bool.and_eq_true] at hpl; exact hpl
  refine (pe_callB hc hg hm hv ha hn hdb (star1 hpl'.1 _ _) (backTo_any _ _ (starAll _ _ hpl'.2))).imp fun σ H Q ⟨F, e, Z, R, p⟩ => ?_
  refine ⟨F, e, Z, R, (Pst.bind (R1 := rOs K) (R2 := rE K) (fun _ _ _ _ _ _ _ _ _ _ k _ q => trE k q) R p).mono fun xs H1 ⟨os, e1, Z1, R1, k1, q1, p1⟩ => ?_⟩
  exact many_ok R1 q1 p1
theorem pe_bltT {x : Str} {T : String} {p pos : Pos} {a : Expr} {es : List Expr} {g : Ev → Rs (List Op)} {f : List D → Option Rv} (hc : CallR X (.type T) (rMany K f)) (hg : Gl X x) (hm : X.mg x = none) (hv : bootBuiltins x = some (.type T)) (hpl : (a :: es).all isPl = true) (ha : PA X (a :: es) (tOs K W cv g))
    (hn : x ≠ "__name__") (hdb : (x == ("__debug__" : Str)) = false) : PE X (.Call (.Name x p) (a :: es) [] pos) (tE K W cv fun e => (g e).bind fun os e => many os e f) := by
  have hpl' : isPl a = true ∧ es.all isPl = true := by rw [List.all_cons, Bool.and_eq_true] at hpl; exact hpl
  refine (pe_callTy hc hg hm hv ha hn hdb (star1 hpl'.1 _ _) (backTo_any _ _ (starAll _ _ hpl'.2))).imp fun σ H Q ⟨F, e, Z, R, p⟩ => ?_
  refine ⟨F, e, Z, R, (Pst.bind (R1 := rOs K) (R2 := rE K) (fun _ _ _ _ _ _ _ _ _ _ k _ q => trE k q) R p).mono fun xs H1 ⟨os, e1, Z1, R1, k1, q1, p1⟩ => ?_⟩
  exact many_ok R1 q1 p1
/-- isinstance(a, T) -/
theorem pe_isi {p p2 pos : Pos} {a : Expr} {g : Ev → Rs Op} {t : Ty} {tx : Str} (hg : Gl X "isinstance") (hm : X.mg "isinstance" = none) (hgt : Gl X tx) (hmt : X.mg tx = none) (hvt : bootBuiltins tx = some (.type t.n)) (hnt : tx ≠ "__name__") (hdt : (tx == ("__debug__" : Str)) = false)
    (hpl : isPl a = true) (ha : PE X a (tO X.K W cv g)) : PE X (.Call (.Name "isinstance" p) [a, .Name tx p2] [] pos) (tE X.K W cv fun e => (g e).bind fun x e => one x e fun d => some (.fz (.bool (isD d t)))) := by
  refine (pe_callB call_isi hg hm (by decide +kernel) (pa_cons ha (pa_cons (pe_bltn (v := .ty t.n) hgt hmt hvt rfl hnt hdt) pa_nil) (star1 hpl _ _)) (he := star1 hpl _ _)).imp fun σ H Q ⟨F, e, Z, R, p⟩ => ?_
  refine ⟨F, e, Z, R, (Pst.bind (R1 := rO X.K) (R2 := rE X.K) (fun _ _ _ _ _ _ _ _ _ _ k _ q => trE k q) R p).mono fun x H1 ⟨o, e1, Z1, R1, k1, q1, p1⟩ => ?_⟩
  obtain ⟨Z2, d, r, cd, er, k2⟩ := one_ok R1 q1 p1
  cases er
  obtain ⟨u, h1, h2⟩ := tyx_D cd.full t
  exact ⟨x, .ty t.n, u, .type t.n, isD d t, rfl, .ty _, h1, h2, k2 _ _ .bool⟩
/-! ### truth -/
theorem tru_D {H : Hp} {v : V} {d : D} {b : Bool} (h : Dv K H v d) (e : truD d = some b) : TruV K v H b := by
  cases h with
  | bl c => cases e; rfl
  | int i => cases e; rfl
  | lst s r =>
    cases e
    refine .inl ⟨_, .inl s, ?_⟩
    cases r <;> rfl
  | tup s r =>
    cases e
    refine .inr (.inl ⟨_, s, ?_⟩)
    cases r <;> rfl
  | _ => cases e
/-- a test that is no chain of its own -/
def plT : Expr → Bool
  | .UnaryOp .Not _ _ => false
  | .BoolOp _ _ _ => false
  | .IfExp _ _ _ _ => false
  | .Compare _ _ _ _ => false
  | _ => true
theorem plT_is {e : Expr} (h : plT e = true) (env : Env) (whole : Sem Value) : isTrue e env whole = (do let v ← whole; standAt e.pos; holding [v] (truthy v)) := by
  cases e with
  | UnaryOp o x p => cases o <;> first | rfl | cases h
  | _ => first | rfl | cases h
theorem pt_D {e : Expr} {g : Ev → Rs Op} (h : plT e = true) (he : PE X e (tO X.K W cv g)) : PT X e (tT X.K W cv fun e => (g e).bind fun o e => match o.get e with
    | some d => (match truD d with | some b => .ok b e | none => .er)
    | none => .er) := (pt_truth he (plT_is h _)).imp fun σ H Q ⟨F, e, Z, R, p⟩ => by
  refine ⟨F, e, Z, R, (Pst.bind (R1 := rO X.K) (R2 := rB) (fun _ _ _ _ _ _ _ _ _ _ k _ q => q) R p).mono fun x H1 ⟨o, e1, Z1, R1, k1, q1, p1⟩ => ?_⟩
  cases g1 : o.get e1 with
  | none => rw [g1] at p1; exact p1.elim
  | some d =>
    rw [g1] at p1
    cases g2 : truD d with
    | none => simp only [g2] at p1; exact p1.elim
    | some b =>
      simp only [g2] at p1
      exact ⟨b, tru_D (q1.get R1 g1).full g2, p1 b H1 Z1 R1 .refl rfl⟩
/-- .. whose value is True or False -/
theorem pt_B {e : Expr} {f : Ev → Rs Rv} (h : plT e = true) (he : PE X e (tE K W cv f)) : PT X e (tT K W cv fun e => tstR (f e)) := (pt_val he (plT_is h _)).imp fun σ H Q ⟨F, e, Z, R, p⟩ => by
  refine ⟨F, e, Z, R, ?_⟩
  replace p : Pst K W cv rB F σ e H Z (tstR (f e)) Q := p
  cases g : f e with
  | er => rw [g] at p; exact p
  | ex x e' => rw [g] at p; exact p
  | ok r e' =>
    rw [g] at p
    intro v H' Z' R' k q
    obtain ⟨Z2, R2, k2, q2⟩ := q.freeze R' k
    have p' : Pst K W cv rB F σ e H Z (match r.d with | .bool b => .ok b e' | _ => .er) Q := p
    cases hr : r.d with
    | bool b =>
      rw [hr] at p' q2
      cases q2
      exact ⟨b, rfl, p' b H' Z2 R2 k2 rfl⟩
    | _ => rw [hr] at p'; exact p'.elim
/-! ### and, or, not -/
theorem tstR_ok {m : Rs Rv} {F : Fr} {σ : L2.St} {e : Ev} {H : Hp} {Z : Addr → Prop} {Q : Bool → Hp → Prop} (p : Pst K W cv rB F σ e H Z (tstR m) Q) : Pst K W cv (rE K) F σ e H Z m fun v H' => ∃ b, v = .bl b ∧ Q b H' := by
  cases m with
  | er => exact p
  | ex x e' => exact p
  | ok r e' =>
    intro v H' Z' R' k q
    obtain ⟨Z2, R2, k2, q2⟩ := q.freeze R' k
    have p' : Pst K W cv rB F σ e H Z (match r.d with | .bool b => .ok b e' | _ => .er) Q := p
    cases hr : r.d with
    | bool b =>
      rw [hr] at p' q2
      cases q2
      exact ⟨b, rfl, p' b H' Z2 R2 k2 rfl⟩
    | _ => rw [hr] at p'; exact p'.elim
theorem pe_andD {a b : Expr} {rest : List Expr} {pos : Pos} {f g : Ev → Rs Rv} (ha : PE X a (tE K W cv f)) (hb : PE X (.BoolOp .And (b :: rest) pos) (tE K W cv g)) :
    PE X (.BoolOp .And (a :: b :: rest) pos) (tE K W cv fun e => (tstR (f e)).bind fun t e => if t = true then g e else .ok (.fz (.bool false)) e) := (pe_and ha hb).imp fun σ H Q ⟨F, e, Z, R, p⟩ => by
  refine ⟨F, e, Z, R, (tstR_ok (Pst.bind (R1 := rB) (R2 := rE K) (fun _ _ _ _ _ _ _ _ _ _ k _ q => trE k q) R p)).mono fun x H1 ⟨c, ec, t, e1, Z1, R1, k1, q1, p1⟩ => ?_⟩
  subst ec q1
  refine ⟨c, rfl, ?_⟩
  cases c with
  | true => exact ⟨F, e1, Z1, R1, p1⟩
  | false => exact p1 _ H1 Z1 R1 .refl ⟨.bl false, fun _ _ e => by cases e⟩
theorem pe_orD {a b : Expr} {rest : List Expr} {pos : Pos} {f g : Ev → Rs Rv} (ha : PE X a (tE K W cv f)) (hb : PE X (.BoolOp .Or (b :: rest) pos) (tE K W cv g)) :
    PE X (.BoolOp .Or (a :: b :: rest) pos) (tE K W cv fun e => (tstR (f e)).bind fun t e => if t = true then .ok (.fz (.bool true)) e else g e) := (pe_or ha hb).imp fun σ H Q ⟨F, e, Z, R, p⟩ => by
  refine ⟨F, e, Z, R, (tstR_ok (Pst.bind (R1 := rB) (R2 := rE K) (fun _ _ _ _ _ _ _ _ _ _ k _ q => trE k q) R p)).mono fun x H1 ⟨c, ec, t, e1, Z1, R1, k1, q1, p1⟩ => ?_⟩
  subst ec q1
  refine ⟨c, rfl, ?_⟩
  cases c with
  | false => exact ⟨F, e1, Z1, R1, p1⟩
  | true => exact p1 _ H1 Z1 R1 .refl ⟨.bl true, fun _ _ e => by cases e⟩
theorem pe_notD {a : Expr} {pos : Pos} {f : Ev → Rs Rv} (ha : PE X a (tE K W cv f)) : PE X (.UnaryOp .Not a pos) (tE K W cv fun e => (tstR (f e)).bind fun t e => .ok (.fz (.bool (!t))) e) := (pe_not ha).imp fun σ H Q ⟨F, e, Z, R, p⟩ => by
  refine ⟨F, e, Z, R, (tstR_ok (Pst.bind (R1 := rB) (R2 := rE K) (fun _ _ _ _ _ _ _ _ _ _ k _ q => trE k q) R p)).mono fun x H1 ⟨c, ec, t, e1, Z1, R1, k1, q1, p1⟩ => ?_⟩
  subst ec q1
  exact ⟨c, rfl, p1 _ H1 Z1 R1 .refl ⟨.bl _, fun _ _ e => by cases e⟩⟩
/-- a value's test told again -/
theorem tstB {m : Rs Bool} (f : Bool → Bool) : tstR (m.bind fun t e => .ok (.fz (.bool (f t))) e) = m.bind fun t e => .ok (f t) e := by
  cases m <;> rfl
theorem pw_andD {a b : Expr} {rest : List Expr} {pos : Pos} {f g : Ev → Rs Rv} (ha : PT X a (tT K W cv fun e => tstR (f e))) (hb : PW X (.BoolOp .And (b :: rest) pos) (tT K W cv fun e => tstR (g e))) :
    PW X (.BoolOp .And (a :: b :: rest) pos) (tT K W cv fun e => tstR ((tstR (f e)).bind fun t e => if t = true then g e else .ok (.fz (.bool false)) e)) := ⟨fun wh pins s σ H Q I ⟨F, e, Z, R, p⟩ => by
  refine (pw_and ha hb).run wh pins s σ H Q I ?_
  have e1 : tstR ((tstR (f e)).bind fun t e => if t = true then g e else .ok (.fz (.bool false)) e) = (tstR (f e)).bind fun t e => if t = true then tstR (g e) else .ok false e := by
    unfold tstR
    rw [bindR]
    congr 1
    funext t e
    split <;> rfl
  replace p : Pst K W cv rB F σ e H Z ((tstR (f e)).bind fun t e => if t = true then tstR (g e) else .ok false e) Q := e1 ▸ p
  refine ⟨F, e, Z, R, (p.bind (R1 := rB) (fun _ _ _ _ _ _ _ _ _ _ k _ q => q) R).mono fun c H1 ⟨t, e1, Z1, R1, k1, q1, p1⟩ => ?_⟩
  subst q1
  cases c with
  | true => exact ⟨F, e1, Z1, R1, p1⟩
  | false => exact p1 _ H1 Z1 R1 .refl rfl⟩
theorem pw_orD {a b : Expr} {rest : List Expr} {pos : Pos} {f g : Ev → Rs Rv} (ha : PT X a (tT K W cv fun e => tstR (f e))) (hb : PW X (.BoolOp .Or (b :: rest) pos) (tT K W cv fun e => tstR (g e))) :
    PW X (.BoolOp .Or (a :: b :: rest) pos) (tT K W cv fun e => tstR ((tstR (f e)).bind fun t e => if t = true then .ok (.fz (.bool true)) e else g e)) := ⟨fun wh pins s σ H Q I ⟨F, e, Z, R, p⟩ => by
  refine (pw_or ha hb).run wh pins s σ H Q I ?_
  have e1 : tstR ((tstR (f e)).bind fun t e => if t = true then .ok (.fz (.bool true)) e else g e) = (tstR (f e)).bind fun t e => if t = true then .ok true e else tstR (g e) := by
    unfold tstR
    rw [bindR]
    congr 1
    funext t e
    split <;> rfl
  replace p : Pst K W cv rB F σ e H Z ((tstR (f e)).bind fun t e => if t = true then .ok true e else tstR (g e)) Q := e1 ▸ p
  refine ⟨F, e, Z, R, (p.bind (R1 := rB) (fun _ _ _ _ _ _ _ _ _ _ k _ q => q) R).mono fun c H1 ⟨t, e1, Z1, R1, k1, q1, p1⟩ => ?_⟩
  subst q1
  cases c with
  | false => exact ⟨F, e1, Z1, R1, p1⟩
  | true => exact p1 _ H1 Z1 R1 .refl rfl⟩
theorem pt_notD {a : Expr} {pos : Pos} {f : Ev → Rs Rv} (ha : PT X a (tT K W cv fun e => tstR (f e))) : PT X (.UnaryOp .Not a pos) (tT K W cv fun e => tstR ((tstR (f e)).bind fun t e => .ok (.fz (.bool (!t))) e)) := (pt_not ha).imp fun σ H Q ⟨F, e, Z, R, p⟩ => by
  replace p : Pst K W cv rB F σ e H Z ((tstR (f e)).bind fun t e => .ok (!t) e) Q := tstB (fun t => !t) ▸ p
  refine ⟨F, e, Z, R, (p.bind (R1 := rB) (fun _ _ _ _ _ _ _ _ _ _ k _ q => q) R).mono fun c H1 ⟨t, e1, Z1, R1, k1, q1, p1⟩ => ?_⟩
  subst q1
  exact p1 _ H1 Z1 R1 .refl rfl
theorem pe_ifD {c a b : Expr} {pos : Pos} {t : Ev → Rs Bool} {f g : Ev → Rs Rv} (hc : PT X c (tT K W cv t)) (ha : PE X a (tE K W cv f)) (hb : PE X b (tE K W cv g)) : PE X (.IfExp c a b pos) (tE K W cv fun e => (t e).bind fun q e => if q = true then f e else g e) := (pe_ifExp hc ha hb).imp fun σ H Q ⟨F, e, Z, R, p⟩ => by
  refine ⟨F, e, Z, R, (Pst.bind (R1 := rB) (R2 := rE K) (fun _ _ _ _ _ _ _ _ _ _ k _ q => trE k q) R p).mono fun c H1 ⟨t, e1, Z1, R1, k1, q1, p1⟩ => ?_⟩
  subst q1
  cases c with
  | true => exact ⟨F, e1, Z1, R1, p1⟩
  | false => exact ⟨F, e1, Z1, R1, p1⟩
/-! ### comparisons -/
theorem pe_cmpD {a b : Expr} {op : CmpOp} {pos : Pos} {f g : Ev → Rs Op} (ho : OpR X (compareOp op) (rCm K (cmpD op))) (ha : PE X a (tO K W cv f)) (hb : PE X b (tO K W cv g)) (hpl : isPl b = true) :
    PE X (.Compare a [op] [b] pos) (tE K W cv fun e => (f e).bind fun x e => (g e).bind fun y e => two x y e fun p q => (cmpD op p q).map fun b => .fz (.bool b)) := (pe_cmpR ho ha hb (plMark hpl _)).imp fun σ H Q w => bin_red w
theorem rCm_bool {op : CmpOp} {x y : V} {H : Hp} {Q : VK} (h : rCm K (cmpD op) x y H Q) : ∃ b, Q (.bl b) H := by
  obtain ⟨Z, a, b, r, ha, hb, e, k⟩ := h
  replace e : (cmpD op a b).map (fun b => Rv.fz (.bool b)) = some r := e
  cases g : cmpD op a b with
  | none => rw [g] at e; cases e
  | some t =>
    rw [g] at e
    cases e
    exact ⟨t, k _ _ .bool⟩
/-- a comparison's answer as a test -/
theorem cm_two {op : CmpOp} {F : Fr} {σ : L2.St} {e : Ev} {H : Hp} {Z : Addr → Prop} {o1 o2 : Op} {x y : V} {Q : Bool → Hp → Prop} (R : Rel K F e σ H Z) (h1 : OpRel K σ H Z x o1) (h2 : OpRel K σ H Z y o2)
    (p : Pst K W cv rB F σ e H Z (tstR (two o1 o2 e fun p q => (cmpD op p q).map fun b => .fz (.bool b))) Q) : rCm K (cmpD op) x y H fun v H' => ∃ b, v = .bl b ∧ Q b H' :=
  two_ok (W := W) (cv := cv) R h1 h2 (tstR_ok p)
theorem pt_cmpD {a b : Expr} {op : CmpOp} {pos : Pos} {f g : Ev → Rs Op} (ho : OpR X (compareOp op) (rCm K (cmpD op))) (ha : PE X a (tO K W cv f)) (hb : PE X b (tO K W cv g)) (hpl : isPl b = true) :
    PT X (.Compare a [op] [b] pos) (tT K W cv fun e => tstR ((f e).bind fun x e => (g e).bind fun y e => two x y e fun p q => (cmpD op p q).map fun b => .fz (.bool b))) := (pt_cmpR ho ha hb (plMark hpl _)).imp fun σ H Q ⟨F, e, Z, R, p⟩ => by
  have e1 : tstR ((f e).bind fun x e => (g e).bind fun y e => two x y e fun p q => (cmpD op p q).map fun b => .fz (.bool b)) = (f e).bind fun x e => (g e).bind fun y e => tstR (two x y e fun p q => (cmpD op p q).map fun b => .fz (.bool b)) := by
    unfold tstR
    rw [bindR]
    congr 1
    funext x e
    rw [bindR]
  replace p : Pst K W cv rB F σ e H Z ((f e).bind fun x e => (g e).bind fun y e => tstR (two x y e fun p q => (cmpD op p q).map fun b => .fz (.bool b))) Q := e1 ▸ p
  refine ⟨F, e, Z, R, (p.bind (R1 := rO K) (fun _ _ _ _ _ _ _ _ _ _ k _ q => q) R).mono fun x H1 ⟨o1, e1, Z1, R1, k1, q1, p1⟩ => ?_⟩
  refine ⟨F, e1, Z1, R1, (p1.bind (R1 := rO K) (fun _ _ _ _ _ _ _ _ _ _ k _ q => q) R1).mono fun y H2 ⟨o2, e2, Z2, R2, k2, q2, p2⟩ => ?_⟩
  exact cm_two R2 (q1.keep R1 k2) q2 p2
/-- a < b < c -/
theorem pe_chainD {a b c : Expr} {op op' : CmpOp} {pos : Pos} {f g h : Ev → Rs Op} (ho : OpR X (compareOp op) (rCm K (cmpD op))) (ho' : OpR X (compareOp op') (rCm K (cmpD op'))) (ha : PE X a (tO K W cv f)) (hb : PE X b (tO K W cv g)) (hc : PE X c (tO K W cv h)) (hpl : isPl b = true) (hpc : isPl c = true) :
    PE X (.Compare a [op, op'] [b, c] pos) (tE K W cv fun e => (f e).bind fun x e => (g e).bind fun y e => (tstR (two x y e fun p q => (cmpD op p q).map fun b => .fz (.bool b))).bind fun t e =>
      if t = true then (h e).bind fun z e => two y z e fun u v => (cmpD op' u v).map fun b => .fz (.bool b) else .ok (.fz (.bool false)) e) := by
  refine PE.imp (pe_chain ho ho' ha hb hc (by show behindInMarks op' c = false; exact plMark hpc _)) fun σ H Q ⟨F, e, Z, R, p⟩ => ?_
  refine ⟨F, e, Z, R, (Pst.bind (R1 := rO K) (R2 := rE K) (fun _ _ _ _ _ _ _ _ _ _ k _ q => trE k q) R p).mono fun x H1 ⟨o1, e1, Z1, R1, k1, q1, p1⟩ => ?_⟩
  refine ⟨F, e1, Z1, R1, (p1.bind (R1 := rO K) (fun _ _ _ _ _ _ _ _ _ _ k _ q => trE k q) R1).mono fun y H2 ⟨o2, e2, Z2, R2, k2, q2, p2⟩ => ?_⟩
  have p3 := cm_two (op := op) R2 (q1.keep R1 k2) q2 (Pst.bind (R1 := rB) (R2 := rE K) (fun _ _ _ _ _ _ _ _ _ _ k _ q => trE k q) R2 p2)
  obtain ⟨Z3, da, db, r, ca, cb, er, k3⟩ := p3
  refine ⟨Z3, da, db, r, ca, cb, er, fun v H' n => ?_⟩
  obtain ⟨b, ev, t, e3, Z4, R4, k4, q4, p4⟩ := k3 v H' n
  subst q4
  refine ⟨b, ev, ?_⟩
  cases b with
  | false =>
    exact p4 _ H' Z4 R4 .refl ⟨.bl false, fun _ _ e => by cases e⟩
  | true =>
    refine ⟨F, e3, Z4, R4, (Pst.bind (R1 := rO K) (R2 := rE K) (fun _ _ _ _ _ _ _ _ _ _ k _ q => trE k q) R4 p4).mono fun z H5 ⟨o3, e5, Z5, R5, k5, q5, p5⟩ => ?_⟩
    exact two_ok R5 ((q2.keep R2 k4).keep R4 k5) q5 p5
theorem pt_chainD {a b c : Expr} {op op' : CmpOp} {pos : Pos} {f g h : Ev → Rs Op} (ho : OpR X (compareOp op) (rCm K (cmpD op))) (ho' : OpR X (compareOp op') (rCm K (cmpD op'))) (ha : PE X a (tO K W cv f)) (hb : PE X b (tO K W cv g)) (hc : PE X c (tO K W cv h)) (hpl : isPl b = true) (hpc : isPl c = true) :
    PT X (.Compare a [op, op'] [b, c] pos) (tT K W cv fun e => tstR ((f e).bind fun x e => (g e).bind fun y e => (tstR (two x y e fun p q => (cmpD op p q).map fun b => .fz (.bool b))).bind fun t e =>
      if t = true then (h e).bind fun z e => two y z e fun u v => (cmpD op' u v).map fun b => .fz (.bool b) else .ok (.fz (.bool false)) e)) := by
  refine PT.imp (pt_chain ho ho' ha hb hc (by show behindInMarks op' c = false; exact plMark hpc _)) fun σ H Q ⟨F, e, Z, R, p⟩ => ?_
  have p0 := tstR_ok (p : Pst K W cv rB F σ e H Z (tstR _) Q)
  refine ⟨F, e, Z, R, (Pst.bind (R1 := rO K) (R2 := rE K) (fun _ _ _ _ _ _ _ _ _ _ k _ q => trE k q) R p0).mono fun x H1 ⟨o1, e1, Z1, R1, k1, q1, p1⟩ => ?_⟩
  refine ⟨F, e1, Z1, R1, (p1.bind (R1 := rO K) (fun _ _ _ _ _ _ _ _ _ _ k _ q => trE k q) R1).mono fun y H2 ⟨o2, e2, Z2, R2, k2, q2, p2⟩ => ?_⟩
  have p3 := cm_two (op := op) R2 (q1.keep R1 k2) q2 (Pst.bind (R1 := rB) (R2 := rE K) (fun _ _ _ _ _ _ _ _ _ _ k _ q => trE k q) R2 p2)
  obtain ⟨Z3, da, db, r, ca, cb, er, k3⟩ := p3
  refine ⟨Z3, da, db, r, ca, cb, er, fun v H' n => ?_⟩
  obtain ⟨b, ev, t, e3, Z4, R4, k4, q4, p4⟩ := k3 v H' n
  subst q4
  refine ⟨b, ev, ?_⟩
  cases b with
  | false =>
    exact p4 _ H' Z4 R4 .refl ⟨.bl false, fun _ _ e => by cases e⟩
  | true =>
    refine ⟨F, e3, Z4, R4, (Pst.bind (R1 := rO K) (R2 := rE K) (fun _ _ _ _ _ _ _ _ _ _ k _ q => trE k q) R4 p4).mono fun z H5 ⟨o3, e5, Z5, R5, k5, q5, p5⟩ => ?_⟩
    exact two_ok R5 ((q2.keep R2 k4).keep R4 k5) q5 p5
end
end Cr
set_option Elab.async false
set_option linter.all false
set_option maxRecDepth 100000
set_option maxHeartbeats 4000000
namespace Cr
open PySem PySem.Spec PyProof.Rows L2
/-! ### what a def of ours promises -/
/-- the arguments of a call -/
structure ArgR (K : PySem.W.Frag) (as : List Sl) (vs : List V) (H : Hp) (Z : Addr → Prop) (la : Nat → Option Addr) : Prop where
  len : as.length = vs.length
  val : ∀ (i : Nat) (d : D), as[i]? = some (Sl.val d) → ∃ v, vs[i]? = some v ∧ Dv K (hid Z H) v d
  mu : ∀ (i : Nat) (b : Bool) (d : D), as[i]? = some (Sl.mu b d) → b = true ∧ ∃ a, vs[i]? = some (V.ref a) ∧ la i = some a ∧ Z a ∧ Cell K (hid Z H) H a d
  no : ∀ (i : Nat) (s : Sl), as[i]? = some s → (∃ d, s = Sl.val d) ∨ ∃ b d, s = Sl.mu b d
  lam : ∀ (i : Nat) (a : Addr), la i = some a → ∃ b d, as[i]? = some (Sl.mu b d)
  inj : ∀ (i j : Nat) (a : Addr), la i = some a → la j = some a → i = j
  zs : ∀ a, Z a → H a ≠ none
/-- what a call leaves -/
structure Bk (K : PySem.W.Frag) (la : Nat → Option Addr) (o : List Sl) (H : Hp) (Z : Addr → Prop) (H' : Hp) (Z' : Addr → Prop) : Prop where
  fr : ∀ a u, H a = some u → (∀ i, la i ≠ some a) → H' a = some u
  kz : ∀ a, Z a → (∀ i, la i ≠ some a) → Z' a
  zn : ∀ a, Z' a → Z a ∨ H a = none
  zs : ∀ a, Z' a → H' a ≠ none
  th : ∀ a, H a ≠ none → H' a ≠ none
  out : ∀ (i : Nat) (a : Addr), la i = some a → (∃ b d, o[i]? = some (Sl.mu b d) ∧ Z' a ∧ Cell K (hid Z' H') H' a d) ∨ ∃ d, o[i]? = some (Sl.frz d) ∧ Dv K (hid Z' H') (V.ref a) d
def RvC (K : PySem.W.Frag) (H H' : Hp) (Z' : Addr → Prop) (v : V) : Rv → Prop
  | .fz d => Dv K (hid Z' H') v d
  | .fr d => ∃ a, v = V.ref a ∧ Z' a ∧ Cell K (hid Z' H') H' a d ∧ H a = none
def EndC (K : PySem.W.Frag) (cv : Nat → Value) (la : Nat → Option Addr) (H : Hp) (Z : Addr → Prop) (Q : VK) (E : XK) : Cr.CR → Prop
  | .ret r o => ∀ v H' Z', Bk K la o H Z H' Z' → RvC K H H' Z' v r → Q v H'
  | .exc x o => ∀ H' Z', Bk K la o H Z H' Z' → E (cv x) none H'
  | .er => False
def spC (K : PySem.W.Frag) (cv : Nat → Value) (cr : List Sl → Cr.CR) : Sp := fun vs H Q E => ∃ (as : List Sl) (Z : Addr → Prop) (la : Nat → Option Addr), ArgR K as vs H Z la ∧ EndC K cv la H Z Q E (cr as)
/-- a def keeps a promise, where no repr is under way -/
structure FnG (P : Program) (w : World) (K : PySem.W.Frag) (mg : Str → Option Value) (base : Heap) (k : Nat) (f : Addr) (fd : FuncData) (ps : List Str) (sp : Sp) : Prop where
  len : ∀ vs H Q E, sp vs H Q E → vs.length = ps.length
  run : ∀ (A : Around) (outer : List Env) (s : Shared) (H : Hp) (args : Args) (us : List Value) (vs : List V) (Q : VK) (E : XK), Room k A → A.guards = some [] → Env0 P w K mg base A outer s H → BindsTo s fd args (ps.zip us) → Vals vs us → sp vs H Q E →
    codeAny (model P w) A (.call (.ref f) args) (L2.CR (L2.CX P w) outer P w H s Q E) s
theorem FnG.mono {P : Program} {w : World} {K : PySem.W.Frag} {mg : Str → Option Value} {base : Heap} {j k : Nat} {f : Addr} {fd : FuncData} {ps : List Str} {sp : Sp} (F : FnG P w K mg base j f fd ps sp) (h : j ≤ k) : FnG P w K mg base k f fd ps sp :=
  ⟨F.len, fun A outer s H args us vs Q E hr => F.run A outer s H args us vs Q E (hr.mono h)⟩
section
variable {X : Cx} {K : PySem.W.Frag} {W : WX} {cv : Nat → Value}
theorem run_G {k : Nat} {f : Addr} {fd : FuncData} {ps : List Str} {sp : Sp} {pins : List (Addr × Obj)} {σ : L2.St} {H : Hp} {s : Shared} {Q : VK} {us : List Value} {vs : List V} {args : Args} {E : L2.St → XK} (F : FnG X.prog X.w X.K X.mg X.base k f fd ps sp) (hr : Room k X.A) (hgd : X.A.guards = some [])
    (hb : BindsTo s fd args (ps.zip us)) (hx : PassesAt (L2.CX X.prog X.w) X σ (E σ)) (I : Inv X pins σ H s) (r : Vals vs us) (h : sp vs H Q (E σ)) : wpAny (model X.prog X.w) X.A (call (.ref f) args.pos args.kw) (EP X pins σ Q) X.xe s := by
  refine wpAny_call (codeAny_mono (F.run X.A X.stack s H args us vs Q (E σ) hr hgd I.env0 hb r h) fun r s' hq => ?_)
  cases r with
  | error e => exact hx pins H s e s' I hq
  | ok fl =>
    cases fl with
    | ret u => exact I.after hq
    | next => exact False.elim hq
    | brk => exact False.elim hq
    | cont => exact False.elim hq
/-- f(..), no keywords -/
theorem pe_callG {k : Nat} {f : Addr} {fd : FuncData} {ps : List Str} {sp : Sp} {x : Str} {p pos : Pos} {e : Expr} {es : List Expr} {t : TA} {E : L2.St → XK} (F : FnG X.prog X.w X.K X.mg X.base k f fd ps sp) (hr : Room k X.A) (hgd : X.A.guards = some []) (hg : Gl X x) (hm : X.mg x = some (.ref f)) (hk : PySem.W.keepIn X.K (.ref f) = true)
    (hb : Binds X.K fd ps []) (hx : ∀ σ, PassesAt (L2.CX X.prog X.w) X σ (E σ)) (ha : PA X (e :: es) t) (hdb : (x == ("__debug__" : Str)) = false) (hpl : (e :: es).all isPl = true) : PE X (.Call (.Name x p) (e :: es) [] pos) (tCallS sp E t) := by
  refine ⟨fun pins s σ H Q I h => ?_⟩
  refine wpAny_Call_Name_kw (ld_glob I hg hm ?_ hdb)
  have hpl' : isPl e = true ∧ es.all isPl = true := by rw [List.all_cons, Bool.and_eq_true] at hpl; exact hpl
  refine PySem.W.callWith_K (h₀ := X.base) I.ok.mod.kin hk (thn (ha.run pos pins s σ H _ I h) fun us s1 ⟨vs, H1, I1, r, q⟩ => ⟨I1.kIn, ?_⟩) (star1 hpl'.1 _ _) (backTo_any _ _ (starAll _ _ hpl'.2))
  have hl : us.length = ps.length := by rw [← r.length]; exact F.len _ _ _ _ q
  have b := hb s1 us I1.kIn (by rw [List.append_nil]; exact hl)
  rw [List.append_nil] at b
  exact run_G (args := ⟨us, []⟩) F hr hgd b (hx σ) I1 r q
theorem pe_callG0 {k : Nat} {f : Addr} {fd : FuncData} {ps : List Str} {sp : Sp} {x : Str} {p pos : Pos} {E : L2.St → XK} (F : FnG X.prog X.w X.K X.mg X.base k f fd ps sp) (hr : Room k X.A) (hgd : X.A.guards = some []) (hg : Gl X x) (hm : X.mg x = some (.ref f)) (hk : PySem.W.keepIn X.K (.ref f) = true)
    (hb : Binds X.K fd ps []) (hx : ∀ σ, PassesAt (L2.CX X.prog X.w) X σ (E σ)) (hdb : (x == ("__debug__" : Str)) = false) : PE X (.Call (.Name x p) [] [] pos) (tCallS sp E tNil) := by
  refine ⟨fun pins s σ H Q I h => ?_⟩
  refine wpAny_Call_Name_kw (ld_glob I hg hm ?_ hdb)
  have hl : ([] : List Value).length = ps.length := F.len _ _ _ _ h
  have b := hb s [] I.kIn (by rw [List.append_nil]; exact hl)
  rw [List.append_nil] at b
  exact PySem.W.callWith_K0 I.kIn hk (run_G (args := ⟨[], []⟩) F hr hgd b (hx σ) I .nil h)
/-! ### the arguments of ours -/
def laOf (os : List Op) (e : Ev) (σ : L2.St) (i : Nat) : Option Addr :=
  match os[i]? with
  | some (.pl j) => (match e[j]? with
    | some (.mu _ _) => (match σ[j]? with | some (some (.ref a)) => some a | _ => none)
    | _ => none)
  | _ => none
theorem laOf_inv {os : List Op} {e : Ev} {σ : L2.St} {i : Nat} {a : Addr} (h : laOf os e σ i = some a) : ∃ (j : Nat) (b : Bool) (d : D), os[i]? = some (Op.pl j) ∧ e[j]? = some (Sl.mu b d) ∧ σ[j]? = some (some (V.ref a)) := by
  unfold laOf at h
  split at h
  · rename_i j hj
    split at h
    · rename_i b d hb
      split at h
      · rename_i a' ha
        cases h
        exact ⟨j, b, d, hj, hb, ha⟩
      · cases h
    · cases h
  · cases h
theorem laOf_of {os : List Op} {e : Ev} {σ : L2.St} {i j : Nat} {a : Addr} {b : Bool} {d : D} (h1 : os[i]? = some (Op.pl j)) (h2 : e[j]? = some (Sl.mu b d)) (h3 : σ[j]? = some (some (V.ref a))) : laOf os e σ i = some a := by
  unfold laOf
  simp only [h1, h2, h3]
theorem argsS_len {e : Ev} : ∀ {os : List Op} {ss : List Sl}, argsS os e = some ss → ss.length = os.length
  | [], ss, h => by cases h; rfl
  | o :: os, ss, h => by
    have h' : (match argS o e, argsS os e with | some s, some ss => some (s :: ss) | _, _ => none) = some ss := h
    cases h1 : argS o e with
    | none => rw [h1] at h'; cases h'
    | some s =>
      cases h2 : argsS os e with
      | none => rw [h1, h2] at h'; cases h'
      | some ts =>
        rw [h1, h2] at h'
        cases h'
        exact congrArg Nat.succ (argsS_len h2)
theorem argsS_get {e : Ev} : ∀ {os : List Op} {ss : List Sl} {i : Nat} {s : Sl}, argsS os e = some ss → ss[i]? = some s → ∃ o, os[i]? = some o ∧ argS o e = some s
  | [], ss, i, s, h, g => by cases h; simp at g
  | o :: os, ss, i, s, h, g => by
    have h' : (match argS o e, argsS os e with | some s, some ss => some (s :: ss) | _, _ => none) = some ss := h
    cases h1 : argS o e with
    | none => rw [h1] at h'; cases h'
    | some s1 =>
      cases h2 : argsS os e with
      | none => rw [h1, h2] at h'; cases h'
      | some ts =>
        rw [h1, h2] at h'
        cases h'
        cases i with
        | zero => simp at g; subst g; exact ⟨o, by simp, h1⟩
        | succ i =>
          obtain ⟨o', e1, e2⟩ := argsS_get (i := i) h2 (by simpa using g)
          exact ⟨o', by simpa using e1, e2⟩
theorem OpAll.len {σ : L2.St} {H : Hp} {Z : Addr → Prop} : ∀ {vs : List V} {os : List Op}, OpAll K σ H Z vs os → os.length = vs.length
  | _, _, .nil => rfl
  | _, _, .cons _ r => congrArg Nat.succ r.len
theorem OpAll.at {σ : L2.St} {H : Hp} {Z : Addr → Prop} : ∀ {vs : List V} {os : List Op} {i : Nat} {o : Op}, OpAll K σ H Z vs os → os[i]? = some o → ∃ v, vs[i]? = some v ∧ OpRel K σ H Z v o
  | _, _, _, _, .nil, h => by simp at h
  | _, _, 0, _, .cons a r, h => by simp at h; subst h; exact ⟨_, by simp, a⟩
  | _, _, i + 1, _, .cons a r, h => by
    obtain ⟨v, e1, e2⟩ := OpAll.at (i := i) r (by simpa using h)
    exact ⟨v, by simpa using e1, e2⟩
theorem lends_mem {e : Ev} : ∀ {os : List Op} {i j : Nat} {b : Bool} {d : D}, os[i]? = some (Op.pl j) → e[j]? = some (Sl.mu b d) → j ∈ lends os e
  | [], i, j, b, d, h, _ => by simp at h
  | o :: os, 0, j, b, d, h, g => by
    simp at h
    subst h
    simp [lends, g]
  | o :: os, i + 1, j, b, d, h, g => by
    have r := lends_mem (i := i) (by simpa using h) g
    cases o with
    | vl _ => exact r
    | pl k =>
      show j ∈ (match e[k]? with | some (.mu _ _) => k :: lends os e | _ => lends os e)
      split
      · exact List.mem_cons_of_mem _ r
      · exact r
theorem lends_inj {e : Ev} : ∀ {os : List Op} {i i' j : Nat} {b : Bool} {d : D}, (lends os e).Nodup → os[i]? = some (Op.pl j) → os[i']? = some (Op.pl j) → e[j]? = some (Sl.mu b d) → i = i'
  | [], i, i', j, b, d, _, h, _, _ => by simp at h
  | o :: os, i, i', j, b, d, hn, h, h', g => by
    have tl : (lends os e).Nodup := by
      cases o with
      | vl _ => exact hn
      | pl k =>
        have hn' : (match e[k]? with | some (.mu _ _) => k :: lends os e | _ => lends os e).Nodup := hn
        split at hn'
        · exact (List.nodup_cons.mp hn').2
        · exact hn'
    cases i with
    | zero =>
      simp at h
      subst h
      cases i' with
      | zero => rfl
      | succ i' =>
        exfalso
        have m := lends_mem (os := os) (i := i') (by simpa using h') g
        have hn' : (match e[j]? with | some (.mu _ _) => j :: lends os e | _ => lends os e).Nodup := hn
        rw [g] at hn'
        exact (List.nodup_cons.mp hn').1 m
    | succ i =>
      cases i' with
      | zero =>
        simp at h'
        subst h'
        exfalso
        have m := lends_mem (os := os) (i := i) (by simpa using h) g
        have hn' : (match e[j]? with | some (.mu _ _) => j :: lends os e | _ => lends os e).Nodup := hn
        rw [g] at hn'
        exact (List.nodup_cons.mp hn').1 m
      | succ i' => exact congrArg Nat.succ (lends_inj (i := i) (i' := i') tl (by simpa using h) (by simpa using h') g)
theorem args_ok {F : Fr} {e : Ev} {σ : L2.St} {H : Hp} {Z : Addr → Prop} {vs : List V} {os : List Op} {ss : List Sl} (R : Rel K F e σ H Z) (q : OpAll K σ H Z vs os) (h : argsS os e = some ss) (hn : (lends os e).Nodup) : ArgR K ss vs H Z (laOf os e σ) := by
  refine ⟨(argsS_len h).trans q.len, fun i d g => ?_, fun i b d g => ?_, fun i s g => ?_, fun i a g => ?_, fun i j a g1 g2 => ?_, R.zs⟩
  · obtain ⟨o, e1, e2⟩ := argsS_get h g
    obtain ⟨v, e3, e4⟩ := q.at e1
    refine ⟨v, e3, ?_⟩
    cases o with
    | vl d' => cases e2; exact e4
    | pl j =>
      have e2' : (match e[j]? with | some (.mu _ d) => some (.mu true d) | some (.val d) => some (.val d) | some (.frz d) => some (.val d) | _ => none) = some (Sl.val d) := e2
      have e4' : σ[j]? = some (some v) := e4
      cases w : e[j]? with
      | none => rw [w] at e2'; cases e2'
      | some s =>
        rw [w] at e2'
        have sr := R.sl j s w
        rw [e4'] at sr
        cases s with
        | un => cases e2'
        | mu _ _ => cases e2'
        | val d' => cases e2'; obtain ⟨v', e5, e6⟩ := sr; cases e5; exact e6
        | frz d' => cases e2'; obtain ⟨a, e5, _, e6⟩ := sr; cases e5; exact e6
  · obtain ⟨o, e1, e2⟩ := argsS_get h g
    obtain ⟨v, e3, e4⟩ := q.at e1
    cases o with
    | vl d' => cases e2
    | pl j =>
      have e2' : (match e[j]? with | some (.mu _ d) => some (.mu true d) | some (.val d) => some (.val d) | some (.frz d) => some (.val d) | _ => none) = some (Sl.mu b d) := e2
      have e4' : σ[j]? = some (some v) := e4
      cases w : e[j]? with
      | none => rw [w] at e2'; cases e2'
      | some s =>
        rw [w] at e2'
        have sr := R.sl j s w
        rw [e4'] at sr
        cases s with
        | un => cases e2'
        | mu b' d' =>
          cases e2'
          obtain ⟨a, e5, z, c, _⟩ := sr
          cases e5
          exact ⟨rfl, a, e3, laOf_of e1 w e4', z, c⟩
        | val d' => cases e2'
        | frz d' => cases e2'
  · obtain ⟨o, e1, e2⟩ := argsS_get h g
    cases o with
    | vl d' => cases e2; exact .inl ⟨_, rfl⟩
    | pl j =>
      have e2' : (match e[j]? with | some (.mu _ d) => some (.mu true d) | some (.val d) => some (.val d) | some (.frz d) => some (.val d) | _ => none) = some s := e2
      split at e2' <;> cases e2'
      · exact .inr ⟨_, _, rfl⟩
      · exact .inl ⟨_, rfl⟩
      · exact .inl ⟨_, rfl⟩
  · obtain ⟨j, b, d, e1, e2, e3⟩ := laOf_inv g
    have hl : i < ss.length := by rw [argsS_len h]; exact (List.getElem?_eq_some_iff.mp e1).1
    refine ⟨true, d, ?_⟩
    obtain ⟨o, e4, e5⟩ := argsS_get h (List.getElem?_eq_getElem hl)
    rw [e1] at e4
    cases e4
    have e5' : (match e[j]? with | some (.mu _ d) => some (.mu true d) | some (.val d) => some (.val d) | some (.frz d) => some (.val d) | _ => none) = some ss[i] := e5
    rw [e2] at e5'
    rw [List.getElem?_eq_getElem hl]
    exact e5'.symm
  · obtain ⟨j1, b1, d1, e1, e2, e3⟩ := laOf_inv g1
    obtain ⟨j2, b2, d2, f1, f2, f3⟩ := laOf_inv g2
    have w := R.ds j1 j2 b1 d1 b2 d2 a e2 f2 e3 f3
    subst w
    exact lends_inj hn e1 f1 e2
/-! ### behind a call -/
theorem backG_len {os : List Op} {o : List Sl} : ∀ (e : Ev) (j : Nat), (backG os o j e).length = e.length
  | [], _ => rfl
  | s :: r, j => congrArg Nat.succ (backG_len r (j + 1))
theorem backG_get {os : List Op} {o : List Sl} : ∀ (e : Ev) (j i : Nat), (backG os o j e)[i]? = (e[i]?).map (backS os o (j + i))
  | [], _, i => by simp [backG]
  | s :: r, j, 0 => by simp [backG]
  | s :: r, j, i + 1 => by
    have := backG_get (os := os) (o := o) r (j + 1) i
    rw [show j + 1 + i = j + (i + 1) by omega] at this
    simpa [backG] using this
theorem back_get {os : List Op} {o : List Sl} (e : Ev) (i : Nat) : (back os o e)[i]? = (e[i]?).map (backS os o i) := by
  have := backG_get (os := os) (o := o) e 0 i
  rw [Nat.zero_add] at this
  exact this
theorem lentAt_of : ∀ {os : List Op} {o : List Sl} {i j : Nat} {s : Sl}, os[i]? = some (Op.pl j) → o[i]? = some s → (∀ i', os[i']? = some (Op.pl j) → i = i') → lentAt os o j = some s
  | [], o, i, j, s, h, _, _ => by simp at h
  | _ :: _, [], i, j, s, _, g, _ => by simp at g
  | p :: os, t :: o, 0, j, s, h, g, _ => by
    simp at h g
    subst h g
    simp [lentAt]
  | p :: os, t :: o, i + 1, j, s, h, g, u => by
    have r := lentAt_of (os := os) (o := o) (i := i) (j := j) (s := s) (by simpa using h) (by simpa using g) fun i' w => by
      have := u (i' + 1) (by simpa using w)
      omega
    cases p with
    | vl _ => exact r
    | pl k =>
      show (if k = j then some t else lentAt os o j) = some s
      split
      · rename_i e
        subst e
        have := u 0 (by simp)
        omega
      · exact r
theorem lentAt_no : ∀ {os : List Op} {o : List Sl} {j : Nat} {s : Sl}, lentAt os o j = some s → ∃ i : Nat, os[i]? = some (Op.pl j) ∧ o[i]? = some s
  | [], o, j, s, h => by simp [lentAt] at h
  | .vl _ :: _, [], j, s, h => by simp [lentAt] at h
  | .pl _ :: _, [], j, s, h => by simp [lentAt] at h
  | .vl _ :: os, t :: o, j, s, h => by
    obtain ⟨i, e1, e2⟩ := lentAt_no (os := os) (o := o) (show lentAt os o j = some s from h)
    exact ⟨i + 1, by simpa using e1, by simpa using e2⟩
  | .pl k :: os, t :: o, j, s, h => by
    have h' : (if k = j then some t else lentAt os o j) = some s := h
    split at h'
    · rename_i e
      cases h'
      exact ⟨0, by simp [e], by simp⟩
    · obtain ⟨i, e1, e2⟩ := lentAt_no h'
      exact ⟨i + 1, by simpa using e1, by simpa using e2⟩
theorem backS_mu {os : List Op} {o : List Sl} {j : Nat} {s : Sl} {b : Bool} {d : D} (h : backS os o j s = Sl.mu b d) : ∃ d', s = Sl.mu b d' := by
  cases s with
  | mu b' d' =>
    unfold backS at h
    dsimp only at h
    split at h
    · cases h; exact ⟨_, rfl⟩
    · split at h <;> cases h
    · cases h; exact ⟨_, rfl⟩
  | _ => cases h
theorem back_ok {F : Fr} {e : Ev} {σ : L2.St} {H H' : Hp} {Z Z' : Addr → Prop} {os : List Op} {o : List Sl} (R : Rel K F e σ H Z) (hn : (lends os e).Nodup) (b : Bk K (laOf os e σ) o H Z H' Z') : Rel K F (back os o e) σ H' Z' ∧ Kp e σ H Z (back os o e) H' Z' := by
  have laM : ∀ {i a}, laOf os e σ i = some a → MutAt e σ a := fun {i a} g => by
    obtain ⟨j, b, d, e1, e2, e3⟩ := laOf_inv g
    exact ⟨j, b, d, e2, e3⟩
  have nof : ∀ a, ¬ MutAt e σ a → ∀ i, laOf os e σ i ≠ some a := fun a m i g => m (laM g)
  have sub : Sub (hid Z H) (hid Z' H') := fun a u q => by
    obtain ⟨z, q⟩ := hid_some.mp q
    refine hid_some.mpr ⟨fun w => ?_, b.fr a u q (nof a fun m => z (R.mutZ m))⟩
    rcases b.zn a w with h | h
    · exact z h
    · rw [q] at h; cases h
  have mm : ∀ {i : Nat} {b' : Bool} {d : D}, (back os o e)[i]? = some (Sl.mu b' d) → ∃ d', e[i]? = some (Sl.mu b' d') := fun {i b' d} h => by
    rw [back_get] at h
    cases w : e[i]? with
    | none => rw [w] at h; cases h
    | some s =>
      rw [w] at h
      obtain ⟨d', e1⟩ := backS_mu (Option.some.inj h)
      exact ⟨d', by rw [e1]⟩
  have mb : ∀ a, MutAt (back os o e) σ a → MutAt e σ a := fun a ⟨i, b', d, h1, h2⟩ => by
    obtain ⟨d', h3⟩ := mm h1
    exact ⟨i, b', d', h3, h2⟩
  -- lent from F: by a slot of the frame's own
  have lo : ∀ {i a}, laOf os e σ i = some a → (∃ j, F.la j = some a) ∨ F.H0 a = none := fun {i a} g => by
    obtain ⟨j, b, d, e1, e2, e3⟩ := laOf_inv g
    obtain ⟨a', e4, _, _, f1, f2⟩ := R.sl j _ e2
    rw [e3] at e4
    cases e4
    cases b with
    | true => exact .inl ⟨j, f1 rfl⟩
    | false => exact .inr (f2 rfl)
  refine ⟨⟨by unfold back; rw [backG_len]; exact R.len, fun i s h => ?_, fun i j b1 d1 b2 d2 a h1 h2 h3 h4 => ?_, b.zs, fun a h1 h2 => ?_, fun a h => ?_, fun a u h1 h2 => ?_, R.lz, fun a h => b.th a (R.th a h), R.z0⟩, ⟨fun a u q m => ⟨b.fr a u q (nof a m), ⟨fun w => ?_, fun w => b.kz a w (nof a m)⟩, fun w => m (mb a w)⟩, b.th⟩⟩
  · rw [back_get] at h
    cases w : e[i]? with
    | none => rw [w] at h; cases h
    | some t =>
      rw [w] at h
      have h' := Option.some.inj h
      subst h'
      have sr := R.sl i t w
      cases t with
      | un => trivial
      | val d => obtain ⟨v, e1, r⟩ := sr; exact ⟨v, e1, Dv.mono sub _ _ r⟩
      | frz d => obtain ⟨a, e1, e2, r⟩ := sr; exact ⟨a, e1, e2, Dv.mono sub _ _ r⟩
      | mu b' d =>
        obtain ⟨a, e1, z, c, f1, f2⟩ := sr
        by_cases lent : ∃ k, laOf os e σ k = some a
        · obtain ⟨k, lk⟩ := lent
          obtain ⟨j, b2, d2, g1, g2, g3⟩ := laOf_inv lk
          have ij := R.ds i j b' d b2 d2 a w g2 e1 g3
          subst ij
          have un : ∀ i', os[i']? = some (Op.pl i) → k = i' := fun i' w' => lends_inj hn g1 w' w
          rcases b.out k a lk with ⟨b3, d3, o1, z3, c3⟩ | ⟨d3, o1, c3⟩
          · have l := lentAt_of g1 o1 un
            unfold backS
            simp only [l]
            exact ⟨a, e1, z3, c3, f1, f2⟩
          · have l := lentAt_of g1 o1 un
            unfold backS
            simp only [l]
            cases b' with
            | true => exact ⟨a, e1, f1 rfl, c3⟩
            | false => exact ⟨_, e1, c3⟩
        · have nl : ∀ k, laOf os e σ k ≠ some a := fun k q => lent ⟨k, q⟩
          have ln : lentAt os o i = none := by
            cases l : lentAt os o i with
            | none => rfl
            | some s =>
              obtain ⟨k, q1, q2⟩ := lentAt_no l
              exact absurd (laOf_of q1 w e1) (nl k)
          unfold backS
          simp only [ln]
          obtain ⟨u, hu⟩ := c.some
          have ha := b.fr a u hu nl
          exact ⟨a, e1, b.kz a z nl, c.le sub (ha.trans hu.symm), f1, f2⟩
  · obtain ⟨d1', h1'⟩ := mm h1
    obtain ⟨d2', h2'⟩ := mm h2
    exact R.ds i j b1 d1' b2 d2' a h1' h2' h3 h4
  · refine b.kz a (R.kz a h1 h2) fun i g => ?_
    rcases lo g with ⟨j, q⟩ | q
    · exact h2 j q
    · exact R.z0 a h1 q
  · rcases b.zn a h with q | q
    · exact R.zn a q
    · right
      cases q2 : F.H0 a with
      | none => rfl
      | some u => exact absurd q (R.th a (by rw [q2]; simp))
  · refine b.fr a u (R.fr a u h1 h2) fun i g => ?_
    rcases lo g with ⟨j, q⟩ | q
    · exact h2 j q
    · rw [q] at h1; cases h1
  · rcases b.zn a w with h | h
    · exact h
    · rw [q] at h; cases h
/-- f(..) of ours -/
theorem call_red {f : Nat} {cf : Nat → List Sl → Cr.CR} {F : Fr} {e : Ev} {σ : L2.St} {H : Hp} {Z : Addr → Prop} {vs : List V} {os : List Op} {Q : VK} (R : Rel K F e σ H Z) (q : OpAll K σ H Z vs os) (p : Pst K W cv (rE K) F σ e H Z (callR cf f [] os e) Q) : spC K cv (cf f) vs H Q (WE W σ) := by
  unfold callR at p
  cases h : argsS os e with
  | none => rw [h] at p; exact p.elim
  | some ss =>
    rw [h] at p
    by_cases nd : (lends os e).Nodup
    · simp only [nd, if_true] at p
      refine ⟨ss, Z, laOf os e σ, args_ok R q h nd, ?_⟩
      cases g : cf f ss with
      | er => simp only [g] at p; exact p.elim
      | exc x o =>
        simp only [g] at p
        intro H' Z' b
        obtain ⟨R', k⟩ := back_ok R nd b
        exact p H' Z' R' (k.le R)
      | ret r o =>
        simp only [g] at p
        intro v H' Z' b rv
        obtain ⟨R', k⟩ := back_ok R nd b
        refine p v H' Z' R' k ?_
        cases r with
        | fz d => exact ⟨rv, fun d a e1 => by cases e1⟩
        | fr d =>
          obtain ⟨a, rfl, z, c, hnew⟩ := rv
          refine ⟨⟨a, rfl, z, c, fun m => ?_, ?_⟩, fun d' a' _ e2 => by cases e2; exact hnew⟩
          · obtain ⟨i, b1, d1, m1, m2⟩ := m
            rw [back_get] at m1
            cases w : e[i]? with
            | none => rw [w] at m1; cases m1
            | some s =>
              rw [w] at m1
              obtain ⟨d', e1⟩ := backS_mu (Option.some.inj m1)
              subst e1
              exact R.zs a (R.mutZ ⟨i, b1, d', w, m2⟩) hnew
          · cases q2 : F.H0 a with
            | none => rfl
            | some u => exact absurd hnew (R.th a (by rw [q2]; simp))
    · simp only [nd, if_false] at p
      exact p.elim
/-! ### arguments -/
theorem pe_arg {x : Expr} {i : Nat} (h : PE X x (tVar i)) : PE X x (tO K W cv fun e => match e[i]? with
    | some (.mu _ _) => .ok (.pl i) e
    | some (.val d) => .ok (.vl d) e
    | some (.frz d) => .ok (.vl d) e
    | _ => .er) := h.imp fun σ H Q ⟨F, e, Z, R, p⟩ => by
  replace p : Pst K W cv (rO K) F σ e H Z (match e[i]? with
    | some (.mu _ _) => .ok (.pl i) e
    | some (.val d) => .ok (.vl d) e
    | some (.frz d) => .ok (.vl d) e
    | _ => .er) Q := p
  cases w : e[i]? with
  | none => rw [w] at p; exact p.elim
  | some s =>
    rw [w] at p
    have sr := R.sl i s w
    cases s with
    | un => exact p.elim
    | val d => obtain ⟨v, e1, r⟩ := sr; exact ⟨v, e1, p v H Z R .refl r⟩
    | frz d => obtain ⟨a, e1, _, r⟩ := sr; exact ⟨_, e1, p _ H Z R .refl r⟩
    | mu b d => obtain ⟨a, e1, _⟩ := sr; exact ⟨_, e1, p _ H Z R .refl e1⟩
theorem pe_callD {k f : Nat} {cf : Nat → List Sl → Cr.CR} {fa : Addr} {fd : FuncData} {ps : List Str} {x : Str} {p pos : Pos} {e : Expr} {es : List Expr} {g : Ev → Rs (List Op)} (F : FnG X.prog X.w X.K X.mg X.base k fa fd ps (spC K cv (cf f))) (hr : Room k X.A) (hgd : X.A.guards = some []) (hg : Gl X x) (hm : X.mg x = some (.ref fa)) (hk : PySem.W.keepIn X.K (.ref fa) = true)
    (hb : Binds X.K fd ps []) (tk : Takes X W) (ha : PA X (e :: es) (tOs K W cv g)) (hdb : (x == ("__debug__" : Str)) = false) (hpl : (e :: es).all isPl = true) : PE X (.Call (.Name x p) (e :: es) [] pos) (tE K W cv fun e => (g e).bind fun os e => callR cf f [] os e) :=
  (pe_callG F hr hgd hg hm hk hb (E := WE W) (fun σ => passAt tk σ) ha hdb hpl).imp fun σ H Q ⟨F, e, Z, R, p⟩ => by
    refine ⟨F, e, Z, R, (Pst.bind (R1 := rOs K) (R2 := rE K) (fun _ _ _ _ _ _ _ _ _ _ k _ q => trE k q) R p).mono fun xs H1 ⟨os, e1, Z1, R1, k1, q1, p1⟩ => ?_⟩
    exact call_red R1 q1 p1
theorem pe_callD0 {k f : Nat} {cf : Nat → List Sl → Cr.CR} {fa : Addr} {fd : FuncData} {ps : List Str} {x : Str} {p pos : Pos} (F : FnG X.prog X.w X.K X.mg X.base k fa fd ps (spC K cv (cf f))) (hr : Room k X.A) (hgd : X.A.guards = some []) (hg : Gl X x) (hm : X.mg x = some (.ref fa)) (hk : PySem.W.keepIn X.K (.ref fa) = true)
    (hb : Binds X.K fd ps []) (tk : Takes X W) (hdb : (x == ("__debug__" : Str)) = false) : PE X (.Call (.Name x p) [] [] pos) (tE K W cv fun e => callR cf f [] [] e) :=
  (pe_callG0 F hr hgd hg hm hk hb (E := WE W) (fun σ => passAt tk σ) hdb).imp fun σ H Q ⟨F, e, Z, R, p⟩ => call_red R .nil p
end
end Cr
set_option Elab.async false
set_option linter.all false
set_option maxRecDepth 100000
set_option maxHeartbeats 4000000
namespace Cr
open PySem PySem.Spec PyProof.Rows L2
section
variable {X : Cx} {K : PySem.W.Frag} {W : WX} {cv : Nat → Value}
/-! ### a place is written -/
theorem hid_put {Z : Addr → Prop} {H : Hp} {a : Addr} {u : HO} (z : Z a) : hid Z (upd H a u) = hid Z H := by
  funext b
  unfold hid
  split
  · rfl
  · rename_i h
    exact upd_ne fun e => h (e ▸ z)
theorem Rel.put {F : Fr} {e : Ev} {σ : L2.St} {H : Hp} {Z : Addr → Prop} {i : Nat} {b : Bool} {d d' : D} {a : Addr} {u : HO} (R : Rel K F e σ H Z) (he : e[i]? = some (Sl.mu b d)) (hs : σ[i]? = some (some (V.ref a))) (c : Cell K (hid Z H) (upd H a u) a d') :
    Rel K F (e.set i (.mu b d')) σ (upd H a u) Z ∧ Kp e σ H Z (e.set i (.mu b d')) (upd H a u) Z := by
  have m : MutAt e σ a := ⟨i, b, d, he, hs⟩
  have z := R.mutZ m
  have hh : hid Z (upd H a u) = hid Z H := hid_put z
  have ml : ∀ {j : Nat} {b2 : Bool} {d2 : D}, (e.set i (.mu b d'))[j]? = some (Sl.mu b2 d2) → ∃ d3, e[j]? = some (Sl.mu b2 d3) := fun {j b2 d2} h => by
    rcases getElem?_set' h with ⟨q1, q2⟩ | ⟨_, q⟩
    · cases q2
      exact ⟨d, q1 ▸ he⟩
    · exact ⟨_, q⟩
  have sr := R.sl i _ he
  obtain ⟨a', e1, _, _, f1, f2⟩ := sr
  rw [hs] at e1
  cases e1
  have own : (∃ j, F.la j = some a) ∨ F.H0 a = none := by
    cases b with
    | true => exact .inl ⟨i, f1 rfl⟩
    | false => exact .inr (f2 rfl)
  have none_upd : ∀ x, H x ≠ none → upd H a u x ≠ none := fun x h => by
    by_cases q : x = a
    · subst q; rw [upd_same]; simp
    · rw [upd_ne q]; exact h
  refine ⟨⟨by rw [List.length_set]; exact R.len, fun j s h => ?_, fun j k b1 d1 b2 d2 x h1 h2 => ?_, fun x h => none_upd x (R.zs x h), R.kz, R.zn, fun x o h1 h2 => ?_, R.lz, fun x h => none_upd x (R.th x h), R.z0⟩, ⟨fun x o h1 h2 => ?_, none_upd⟩⟩
  · rcases getElem?_set' h with ⟨q1, q2⟩ | ⟨q1, q⟩
    · subst q1 q2
      exact ⟨a, hs, z, by rw [hh]; exact c, f1, f2⟩
    · refine (R.sl j s q).mono (by rw [hh]; exact Sub.refl) fun b2 d2 x e1 e2 => ?_
      subst e1
      have xa : x ≠ a := fun w => by
        subst w
        exact q1 (R.ds j i b2 d2 b d x q he e2 hs)
      exact ⟨R.mutZ ⟨j, b2, d2, q, e2⟩, upd_ne xa⟩
  · obtain ⟨d3, h3⟩ := ml h1
    obtain ⟨d4, h4⟩ := ml h2
    exact R.ds j k b1 d3 b2 d4 x h3 h4
  · have xa : x ≠ a := fun w => by
      subst w
      rcases own with ⟨j, q⟩ | q
      · exact h2 j q
      · rw [q] at h1; cases h1
    rw [upd_ne xa]
    exact R.fr x o h1 h2
  · have xa : x ≠ a := fun w => h2 (w ▸ m)
    refine ⟨by rw [upd_ne xa]; exact h1, Iff.rfl, fun ⟨j, b2, d2, w1, w2⟩ => ?_⟩
    obtain ⟨d3, h3⟩ := ml w1
    exact h2 ⟨j, b2, d3, h3, w2⟩
/-! ### the methods that change a list -/
def rMm (K : PySem.W.Frag) (m : Mm) : V → List V → Hp → VK → Prop := fun x vs H Q => ∃ (Z : Addr → Prop) (a : Addr) (xs : List V) (ds args ds' : List D) (r : D), x = V.ref a ∧ Z a ∧ H a = some (.lst xs) ∧ DvAll K (hid Z H) xs ds ∧ DvAll K (hid Z H) vs args ∧ mmD m (.list ds) args = some (.list ds', r) ∧
  ∀ v ys, DvAll K (hid Z H) ys ds' → Dv K (hid Z H) v r → Q v (upd H a (.lst ys))
def Mm.id : Mm → String
  | .append => "list.append" | .extend => "list.extend" | .pop => "list.pop" | .popAt => "list.pop" | .reverse => "list.reverse"
def Mm.nm : Mm → Str
  | .append => "append" | .extend => "extend" | .pop => "pop" | .popAt => "pop" | .reverse => "reverse"
theorem rd_its {pins : List (Addr × Obj)} {σ : L2.St} {H : Hp} {s : Shared} {b : Addr} {zs : List V} (I : Inv X pins σ H s) (h : Rd H b (.lst zs)) : zs.length ≤ sizeLine ∧ ∃ (its : List Value) (n : Nat), Vals zs its ∧ zs.length = its.length ∧ s.heap.get? b = some { cls := .type "list", data := .seq its.toArray n } := by
  obtain ⟨z, its, n, r, e⟩ := h.ok I.hok
  exact ⟨z, its, n, r, r.length, e⟩
theorem mt_extendR : MtM X "list.extend" (fun x vs H Q => ∃ l b xs zs, x = V.ref l ∧ vs = [.ref b] ∧ H l = some (.lst xs) ∧ Rd H b (.lst zs) ∧ xs.length + zs.length ≤ sizeLine ∧ Q .non (upd H l (.lst (xs ++ zs)))) := by
  intro pins s σ H x vs v us Q I rx rv h
  obtain ⟨l, b, xs, zs, rfl, rfl, hH, hB, hz, q⟩ := h
  cases rx
  obtain ⟨u, rfl, ru⟩ := rv.one
  cases ru
  obtain ⟨z, its, n, r, hl, e⟩ := I.lstM hH
  obtain ⟨z2, its2, n2, r2, hl2, e2⟩ := rd_its I hB
  have hsz : its.toArray.size + its2.toArray.size ≤ sizeLine := by rw [List.size_toArray, List.size_toArray]; omega
  have hlong : ¬ (!its.toArray.isEmpty && Builtin.List.listTooLong (its.toArray.size + its2.toArray.size)) = true := by
    rw [notLongL hsz, Bool.and_false]
    exact Bool.false_ne_true
  refine call_meets F.slot_list_extend ⟨_, e, rfl⟩ F.entry_list_extend (F.args_list_extend_2 _ _)
    (AutoSeq1.list_extend_list_list_0 l its.toArray n b its2.toArray n2 hlong (by rw [List.size_toArray]; omega) (by omega)) ⟨e, e2, ?_⟩
  refine ⟨.non, _, I.lset (its' := its ++ its2) hH e (by simp) (r.append r2) ?_, rfl, q⟩
  rw [List.length_append]
  omega
theorem DvAll.one {H : Hp} : ∀ {vs : List V} {d : D}, DvAll K H vs [d] → ∃ v, vs = [v] ∧ Dv K H v d
  | _, _, .cons a .nil => ⟨_, rfl, a⟩
theorem mt_D (m : Mm) : MtR X m.id (rMm X.K m) := by
  intro pins s σ H x vs v us Q I rx rv ⟨Z, a, xs, ds, args, ds', r, ex, z, hH, r1, r2, hm, k⟩
  subst ex
  have hl := r1.length
  cases m with
  | append =>
    cases args with
    | nil => cases hm
    | cons y rest =>
      cases rest with
      | cons _ _ => cases hm
      | nil =>
        have hm' : (if ds.length < sizeLine then some (PyData.list (ds ++ [y]), PyData.none) else none) = some (PyData.list ds', r) := hm
        split at hm'
        · rename_i hz
          cases hm'
          obtain ⟨w, rfl, rw'⟩ := r2.one
          exact mt_append pins s σ H _ _ v us Q I rx rv ⟨a, xs, w, rfl, rfl, hH, by omega, k _ _ (r1.append r2) .non⟩
        · cases hm'
  | extend =>
    cases args with
    | nil => cases hm
    | cons y rest =>
      cases rest with
      | cons _ _ => cases y <;> cases hm
      | nil =>
        cases y with
        | list ys =>
          have hm' : (if ds.length + ys.length ≤ sizeLine then some (PyData.list (ds ++ ys), PyData.none) else none) = some (PyData.list ds', r) := hm
          split at hm'
          · rename_i hz
            cases hm'
            obtain ⟨w, rfl, rw'⟩ := r2.one
            cases rw' with
            | lst s1 s2 =>
              rename_i b zs
              have hl2 := s2.length
              exact mt_extendR pins s σ H _ _ v us Q I rx rv ⟨a, b, xs, zs, rfl, rfl, hH, hid_sub.rd s1, by omega, k _ _ (r1.append s2) .non⟩
          · cases hm'
        | _ => cases hm
  | pop =>
    cases args with
    | cons _ _ => cases hm
    | nil =>
      have hm' : ((ds[ds.length - 1]?).map fun y => (PyData.list ds.dropLast, y)) = some (PyData.list ds', r) := hm
      cases g : ds[ds.length - 1]? with
      | none => rw [g] at hm'; cases hm'
      | some y =>
        rw [g] at hm'
        cases hm'
        cases r2
        obtain ⟨w, hw, dw⟩ := r1.at g
        exact mt_pop pins s σ H _ _ v us Q I rx rv ⟨a, xs, w, rfl, rfl, hH, by rw [hl]; exact hw, k _ _ r1.dropLast dw⟩
  | popAt =>
    cases args with
    | nil => cases hm
    | cons y rest =>
      cases rest with
      | cons _ _ => cases y <;> cases hm
      | nil =>
        cases y with
        | int i =>
          have hm' : (if -(2 ^ 63) ≤ i ∧ i < 2 ^ 63 then ((L2.ixN ds.length i).bind fun k => (ds[k]?).map fun y => (PyData.list (ds.eraseIdx k), y)) else none) = some (PyData.list ds', r) := hm
          split at hm'
          · rename_i hz
            cases g : L2.ixN ds.length i with
            | none => rw [g] at hm'; cases hm'
            | some j =>
              rw [g] at hm'
              have hm2 : ((ds[j]?).map fun y => (PyData.list (ds.eraseIdx j), y)) = some (PyData.list ds', r) := hm'
              cases g2 : ds[j]? with
              | none => rw [g2] at hm2; cases hm2
              | some y =>
                rw [g2] at hm2
                cases hm2
                obtain ⟨w, rfl, rw'⟩ := r2.one
                cases rw'
                obtain ⟨u, hu, du⟩ := r1.at g2
                obtain ⟨h1, _⟩ := ixN_seq (hl ▸ g)
                exact mt_popAt pins s σ H _ _ v us Q I rx rv ⟨a, xs, i, j, u, rfl, rfl, hH, hz.1, hz.2, h1, hu, k _ _ (r1.eraseIdx j) du⟩
          · cases hm'
        | _ => cases hm
  | reverse =>
    cases args with
    | cons _ _ => cases hm
    | nil =>
      cases hm
      cases r2
      exact mt_reverse pins s σ H _ _ v us Q I rx rv ⟨a, xs, rfl, rfl, hH, k _ _ r1.reverse .non⟩
/-- what a method call of a place asks for -/
theorem mm_red {m : Mm} {i : Nat} {F : Fr} {e : Ev} {σ : L2.St} {H : Hp} {Z : Addr → Prop} {x : V} {vs : List V} {ds : List D} {Q : VK} (R : Rel K F e σ H Z) (hx : σ[i]? = some (some x)) (q : DvAll K (hid Z H) vs ds) (p : Pst K W cv (rE K) F σ e H Z (mmAt m i ds e) Q) : rMm K m x vs H Q := by
  unfold mmAt at p
  cases g : e[i]? with
  | none => rw [g] at p; exact p.elim
  | some s =>
    rw [g] at p
    cases s with
    | mu b d =>
      obtain ⟨a, e1, z, c, _⟩ := R.sl i _ g
      rw [hx] at e1
      cases e1
      cases d with
      | list xs0 =>
        obtain ⟨xs, h1, h2⟩ := c
        cases g2 : mmD m (.list xs0) ds with
        | none => simp only [g2] at p; exact p.elim
        | some pr =>
          obtain ⟨d', r⟩ := pr
          simp only [g2] at p
          have dl : ∃ l, d' = .list l := by
            cases m
            · cases ds with
              | nil => cases g2
              | cons y rest =>
                cases rest with
                | cons _ _ => cases g2
                | nil =>
                  have g2' : (if xs0.length < sizeLine then some (PyData.list (xs0 ++ [y]), PyData.none) else none) = some (d', r) := g2
                  split at g2' <;> cases g2'
                  exact ⟨_, rfl⟩
            · cases ds with
              | nil => cases g2
              | cons y rest =>
                cases rest with
                | cons _ _ => cases y <;> cases g2
                | nil =>
                  cases y with
                  | list ys =>
                    have g2' : (if xs0.length + ys.length ≤ sizeLine then some (PyData.list (xs0 ++ ys), PyData.none) else none) = some (d', r) := g2
                    split at g2' <;> cases g2'
                    exact ⟨_, rfl⟩
                  | _ => cases g2
            · cases ds with
              | cons _ _ => cases g2
              | nil =>
                have g2' : ((xs0[xs0.length - 1]?).map fun y => (PyData.list xs0.dropLast, y)) = some (d', r) := g2
                cases w : xs0[xs0.length - 1]? with
                | none => rw [w] at g2'; cases g2'
                | some y => rw [w] at g2'; cases g2'; exact ⟨_, rfl⟩
            · cases ds with
              | nil => cases g2
              | cons y rest =>
                cases rest with
                | cons _ _ => cases y <;> cases g2
                | nil =>
                  cases y with
                  | int j =>
                    have g2' : (if -(2 ^ 63) ≤ j ∧ j < 2 ^ 63 then ((L2.ixN xs0.length j).bind fun k => (xs0[k]?).map fun y => (PyData.list (xs0.eraseIdx k), y)) else none) = some (d', r) := g2
                    split at g2'
                    · cases w : L2.ixN xs0.length j with
                      | none => rw [w] at g2'; cases g2'
                      | some k =>
                        rw [w] at g2'
                        have g3 : ((xs0[k]?).map fun y => (PyData.list (xs0.eraseIdx k), y)) = some (d', r) := g2'
                        cases w2 : xs0[k]? with
                        | none => rw [w2] at g3; cases g3
                        | some y => rw [w2] at g3; cases g3; exact ⟨_, rfl⟩
                    · cases g2'
                  | _ => cases g2
            · cases ds with
              | cons _ _ => cases g2
              | nil => cases g2; exact ⟨_, rfl⟩
          obtain ⟨l, rfl⟩ := dl
          refine ⟨Z, a, xs, xs0, ds, l, r, rfl, z, h1, h2, q, g2, fun v ys q1 q2 => ?_⟩
          obtain ⟨R', k⟩ := R.put (u := .lst ys) (d' := .list l) g hx ⟨ys, upd_same, q1⟩
          refine p v _ Z R' k ⟨?_, fun d a e1 => by cases e1⟩
          show Dv K (hid Z (upd H a (.lst ys))) v r
          rw [hid_put z]
          exact q2
      | _ => exact c.elim
    | _ => exact p.elim
def mmE (m : Mm) (i : Nat) (g : Ev → Rs (List D)) : Ev → Rs Rv := fun e => match e[i]? with
    | some (.mu _ (.list _)) => (g e).bind fun ds e => mmAt m i ds e
    | _ => .er
theorem mu_there {F : Fr} {e : Ev} {σ : L2.St} {H : Hp} {Z : Addr → Prop} {i : Nat} {b : Bool} {ds : List D} (R : Rel K F e σ H Z) (h : e[i]? = some (Sl.mu b (.list ds))) : ∃ a xs, σ[i]? = some (some (V.ref a)) ∧ Z a ∧ H a = some (.lst xs) ∧ DvAll K (hid Z H) xs ds := by
  obtain ⟨a, e1, z, c, _⟩ := R.sl i _ h
  obtain ⟨xs, h1, h2⟩ := c
  exact ⟨a, xs, e1, z, h1, h2⟩
theorem Mm.slot : ∀ m : Mm, Slot "list" m.nm m.id
  | .append => PySem.F.slot_list_append
  | .extend => PySem.F.slot_list_extend
  | .pop => PySem.F.slot_list_pop
  | .popAt => PySem.F.slot_list_pop
  | .reverse => PySem.F.slot_list_reverse
theorem Mm.ty : ∀ m : Mm, typeOf (.builtin m.id) = pure (.type "method_descriptor")
  | .append => by rfl
  | .extend => by rfl
  | .pop => by rfl
  | .popAt => by rfl
  | .reverse => by rfl
theorem pe_mmD {m : Mm} {i : Nat} {o a : Expr} {es : List Expr} {apos cpos : Pos} {g : Ev → Rs (List D)} (ho : PE X o (tVar i)) (ha : PA X (a :: es) (tDs X.K W cv g)) (hpl : (a :: es).all isPl = true)
    (hbase : attributeBase o m.nm X.env (eval o X.env) = eval o X.env) (hfew : ((backTo cpos (starEach (a :: es) X.env)).all (fun x => !x.1) && (backToKw cpos (keywordEach [] X.env)).all (fun x => x.1.isSome)
      && decide ((a :: es).length + ([] : List Keyword).length + (if ([] : List Keyword).isEmpty then 0 else 1) < 30)) = true) (hline : (apos.endLine == cpos.line) = true) : PE X (.Call (.Attribute o m.nm apos) (a :: es) [] cpos) (tE X.K W cv (mmE m i g)) := by
  have hpl' : isPl a = true ∧ es.all isPl = true := by rw [List.all_cons, Bool.and_eq_true] at hpl; exact hpl
  refine (pe_bm PySem.F.plainAttrs_list m.slot m.ty (mt_D m) ho ha hbase hfew hline (star1 hpl'.1 _ _) (backTo_any _ _ (starAll _ _ hpl'.2))).imp fun σ H Q ⟨F, e, Z, R, p⟩ => ?_
  unfold mmE at p
  split at p
  · rename_i b ds h
    obtain ⟨a, xs, e1, z, h1, h2⟩ := mu_there R h
    refine ⟨_, e1, .inl ⟨rfl, xs, .inl (.inl h1)⟩, F, e, Z, R, (Pst.bind (R1 := rDs X.K) (R2 := rE X.K) (fun _ _ _ _ _ _ _ _ _ _ k _ q => trE k q) R p).mono fun xs H1 ⟨os, e1', Z1, R1, k1, q1, p1⟩ => ?_⟩
    exact mm_red R1 e1 q1 p1
  · exact p.elim
theorem pe_mmD0 {m : Mm} {i : Nat} {o : Expr} {apos cpos : Pos} (ho : PE X o (tVar i))
    (hbase : attributeBase o m.nm X.env (eval o X.env) = eval o X.env) (hline : (apos.endLine == cpos.line) = true) : PE X (.Call (.Attribute o m.nm apos) [] [] cpos) (tE X.K W cv (mmE m i fun e => .ok [] e)) := by
  refine (pe_bm0 PySem.F.plainAttrs_list m.slot m.ty (mt_D m) ho hbase hline).imp fun σ H Q ⟨F, e, Z, R, p⟩ => ?_
  unfold mmE at p
  split at p
  · rename_i b ds h
    obtain ⟨a, xs, e1, z, h1, h2⟩ := mu_there R h
    exact ⟨_, e1, .inl ⟨rfl, xs, .inl (.inl h1)⟩, mm_red R e1 .nil p⟩
  · exact p.elim
/-! ### slices -/
abbrev tIo (K : PySem.W.Frag) (W : WX) (cv : Nat → Value) (f : Ev → Rs (Option Int)) : TO := tR K W cv rIo f
theorem po_D0 : PO X none (tIo K W cv fun e => .ok none e) := po_none.imp fun σ H Q ⟨F, e, Z, R, p⟩ => p _ H Z R .refl rfl
theorem po_D1 {a : Expr} {f : Ev → Rs Op} (ha : PE X a (tO K W cv f)) : PO X (some a) (tIo K W cv fun e => (f e).bind fun x e => match x.get e with | some (.int i) => .ok (some i) e | _ => .er) := (po_some ha).imp fun σ H Q ⟨F, e, Z, R, p⟩ => by
  refine ⟨F, e, Z, R, (Pst.bind (R1 := rO K) (R2 := rIo) (fun _ _ _ _ _ _ _ _ _ _ k _ q => q) R p).mono fun x H1 ⟨o, e1, Z1, R1, k1, q1, p1⟩ => ?_⟩
  cases g : o.get e1 with
  | none => rw [g] at p1; exact p1.elim
  | some d =>
    rw [g] at p1
    cases d with
    | int i =>
      have c := (q1.get R1 g).full
      cases c
      exact ⟨i, rfl, p1 _ H1 Z1 R1 .refl rfl⟩
    | _ => exact p1.elim
theorem pe_slcD {a : Expr} {lo hi : Option Expr} {p2 pos : Pos} {f : Ev → Rs Op} {g h : Ev → Rs (Option Int)} (ha : PE X a (tO X.K W cv f)) (hl : PO X lo (tIo X.K W cv g)) (hh : PO X hi (tIo X.K W cv h)) : PE X (.Subscript a (.Slice lo hi none p2) pos) (tE X.K W cv fun e => (f e).bind fun x e => (g e).bind fun l e => (h e).bind fun h e => one x e fun d => slcD d l h) :=
  (pe_slice sl_D ha hl hh).imp fun σ H Q ⟨F, e, Z, R, p⟩ => by
    refine ⟨F, e, Z, R, (Pst.bind (R1 := rO X.K) (R2 := rE X.K) (fun _ _ _ _ _ _ _ _ _ _ k _ q => trE k q) R p).mono fun x H1 ⟨o, e1, Z1, R1, k1, q1, p1⟩ => ?_⟩
    refine ⟨F, e1, Z1, R1, (Pst.bind (R1 := rIo) (R2 := rE X.K) (fun _ _ _ _ _ _ _ _ _ _ k _ q => trE k q) R1 p1).mono fun l H2 ⟨l', e2, Z2, R2, k2, q2, p2⟩ => ?_⟩
    refine ⟨F, e2, Z2, R2, (Pst.bind (R1 := rIo) (R2 := rE X.K) (fun _ _ _ _ _ _ _ _ _ _ k _ q => trE k q) R2 p2).mono fun u H3 ⟨u', e3, Z3, R3, k3, q3, p3⟩ => ?_⟩
    subst q2 q3
    obtain ⟨Z4, d, r, c, er, kq⟩ := one_ok R3 ((q1.keep R1 k2).keep R2 k3) p3
    exact ⟨Z4, d, r, c, er, kq⟩
end
end Cr
set_option Elab.async false
set_option linter.all false
set_option maxRecDepth 100000
set_option maxHeartbeats 4000000
namespace Cr
open PySem PySem.Spec PyProof.Rows L2
/-! ### lists and tuples alike -/
inductive Sk where
  | l | t
def Sk.at (K : PySem.W.Frag) (H : Hp) : Sk → Addr → List V → Prop
  | .l, a, xs => SqL K H a xs
  | .t, a, xs => SqT K H a xs
def Sk.isq (h : Heap) : Sk → Addr → Array Value → Prop
  | .l, a, its => h.IsList a its
  | .t, a, its => h.IsTuple a its
def Sk.iter (h : Heap) : Sk → Addr → Addr → Nat → Prop
  | .l, it, a, i => h.IsListIter it a i
  | .t, it, a, i => h.IsTupleIter it a i
theorem Sk.iter_at {h h' : Heap} {k : Sk} {it a : Addr} {i : Nat} (st : k.iter h it a i) (kk : ∀ o, h.get? it = some o → h'.get? it = some o) : k.iter h' it a i := by
  cases k with
  | l => exact Heap.IsListIter.at (show h.IsListIter it a i from st) kk
  | t => exact Heap.IsTupleIter.at (show h.IsTupleIter it a i from st) kk
theorem Sk.iter_obj {h : Heap} {k : Sk} {it a : Addr} {i : Nat} (st : k.iter h it a i) : ∃ o, h.get? it = some o ∧ ∀ v, o.data ≠ .cell v := by
  cases k with
  | l => obtain ⟨o, e, c, d⟩ := st; exact ⟨o, e, fun v z => by rw [d] at z; cases z⟩
  | t => obtain ⟨o, e, c, d⟩ := st; exact ⟨o, e, fun v z => by rw [d] at z; cases z⟩
theorem Sk.isq_lt {h : Heap} {k : Sk} {a : Addr} {its : Array Value} (st : k.isq h a its) : a < h.objs.size := by
  cases k with
  | l => obtain ⟨o, e, _⟩ := st; exact Heap.lt_size e
  | t => obtain ⟨o, e, _⟩ := st; exact Heap.lt_size e
theorem Sk.iter_lt {h : Heap} {k : Sk} {it a : Addr} {i : Nat} (st : k.iter h it a i) : it < h.objs.size := by
  obtain ⟨o, e, _⟩ := Sk.iter_obj st
  exact Heap.lt_size e
theorem Sk.at_mono {K : PySem.W.Frag} {H H' : Hp} (h : Sub H H') {k : Sk} {a : Addr} {xs : List V} (r : k.at K H a xs) : k.at K H' a xs := by
  cases k with
  | l => exact h.sqL (show SqL K H a xs from r)
  | t => exact h.sqT (show SqT K H a xs from r)
section
variable {X : Cx} {pins : List (Addr × Obj)} {σ : L2.St} {H : Hp} {s : Shared} {a : Addr} {xs ys : List V}
theorem Sk.seq {k : Sk} (I : Inv X pins σ H s) (h : k.at X.K H a xs) : ∃ its : List Value, Vals xs its ∧ k.isq s.heap a its.toArray ∧ xs.length ≤ sizeLine := by
  cases k with
  | l =>
    obtain ⟨its, r, p, z⟩ := I.list (show SqL X.K H a xs from h)
    exact ⟨its, r, p.isList, z⟩
  | t =>
    obtain ⟨its, r, p, z⟩ := I.tuple (show SqT X.K H a xs from h)
    exact ⟨its, r, p, z⟩
theorem Sk.inj {k : Sk} (I : Inv X pins σ H s) (h : k.at X.K H a xs) (h' : k.at X.K H a ys) : xs = ys := by
  cases k with
  | l => exact I.list_inj (show SqL X.K H a xs from h) h'
  | t => exact I.tuple_inj (show SqT X.K H a xs from h) h'
end
theorem Sk.draws {prog : Program} {w : World} {A : Around} (hh : A.handled = none) (k : Sk) (it a : Addr) (hne : a ≠ it) (items : Array Value) :
    Draws prog w A it [it, a] items.size (fun i v => items[i]? = some v) (fun i h => k.iter h it a i ∧ k.isq h a items) := by
  cases k with
  | l => exact Draws.list hh it a hne items
  | t => exact Draws.tuple hh it a hne items
def Sk.obj (k : Sk) (a : Addr) : Obj :=
  match k with
  | .l => { cls := .type "list_iterator", data := .fields #[.ref a, .int 0 0] }
  | .t => { cls := .type "tuple_iterator", data := .fields #[.ref a, .int 0 0] }
theorem Sk.begins (k : Sk) (a : Addr) (items : Array Value) : Begins (.ref a) (k.obj a) fun h => k.isq h a items := by
  cases k with
  | l => exact begins_list a items
  | t => exact begins_tuple a items
theorem Sk.iter0 {k : Sk} {h : Heap} {it a : Addr} (e : h.get? it = some (k.obj a)) : k.iter h it a 0 := by
  cases k with
  | l => exact ⟨_, e, rfl, rfl⟩
  | t => exact ⟨_, e, rfl, rfl⟩
/-! ### enumerate(v) -/
set_option maxHeartbeats 1000000 in
theorem meets_enumB1 {v : Value} {o : Obj} {H : Heap → Prop} (B : Begins v o H) :
    Meets (Builtin.«enumerate.__new__» ⟨[.type "enumerate", v], []⟩) (fun _ R s => H s.heap ∧
      R (.ok (.ret (.ref (s.heap.push o).objs.size))) { s with heap := (s.heap.push o).push { cls := .type "enumerate", data := .fields #[.none, .bool false, .ref s.heap.objs.size, rawInt 0, .none, .none] } }) :=
  .of_wp fun prog w A R s h => by
    obtain ⟨hp, g, d, tk, os⟩ := s; obtain ⟨h1, h⟩ := h
    have hsub := sub_enumerate
    have q1 : ∀ {A' : Around} {E : Value → Shared → Prop} {Q : Value → Shared → Prop}, Q (.ref hp.objs.size) ⟨hp.push o, g, d, tk, os⟩ → wpAny (model prog w) A' (pyIter v) Q E ⟨hp, g, d, tk, os⟩ :=
      fun q => B.iter prog w _ _ ⟨hp, g, d, tk, os⟩ _ h1 q
    wp_walk using q1
    refine wpAny_stack_any fun st => wpAny_pure ?_
    split
    · rename_i c _ _ _ _ _
      cases (c == Value.type "enumerate")
      · wp_walk using q1
        exact ⟨_, rfl, h⟩
      · wp_walk using q1
        exact ⟨_, rfl, h⟩
    · wp_walk using q1
      exact ⟨_, rfl, h⟩
theorem call_enumB1 {prog : Program} {w : World} {A : Around} {E : Value → Shared → Prop} {s : Shared} {v : Value} {o : Obj} {H : Heap → Prop} {Q : Value → Shared → Prop} (B : Begins v o H) (h1 : H s.heap)
    (h : ∀ h', IsEnum h' (s.heap.objs.size + 1) s.heap.objs.size 0 .none → h'.get? s.heap.objs.size = some o → h'.objs.size = s.heap.objs.size + 2 →
      (∀ b o, s.heap.get? b = some o → h'.get? b = some o) → Q (.ref (s.heap.objs.size + 1)) { s with heap := h' }) :
    wpAny (model prog w) A (call (.type "enumerate") [v]) Q E s := by
  refine callType_new F.called_enumerate (by decide) (F.typeCall_enumerate_1 _) (F.newCall_enumerate_1 _) (fun obj => F.args_object_init_2 obj _) F.entry_enumerate_new
    (meets_enumB1 B) ⟨h1, ?_⟩
  have hz : (s.heap.push o).objs.size = s.heap.objs.size + 1 := Heap.size_push ..
  show _ ∧ _
  rw [hz]
  have he : IsEnum ((s.heap.push o).push { cls := .type "enumerate", data := .fields #[.none, .bool false, .ref s.heap.objs.size, rawInt 0, .none, .none] }) (s.heap.objs.size + 1) s.heap.objs.size 0 .none := by
    have := Heap.get?_push_size (s.heap.push o) (o := { cls := .type "enumerate", data := .fields #[.none, .bool false, .ref s.heap.objs.size, rawInt 0, .none, .none] }) rfl
    rw [hz] at this; exact this
  refine ⟨⟨_, he, rfl⟩, h _ he (Heap.get?_push_of_some _ (Heap.get?_push_size _ B.free)) (by rw [Heap.size_push, hz]) fun b o x => Heap.get?_push_of_some _ (Heap.get?_push_of_some _ x)⟩
/-- the sequence at a as it stands, each item in a new pair with its number -/
def ItE (K : PySem.W.Frag) (k : Sk) (a : Addr) : L2.It :=
  ⟨fun i H => ∃ (xs : List V) (x : V), k.at K H a xs ∧ xs[i]? = some x, fun i H v H' => ∃ T x, v = .ref T ∧ H T = none ∧ H' = upd H T (.tup [.int (i : Nat), x]) ∧ ∀ xs, k.at K H a xs → xs[i]? = some x, fun i H => ∃ xs : List V, k.at K H a xs ∧ xs.length = i⟩
theorem turn_enumK {P : Program} {w : World} {K : PySem.W.Frag} {elts : List Expr} {kk : Nat} {tpos : Pos} (k : Sk) (a e it : Addr) (hae : a ≠ e) (hai : a ≠ it) (hei : e ≠ it) :
    Turn P w K (.Tuple elts kk tpos) (ItE K k a) [e, it] e (fun i h => (∃ old, IsEnum h e it ((i : Nat) : Int) old) ∧ k.iter h it a i) where
  mem := by simp
  obj := fun i h st b hb => by
    obtain ⟨⟨old, he⟩, hi⟩ := st
    have e' : b = e ∨ b = it := by simpa using hb
    rcases e' with z | z
    · rw [z]; exact ⟨_, he, fun v q => nomatch q⟩
    · rw [z]; exact Sk.iter_obj hi
  keep := fun i h h' st kp => let ⟨⟨old, he⟩, hi⟩ := st; ⟨⟨old, kp e (by simp) _ he⟩, Sk.iter_at hi fun o q => kp it (by simp) o q⟩
  item := by
    intro X hP hw hK hc i pins s σ H E I hf st hg
    subst hP hw hK
    obtain ⟨⟨old, he⟩, hit⟩ := st
    obtain ⟨xs, x, hq, hx⟩ := hg
    obtain ⟨its, rv, p, hz⟩ := Sk.seq I hq
    have hlt : i < its.toArray.size := by
      have h1 := rv.length
      have h2 := (List.getElem?_eq_some_iff.mp hx).1
      simp only [List.size_toArray]
      omega
    have hel : e < s.heap.objs.size := Heap.lt_size he
    have hil : it < s.heap.objs.size := Sk.iter_lt hit
    have hh : X.A.in1.handled = none := I.ok.hd hc
    refine wpAny_pyNext_enum_itemD (Sk.draws hh k it a hai its.toArray) he ⟨hit, p⟩ hlt hei (by simp [hei, Ne.symm hae]) fun u h' tk hu ho hst' hT hsz hk => ?_
    obtain ⟨hit', p'⟩ := hst'
    have ru : RelV x u := by
      obtain ⟨u', h1, h2⟩ := rv.get hx
      have h3 : its[i]? = some u := by simpa using hu
      rw [h1] at h3
      cases h3
      exact h2
    refine ⟨_, rfl, wpAny_letOwnedTupleGo_enum (s := { s with heap := h', toks := tk + 1 }) ho fun h'' he' sb => ?_⟩
    have hT2 : h''.get? s.heap.objs.size = some { cls := .type "tuple", data := .seq #[.int i tk, u] } := (sb.2 _ (Nat.ne_of_gt hel)).trans hT
    have new : ObjOk X.prog X.w (upd H s.heap.objs.size (.tup [.int (i : Nat), x])) h'' s.heap.objs.size (.tup [.int (i : Nat), x]) :=
      ⟨by show 2 ≤ sizeLine; decide, [.int i tk, u], .cons ⟨_, rfl⟩ (.cons ru .nil), ⟨_, hT2, rfl, _, rfl⟩⟩
    have I1 : Inv X pins σ (upd H s.heap.objs.size (.tup [.int (i : Nat), x])) { s with heap := h'', toks := tk + 1 } :=
      I.turnedNew (ch := [e, it]) (fun b ob hb q => (sb.2 b (fun z => hb (by simp [z]))).trans (hk b ob (fun z => hb (by simp [z])) (fun z => hb (by simp [z])) q)) hf (Nat.le_refl _) new
    refine ⟨.ref s.heap.objs.size, _, I1, rfl, ⟨_, x, rfl, I.hok.fresh (Nat.le_refl _), rfl, fun ys hy => by rw [Sk.inj I hy hq]; exact hx⟩, ⟨⟨u, ?_⟩, Sk.iter_at hit' fun o q => (sb.2 it (Ne.symm hei)).trans q⟩, fun b hb => ?_⟩
    · have e1 : ((i + 1 : Nat) : Int) = (i : Int) + 1 := by omega
      rw [e1]; exact he'
    · have hb' : b < s.heap.objs.size := by
        have e' : b = e ∨ b = it := by simpa using hb
        rcases e' with z | z
        · rw [z]; exact hel
        · rw [z]; exact hil
      rw [upd_ne (Nat.ne_of_lt hb')]
      exact (hf b hb).1
  done := by
    intro X hP hw hK hc i pins s σ H E I hf st hg
    subst hP hw hK
    obtain ⟨⟨old, he⟩, hit⟩ := st
    obtain ⟨xs, hq, hx⟩ := hg
    obtain ⟨its, rv, p, hz⟩ := Sk.seq I hq
    obtain ⟨f0, f1, f2, f3, f4, f5⟩ := hf it (by simp)
    have hl := rv.length
    have hh : X.A.in1.handled = none := I.ok.hd hc
    have hi : i = its.toArray.size := by simp only [List.size_toArray]; omega
    subst hi
    exact wpAny_pyNext_enum_endD (Sk.draws hh k it a hai its.toArray) he ⟨hit, p⟩ fun h' eb => ⟨rfl, I.turned (t' := s.toks) (fun b o hb q => eb b o hb q) f0 f1 f3 f4 f5⟩
  self := fun A i s Q E st h => let ⟨⟨_, he⟩, _⟩ := st; wpAny_pyIter_enum he h
section
variable {X : Cx}
def iEnumK (K : PySem.W.Frag) (ta : TA) : TI := fun σ H R => ta σ H fun vs H1 => ∃ k a xs, vs = [.ref a] ∧ Sk.at K H1 k a xs ∧ R (ItE K k a) H1
theorem pi_enumK {e : Expr} {ta : TA} {p pos tpos : Pos} {elts : List Expr} {kk : Nat} (hg : Gl X "enumerate") (hm : X.mg "enumerate" = none) (ha : PA X [e] ta) (hs : starEach [e] X.env = [(false, eval e X.env)]) :
    PI X (.Tuple elts kk tpos) (.Call (.Name "enumerate" p) [e] [] pos) (iEnumK X.K ta) := by
  refine ⟨fun pins s σ H R I h => ?_⟩
  refine Call_ (ld_blt I hg hm boot_enumerate (PyProof.Rows.callWith_type1 (thn (ha.run pos pins s σ H _ I h) fun us s1 ⟨vs, H1, I1, r1, q1⟩ => ?_) hs rfl))
  obtain ⟨k, a, xs, ex, hq, q⟩ := q1
  subst ex
  cases r1 with
  | cons r rr =>
    cases rr
    cases r
    obtain ⟨its, rv, p', hz⟩ := Sk.seq I1 hq
    have al := Sk.isq_lt p'
    refine call_enumB1 (k.begins a its.toArray) p' fun h' he hit hsz hk => wpAny_pyIter_enum he ?_
    have I2 : Inv X pins σ H1 { s1 with heap := h' } := I1.kept (t' := s1.toks) hk
    refine ⟨s1.heap.objs.size + 1, [s1.heap.objs.size + 1, s1.heap.objs.size], _, _, H1, rfl, I2, turn_enumK k a (s1.heap.objs.size + 1) s1.heap.objs.size (Nat.ne_of_lt (Nat.lt_succ_of_lt al)) (Nat.ne_of_lt al) (Nat.succ_ne_self _), ⟨⟨.none, he⟩, Sk.iter0 hit⟩, fun b hb => ?_, q⟩
    have e' : b = s1.heap.objs.size + 1 ∨ b = s1.heap.objs.size := by simpa using hb
    have hle : s1.heap.objs.size ≤ b := by
      rcases e' with z | z
      · rw [z]; exact Nat.le_add_right _ _
      · rw [z]; exact Nat.le_refl _
    exact I1.fpOk hle (I1.hok.fresh hle)
end
/-! ### zip(v, w) -/
def ItZ (K : PySem.W.Frag) (k1 k2 : Sk) (a b : Addr) : L2.It :=
  ⟨fun i H => ∃ (xs ys : List V) (x y : V), k1.at K H a xs ∧ k2.at K H b ys ∧ xs[i]? = some x ∧ ys[i]? = some y,
    fun i H v H' => ∃ T x y, v = .ref T ∧ H T = none ∧ H' = upd H T (.tup [x, y]) ∧ (∀ xs, k1.at K H a xs → xs[i]? = some x) ∧ ∀ ys, k2.at K H b ys → ys[i]? = some y,
    fun i H => ∃ xs ys : List V, k1.at K H a xs ∧ k2.at K H b ys ∧ i ≤ xs.length ∧ i ≤ ys.length ∧ (i = xs.length ∨ i = ys.length)⟩
theorem turn_zipK {P : Program} {w : World} {K : PySem.W.Frag} {elts : List Expr} {kk : Nat} {tpos : Pos} {a b z TI TO i1 i2 : Addr} (k1 k2 : Sk) (D : ZipSep2 z TI TO i1 i2 [i1, a] [i2, b]) (h1a : a ≠ i1) (h2b : b ≠ i2) :
    Turn P w K (.Tuple elts kk tpos) (ItZ K k1 k2 a b) [z, TI, TO, i1, i2] z (fun i h => IsZip h z TI TO .none ∧ IsTupOf2 h TI (.ref i1) (.ref i2) ∧ (∃ x y, IsTupOf2 h TO x y) ∧ k1.iter h i1 a i ∧ k2.iter h i2 b i) where
  mem := by simp
  obj := fun i h st c hc => by
    obtain ⟨hz, hTI, ⟨x, y, hTO⟩, h1, h2⟩ := st
    have e' : c = z ∨ c = TI ∨ c = TO ∨ c = i1 ∨ c = i2 := by simpa using hc
    rcases e' with q | q | q | q | q
    · rw [q]; exact ⟨_, hz, fun v q => nomatch q⟩
    · rw [q]; exact ⟨_, hTI, fun v q => nomatch q⟩
    · rw [q]; exact ⟨_, hTO, fun v q => nomatch q⟩
    · rw [q]; exact Sk.iter_obj h1
    · rw [q]; exact Sk.iter_obj h2
  keep := fun i h h' st k => by
    obtain ⟨hz, hTI, ⟨x, y, hTO⟩, h1, h2⟩ := st
    exact ⟨k z (by simp) _ hz, k TI (by simp) _ hTI, ⟨x, y, k TO (by simp) _ hTO⟩, Sk.iter_at h1 fun o q => k i1 (by simp) o q, Sk.iter_at h2 fun o q => k i2 (by simp) o q⟩
  item := by
    intro X hP hw hK hc i pins s σ H E I hf st hg
    subst hP hw hK
    obtain ⟨hz, hTI, ⟨x0, y0, hTO⟩, h1, h2⟩ := st
    obtain ⟨xs, ys, x, y, hqx, hqy, hx, hy⟩ := hg
    obtain ⟨its, rv, p, _⟩ := Sk.seq I hqx
    obtain ⟨its2, rv2, p2, _⟩ := Sk.seq I hqy
    have hh : X.A.in1.handled = none := I.ok.hd hc
    have l1 := rv.length
    have l2 := rv2.length
    have hlt1 : i < its.toArray.size := by
      have := (List.getElem?_eq_some_iff.mp hx).1
      simp only [List.size_toArray]; omega
    have hlt2 : i < its2.toArray.size := by
      have := (List.getElem?_eq_some_iff.mp hy).1
      simp only [List.size_toArray]; omega
    have hzl : z < s.heap.objs.size := Heap.lt_size hz
    refine wpAny_pyNext_zipD2_item D (Sk.draws hh k1 i1 a h1a its.toArray) (Sk.draws hh k2 i2 b h2b its2.toArray) hz hTI hTO ⟨h1, p⟩ ⟨h2, p2⟩ hlt1 hlt2 fun u u2 h' tk hu hu2 z' TO' st1 st2 hT hsz hk => ?_
    have ru : RelV x u := by
      obtain ⟨u', w1, w2⟩ := rv.get hx
      have w3 : its[i]? = some u := by simpa using hu
      rw [w1] at w3; cases w3; exact w2
    have ru2 : RelV y u2 := by
      obtain ⟨u', w1, w2⟩ := rv2.get hy
      have w3 : its2[i]? = some u2 := by simpa using hu2
      rw [w1] at w3; cases w3; exact w2
    refine ⟨_, rfl, wpAny_letOwnedTupleGo_zip (s := { s with heap := h', toks := tk }) z' fun h'' z'' sb => ?_⟩
    have hT2 : h''.get? s.heap.objs.size = some { cls := .type "tuple", data := .seq #[u, u2] } := (sb.2 _ (Nat.ne_of_gt hzl)).trans hT
    have new : ObjOk X.prog X.w (upd H s.heap.objs.size (.tup [x, y])) h'' s.heap.objs.size (.tup [x, y]) :=
      ⟨by show 2 ≤ sizeLine; decide, [u, u2], .cons ru (.cons ru2 .nil), ⟨_, hT2, rfl, _, rfl⟩⟩
    have I1 : Inv X pins σ (upd H s.heap.objs.size (.tup [x, y])) { s with heap := h'', toks := tk } :=
      I.turnedNew (t' := tk) (ch := [z, TI, TO, i1, i2]) (fun c o hb q => (sb.2 c (fun q' => hb (by simp [q']))).trans (hk c o (fun q' => hb (by simp [q'])) (fun q' => hb (by simp [q'])) (fun q' => hb (by simp [q'])) (fun q' => hb (by simp [q'])) q)) hf (Nat.le_refl _) new
    refine ⟨.ref s.heap.objs.size, _, I1, rfl, ⟨_, x, y, rfl, I.hok.fresh (Nat.le_refl _), rfl, fun l hl => by rw [Sk.inj I hl hqx]; exact hx, fun l hl => by rw [Sk.inj I hl hqy]; exact hy⟩, ⟨z'', ?_, ⟨u, u2, ?_⟩, ?_, ?_⟩, fun c hcm => ?_⟩
    · exact (sb.2 _ D.TIz).trans (hk _ _ D.TIz D.TITO D.TIi1 D.TIi2 hTI)
    · exact (sb.2 _ D.TOz).trans TO'
    · exact Sk.iter_at st1.1 fun o q => (sb.2 _ (Ne.symm D.zi1)).trans q
    · exact Sk.iter_at st2.1 fun o q => (sb.2 _ (Ne.symm D.zi2)).trans q
    · have hlt : c < s.heap.objs.size := by
        have e' : c = z ∨ c = TI ∨ c = TO ∨ c = i1 ∨ c = i2 := by simpa using hcm
        rcases e' with q | q | q | q | q
        · rw [q]; exact hzl
        · rw [q]; exact Heap.lt_size hTI
        · rw [q]; exact Heap.lt_size hTO
        · rw [q]; exact Sk.iter_lt h1
        · rw [q]; exact Sk.iter_lt h2
      rw [upd_ne (Nat.ne_of_lt hlt)]
      exact (hf c hcm).1
  done := by
    intro X hP hw hK hc i pins s σ H E I hf st hg
    subst hP hw hK
    obtain ⟨hz, hTI, ⟨x0, y0, hTO⟩, h1, h2⟩ := st
    obtain ⟨xs, ys, hqx, hqy, le1, le2, hend⟩ := hg
    obtain ⟨its, rv, p, _⟩ := Sk.seq I hqx
    obtain ⟨its2, rv2, p2, _⟩ := Sk.seq I hqy
    have hh : X.A.in1.handled = none := I.ok.hd hc
    have l1 := rv.length
    have l2 := rv2.length
    exact wpAny_pyNext_zipD2_end D (Sk.draws hh k1 i1 a h1a its.toArray) (Sk.draws hh k2 i2 b h2b its2.toArray) hz hTI hTO ⟨h1, p⟩ ⟨h2, p2⟩ (by simp only [List.size_toArray]; omega) (by simp only [List.size_toArray]; omega) (by simp only [List.size_toArray]; omega)
      fun h' tk hk => ⟨rfl, I.turnedL (t' := tk) (ch := [z, TI, TO, i1, i2]) (fun c o hb q => hk c o (fun q' => hb (by simp [q'])) (fun q' => hb (by simp [q'])) (fun q' => hb (by simp [q'])) (fun q' => hb (by simp [q'])) q) hf⟩
  self := fun A i s Q E st h => wpAny_pyIter_zip st.1 h
section
variable {X : Cx}
def iZipK (K : PySem.W.Frag) (ta : TA) : TI := fun σ H R => ta σ H fun vs H1 => ∃ k1 k2 a b xs ys, vs = [.ref a, .ref b] ∧ Sk.at K H1 k1 a xs ∧ Sk.at K H1 k2 b ys ∧ R (ItZ K k1 k2 a b) H1
theorem pi_zipK {e e2 : Expr} {ta : TA} {p pos tpos : Pos} {elts : List Expr} {kk : Nat} (hg : Gl X "zip") (hm : X.mg "zip" = none) (ha : PA X [e, e2] ta)
    (hs : starEach [e, e2] X.env = (false, eval e X.env) :: starEach [e2] X.env) (hpl : (backTo pos (starEach [e2] X.env)).any (·.1) = false) :
    PI X (.Tuple elts kk tpos) (.Call (.Name "zip" p) [e, e2] [] pos) (iZipK X.K ta) := by
  refine ⟨fun pins s σ H R I h => ?_⟩
  refine Call_ (ld_blt I hg hm PyProof.Rows.boot_zip (PyProof.Rows.callWith_type1 (thn (ha.run pos pins s σ H _ I h) fun us s1 ⟨vs, H1, I1, r1, q1⟩ => ?_) hs hpl))
  obtain ⟨k1, k2, a, b, xs, ys, ex, hqx, hqy, q⟩ := q1
  subst ex
  cases r1 with
  | cons r rr =>
    cases rr with
    | cons r' rr =>
      cases rr
      cases r
      cases r'
      obtain ⟨its, rv, p1, _⟩ := Sk.seq I1 hqx
      obtain ⟨its2, rv2, p2, _⟩ := Sk.seq I1 hqy
      have la := Sk.isq_lt p1
      have lb := Sk.isq_lt p2
      refine zip_begins2 (k1.begins a its.toArray) (k2.begins b its2.toArray) p1 p2 fun h' hz hTI hTO h1 h2 hsz hk => wpAny_pyIter_zip hz ?_
      have I2 : Inv X pins σ H1 { s1 with heap := h' } := I1.kept (t' := s1.toks) hk
      refine ⟨s1.heap.objs.size + 4, [s1.heap.objs.size + 4, s1.heap.objs.size + 2, s1.heap.objs.size + 3, s1.heap.objs.size, s1.heap.objs.size + 1], _, _, H1, rfl, I2,
        turn_zipK k1 k2 (zip_sep2 (fp1 := [a]) (fp2 := [b]) (fun c hc => by rw [List.mem_singleton.mp hc]; exact la) (fun c hc => by rw [List.mem_singleton.mp hc]; exact lb)) (Nat.ne_of_lt la) (Nat.ne_of_lt (Nat.lt_succ_of_lt lb)),
        ⟨hz, hTI, ⟨_, _, hTO⟩, Sk.iter0 h1, Sk.iter0 h2⟩, fun c hcm => ?_, q⟩
      have e' : c = s1.heap.objs.size + 4 ∨ c = s1.heap.objs.size + 2 ∨ c = s1.heap.objs.size + 3 ∨ c = s1.heap.objs.size ∨ c = s1.heap.objs.size + 1 := by simpa using hcm
      have hle : s1.heap.objs.size ≤ c := by
        rcases e' with z | z | z | z | z
        · rw [z]; exact Nat.le_add_right _ _
        · rw [z]; exact Nat.le_add_right _ _
        · rw [z]; exact Nat.le_add_right _ _
        · rw [z]; exact Nat.le_refl _
        · rw [z]; exact Nat.le_add_right _ _
      exact I1.fpOk hle (I1.hok.fresh hle)
end
/-! ### either kind, walked -/
section
variable {X : Cx} {tg : Expr}
def ItS (K : PySem.W.Frag) (k : Sk) (a : Addr) : L2.It := match k with | .l => Itl K a | .t => Itt K a
def iSeqK (K : PySem.W.Frag) (tl : TE) : TI := fun σ H R => tl σ H fun x H1 => ∃ k a xs, x = .ref a ∧ Sk.at K H1 k a xs ∧ R (ItS K k a) H1
theorem pi_seqK {l : Expr} {tl : TE} (hl : PE X l tl) : PI X tg l (iSeqK X.K tl) := by
  refine ⟨fun pins s σ H R I h => ?_⟩
  refine thn (hl.run pins s σ H _ I h) fun v s1 ⟨x, H1, I1, r1, q1⟩ => ?_
  obtain ⟨k, a, xs, e, hq, q⟩ := q1
  subst e
  cases r1
  cases k with
  | l =>
    obtain ⟨its, rv, p, hz⟩ := I1.list (show SqL X.K H1 a xs from hq)
    refine wpAny_pyIter_list p.isList ?_
    refine ⟨s1.heap.objs.size, [s1.heap.objs.size], _, _, H1, rfl, I1.kept (t' := s1.toks) fun b o e => Heap.get?_push_of_some _ e, turn_list a _, ⟨_, Heap.get?_push_size _ rfl, rfl, rfl⟩, fun b hb => ?_, q⟩
    have e : b = s1.heap.objs.size := by simpa using hb
    subst e
    exact I1.fpOk (Nat.le_refl _) (I1.hok.fresh (Nat.le_refl _))
  | t =>
    obtain ⟨its, rv, p, hz⟩ := I1.tuple (show SqT X.K H1 a xs from hq)
    refine wpAny_pyIter_tuple (show s1.heap.IsTuple a its.toArray from p) ?_
    refine ⟨s1.heap.objs.size, [s1.heap.objs.size], _, _, H1, rfl, I1.kept (t' := s1.toks) fun b o e => Heap.get?_push_of_some _ e, turn_tuple a _, ⟨_, Heap.get?_push_size _ rfl, rfl, rfl⟩, fun b hb => ?_, q⟩
    have e : b = s1.heap.objs.size := by simpa using hb
    subst e
    exact I1.fpOk (Nat.le_refl _) (I1.hok.fresh (Nat.le_refl _))
end
end Cr
set_option Elab.async false
set_option linter.all false
set_option maxRecDepth 100000
set_option maxHeartbeats 4000000
namespace Cr
open PySem PySem.Spec PyProof.Rows L2
/-! ### what assignments keep -/
structure Ka (P : Addr → Prop) (e : Ev) (σ : L2.St) (H : Hp) (Z : Addr → Prop) (e' : Ev) (σ' : L2.St) (H' : Hp) (Z' : Addr → Prop) : Prop where
  keep : ∀ a o, H a = some o → ¬ MutAt e σ a → ¬ P a → H' a = some o ∧ (Z' a ↔ Z a) ∧ ¬ MutAt e' σ' a
  th : ∀ a, H a ≠ none → H' a ≠ none
def Pf (v : V) (r : Rv) : Addr → Prop := fun a => ∃ d, r = .fr d ∧ v = V.ref a
section
variable {K : PySem.W.Frag} {F : Fr} {P : Addr → Prop} {e e' e'' : Ev} {σ σ' σ'' : L2.St} {H H' H'' : Hp} {Z Z' Z'' : Addr → Prop} {v : V} {r : Rv}
theorem Ka.of (k : Kp e σ H Z e' H' Z') : Ka P e σ H Z e' σ H' Z' := ⟨fun a o h m _ => k.keep a o h m, k.th⟩
theorem Ka.kp (k : Ka (fun _ => False) e σ H Z e' σ H' Z') : Kp e σ H Z e' H' Z' := ⟨fun a o h m => k.keep a o h m (fun z => z), k.th⟩
theorem Ka.trans (h : Ka P e σ H Z e' σ' H' Z') (k : Ka P e' σ' H' Z' e'' σ'' H'' Z'') : Ka P e σ H Z e'' σ'' H'' Z'' := ⟨fun a o q m p => by
  obtain ⟨q1, z1, m1⟩ := h.keep a o q m p
  obtain ⟨q2, z2, m2⟩ := k.keep a o q1 m1 p
  exact ⟨q2, z2.trans z1, m2⟩, fun a q => k.th a (h.th a q)⟩
theorem Ka.le (R : Rel K F e σ H Z) (hp : ∀ a, P a → Z a) (h : Ka P e σ H Z e' σ' H' Z') : Le H Z H' Z' := ⟨fun a o q => by
  obtain ⟨z, q⟩ := hid_some.mp q
  obtain ⟨q1, z1, _⟩ := h.keep a o q (fun m => z (R.mutZ m)) (fun p => z (hp a p))
  exact hid_some.mpr ⟨fun w => z (z1.mp w), q1⟩, h.th⟩
theorem RvR.pf (q : RvR K F e σ H Z v r) : ∀ a, Pf v r a → Z a := fun a ⟨d, e1, e2⟩ => by
  subst e1 e2
  obtain ⟨a', e3, z, _⟩ := q
  cases e3
  exact z
end
/-! ### stores -/
section
variable {X : Cx} {K : PySem.W.Frag} {W : WX} {cv : Nat → Value}
theorem Rel.store {F : Fr} {i : Nat} {e e' : Ev} {σ : L2.St} {H : Hp} {Z : Addr → Prop} {v : V} {r : Rv} {u : Unit} (R : Rel K F e σ H Z) (q : RvR K F e σ H Z v r) (h : store i r.sl e = .ok u e') :
    Rel K F e' (σ.set i (some v)) H Z ∧ Ka (Pf v r) e σ H Z e' (σ.set i (some v)) H Z := by
  have he : e' = e.set i r.sl ∧ i < e.length := by
    unfold Cr.store at h
    cases w : e[i]? with
    | none => rw [w] at h; cases h
    | some s =>
      have hl := (List.getElem?_eq_some_iff.mp w).1
      rw [w] at h
      cases s with
      | un => cases h; exact ⟨rfl, hl⟩
      | val d => cases h; exact ⟨rfl, hl⟩
      | mu b d => cases b <;> cases h; exact ⟨rfl, hl⟩
      | frz d => cases h
  obtain ⟨he, hl⟩ := he
  subst he
  have hl' : i < σ.length := by rw [← R.len]; exact hl
  have so : ∀ j, j ≠ i → (σ.set i (some v))[j]? = σ[j]? := fun j hj => List.getElem?_set_ne (Ne.symm hj)
  have ss : (σ.set i (some v))[i]? = some (some v) := List.getElem?_set_self hl'
  -- a slot's own list in the new state
  have mm : ∀ {j : Nat} {b : Bool} {d : D} {a : Addr}, (e.set i r.sl)[j]? = some (Sl.mu b d) → (σ.set i (some v))[j]? = some (some (V.ref a)) → (j = i ∧ r = .fr d ∧ b = false ∧ v = V.ref a) ∨ (j ≠ i ∧ e[j]? = some (Sl.mu b d) ∧ σ[j]? = some (some (V.ref a))) := fun {j b d a} h1 h2 => by
    rcases getElem?_set' h1 with ⟨q1, q2⟩ | ⟨q1, q2⟩
    · subst q1
      rw [ss] at h2
      cases h2
      cases r with
      | fz d' => cases q2
      | fr d' => cases q2; exact .inl ⟨rfl, rfl, rfl, rfl⟩
    · rw [so j q1] at h2
      exact .inr ⟨q1, q2, h2⟩
  have nm : ∀ {a d}, r = .fr d → v = V.ref a → ¬ MutAt e σ a := fun {a d} e1 e2 => by
    subst e1 e2
    obtain ⟨a', e3, _, _, m, _⟩ := q
    cases e3
    exact m
  refine ⟨⟨by rw [List.length_set, List.length_set]; exact R.len, fun j s h => ?_, fun j k b d b' d' a h1 h2 h3 h4 => ?_, R.zs, R.kz, R.zn, R.fr, R.lz, R.th, R.z0⟩, ⟨fun a o h1 h2 h3 => ⟨h1, Iff.rfl, fun m => ?_⟩, fun _ h => h⟩⟩
  · rcases getElem?_set' h with ⟨q1, q2⟩ | ⟨q1, q2⟩
    · subst q1 q2
      rw [ss]
      cases r with
      | fz d => exact ⟨v, rfl, q⟩
      | fr d =>
        obtain ⟨a, e1, z, c, _, f⟩ := q
        subst e1
        exact ⟨a, rfl, z, c, (fun w => by cases w), fun _ => f⟩
    · rw [so j q1]
      exact R.sl j s q2
  · rcases mm h1 h3 with ⟨p1, p2, p3, p4⟩ | ⟨p1, p2, p3⟩
    · rcases mm h2 h4 with ⟨q1, _⟩ | ⟨q1, q2, q3⟩
      · exact p1.trans q1.symm
      · exact absurd ⟨k, b', d', q2, q3⟩ (nm p2 p4)
    · rcases mm h2 h4 with ⟨q1, q2, q3, q4⟩ | ⟨q1, q2, q3⟩
      · exact absurd ⟨j, b, d, p2, p3⟩ (nm q2 q4)
      · exact R.ds j k b d b' d' a p2 q2 p3 q3
  · obtain ⟨j, b, d, w1, w2⟩ := m
    rcases mm w1 w2 with ⟨p1, p2, p3, p4⟩ | ⟨p1, p2, p3⟩
    · exact h3 ⟨d, p2, p4⟩
    · exact h2 ⟨j, b, d, p2, p3⟩
/-! ### targets -/
structure Dif (S : List Nat) (σ σ' : L2.St) : Prop where
  at' : ∀ j : Nat, j ∉ S → σ'[j]? = σ[j]?
  len : σ'.length = σ.length
theorem Dif.refl {S : List Nat} {σ : L2.St} : Dif S σ σ := ⟨fun _ _ => rfl, rfl⟩
theorem Dif.trans {S : List Nat} {σ σ' σ'' : L2.St} (h : Dif S σ σ') (k : Dif S σ' σ'') : Dif S σ σ'' := ⟨fun j hj => (k.at' j hj).trans (h.at' j hj), k.len.trans h.len⟩
def PstA (K : PySem.W.Frag) (W : WX) (cv : Nat → Value) (F : Fr) (S : List Nat) (P : Addr → Prop) (σ : L2.St) (e : Ev) (H : Hp) (Z : Addr → Prop) (m : Rs Unit) (Q : L2.St → Hp → Prop) : Prop :=
  match m with
  | .ok _ e' => ∀ σ' H' Z', Rel K F e' σ' H' Z' → Ka P e σ H Z e' σ' H' Z' → Dif S σ σ' → Q σ' H'
  | .ex x e' => ∀ σ' H' Z', Rel K F e' σ' H' Z' → Le H Z H' Z' → W (cv x) none σ' H'
  | .er => False
def tA (K : PySem.W.Frag) (W : WX) (cv : Nat → Value) (S : List Nat) (f : Rv → Ev → Rs Unit) : TG :=
  fun v σ H Q => ∃ F e Z r, Rel K F e σ H Z ∧ RvR K F e σ H Z v r ∧ PstA K W cv F S (Pf v r) σ e H Z (f r e) Q
/-- values for several targets -/
inductive RvAll (K : PySem.W.Frag) (F : Fr) (e : Ev) (σ : L2.St) (H : Hp) (Z : Addr → Prop) : List V → List Rv → Prop
  | nil : RvAll K F e σ H Z [] []
  | cons {v : V} {vs : List V} {r : Rv} {rs : List Rv} : RvR K F e σ H Z v r → (∀ (a : Addr), Pf v r a → ∀ (i : Nat) (w : V) (s : Rv), vs[i]? = some w → rs[i]? = some s → ¬ Pf w s a) → RvAll K F e σ H Z vs rs → RvAll K F e σ H Z (v :: vs) (r :: rs)
def PfA (vs : List V) (rs : List Rv) : Addr → Prop := fun a => ∃ (i : Nat) (v : V) (r : Rv), vs[i]? = some v ∧ rs[i]? = some r ∧ Pf v r a
def tAs (K : PySem.W.Frag) (W : WX) (cv : Nat → Value) (S : List Nat) (f : List Rv → Ev → Rs Unit) : TGs :=
  fun vs σ H Q => ∃ F e Z rs, Rel K F e σ H Z ∧ RvAll K F e σ H Z vs rs ∧ PstA K W cv F S (PfA vs rs) σ e H Z (f rs e) Q
theorem RvAll.pf {F : Fr} {e : Ev} {σ : L2.St} {H : Hp} {Z : Addr → Prop} : ∀ {vs : List V} {rs : List Rv}, RvAll K F e σ H Z vs rs → ∀ a, PfA vs rs a → Z a
  | _, _, .nil, a, ⟨i, v, r, h, _⟩ => by simp at h
  | _, _, .cons q _ t, a, ⟨0, v, r, h1, h2, h3⟩ => by
    simp at h1 h2
    subst h1 h2
    exact q.pf a h3
  | _, _, .cons q _ t, a, ⟨i + 1, v, r, h1, h2, h3⟩ => t.pf a ⟨i, v, r, by simpa using h1, by simpa using h2, h3⟩
theorem RvR.keepA {F : Fr} {P : Addr → Prop} {e e' : Ev} {σ σ' : L2.St} {H H' : Hp} {Z Z' : Addr → Prop} {v : V} {r : Rv} (R : Rel K F e σ H Z) (hp : ∀ a, P a → Z a) (k : Ka P e σ H Z e' σ' H' Z') (q : RvR K F e σ H Z v r) (hn : ∀ a, Pf v r a → ¬ P a) : RvR K F e' σ' H' Z' v r := by
  have l := k.le R hp
  cases r with
  | fz d => exact Dv.le l q
  | fr d =>
    obtain ⟨a, rfl, z, c, m, f⟩ := q
    obtain ⟨o, ho⟩ := c.some
    obtain ⟨q1, z1, m1⟩ := k.keep a o ho m (hn a ⟨d, rfl, rfl⟩)
    exact ⟨a, rfl, z1.mpr z, c.le l.sub (q1.trans ho.symm), m1, f⟩
theorem RvAll.keepA {F : Fr} {P : Addr → Prop} {e e' : Ev} {σ σ' : L2.St} {H H' : Hp} {Z Z' : Addr → Prop} (R : Rel K F e σ H Z) (hp : ∀ a, P a → Z a) (k : Ka P e σ H Z e' σ' H' Z') : ∀ {vs : List V} {rs : List Rv}, RvAll K F e σ H Z vs rs → (∀ a, PfA vs rs a → ¬ P a) → RvAll K F e' σ' H' Z' vs rs
  | _, _, .nil, _ => .nil
  | _, _, .cons q n t, hn => .cons (q.keepA R hp k fun a p => hn a ⟨0, _, _, by simp, by simp, p⟩) n (RvAll.keepA R hp k t fun a ⟨i, v, r, h1, h2, h3⟩ => hn a ⟨i + 1, v, r, by simpa using h1, by simpa using h2, h3⟩)
theorem pg_nameD {i : Nat} {S : List Nat} {x : Expr} (h : PG X x (gName i)) (hS : i ∈ S) : PG X x (tA K W cv S fun r e => store i r.sl e) := ⟨fun pins s σ H v u Q I r ⟨F, e, Z, rv, R, q, p⟩ => by
  refine h.run pins s σ H v u Q I r ?_
  show Q (σ.set i (some v)) H
  replace p : PstA K W cv F S (Pf v rv) σ e H Z (store i rv.sl e) Q := p
  cases g : store i rv.sl e with
  | er => rw [g] at p; exact p.elim
  | ex x e' => unfold store at g; split at g <;> cases g
  | ok w e' =>
    rw [g] at p
    obtain ⟨R', k⟩ := R.store q g
    exact p _ _ Z R' k ⟨fun j hj => List.getElem?_set_ne fun (e1 : i = j) => hj (e1 ▸ hS), List.length_set⟩⟩
theorem pgs_nilD {S : List Nat} : PGs X [] (tAs K W cv S fun rs e => match rs with | [] => .ok () e | _ => .er) := ⟨fun pins s σ H vs us Q I r ⟨F, e, Z, rs, R, q, p⟩ => by
  refine pgs_nil.run pins s σ H vs us Q I r ?_
  cases q with
  | nil => exact ⟨rfl, p _ _ Z R (Ka.of Kp.refl) .refl⟩
  | cons _ _ _ => exact p.elim⟩
theorem pgs_consD {S : List Nat} {t : Expr} {ts : List Expr} {f : Rv → Ev → Rs Unit} {g : List Rv → Ev → Rs Unit} (h1 : PG X t (tA K W cv S f)) (h2 : PGs X ts (tAs K W cv S g))
    (hs : (assignEach (t :: ts) X.env).map (·.2) = assign t X.env :: (assignEach ts X.env).map (·.2)) : PGs X (t :: ts) (tAs K W cv S fun rs e => match rs with | r :: rs => (f r e).bind fun _ e => g rs e | _ => .er) := ⟨fun pins s σ H vs us Q I ru ⟨F, e, Z, rs, R, q, p⟩ => by
  refine (pgs_cons h1 h2 hs).run pins s σ H vs us Q I ru ?_
  cases q with
  | nil => exact p.elim
  | @cons v vs r rs q1 q2 q3 =>
    replace p : PstA K W cv F S (PfA (v :: vs) (r :: rs)) σ e H Z ((f r e).bind fun _ e => g rs e) Q := p
    have hz : ∀ a, PfA (v :: vs) (r :: rs) a → Z a := (RvAll.cons q1 q2 q3).pf
    have p0 : ∀ a, Pf v r a → PfA (v :: vs) (r :: rs) a := fun a w => ⟨0, v, r, by simp, by simp, w⟩
    have p1 : ∀ a, PfA vs rs a → PfA (v :: vs) (r :: rs) a := fun a ⟨i, w, s, w1, w2, w3⟩ => ⟨i + 1, w, s, by simpa using w1, by simpa using w2, w3⟩
    refine ⟨v, vs, rfl, F, e, Z, r, R, q1, ?_⟩
    cases w : f r e with
    | er => rw [w] at p; exact p.elim
    | ex x e' => rw [w] at p; exact p
    | ok u e1 =>
      rw [w] at p
      intro σ1 H1 Z1 R1 k1 s1
      have dis : ∀ a, PfA vs rs a → ¬ Pf v r a := fun a ⟨i, w, s, w1, w2, w3⟩ w4 => q2 a w4 i w s w1 w2 w3
      refine ⟨F, e1, Z1, rs, R1, q3.keepA R q1.pf k1 dis, ?_⟩
      have k1' : Ka (PfA (v :: vs) (r :: rs)) e σ H Z e1 σ1 H1 Z1 := ⟨fun a o c1 c2 c3 => k1.keep a o c1 c2 fun z => c3 (p0 a z), k1.th⟩
      have p' : PstA K W cv F S (PfA (v :: vs) (r :: rs)) σ e H Z (g rs e1) Q := p
      cases w2 : g rs e1 with
      | er => rw [w2] at p'; exact p'.elim
      | ex x e' =>
        rw [w2] at p'
        exact fun σ' H' Z' R' l => p' σ' H' Z' R' ((k1.le R q1.pf).trans l)
      | ok u2 e2 =>
        rw [w2] at p'
        intro σ2 H2 Z2 R2 k2 s2
        refine p' σ2 H2 Z2 R2 (k1'.trans ⟨fun a o c1 c2 c3 => k2.keep a o c1 c2 fun z => c3 (p1 a z), k2.th⟩) (s1.trans s2)⟩
theorem rvAll_fz {F : Fr} {e : Ev} {σ : L2.St} {H : Hp} {Z : Addr → Prop} : ∀ {vs : List V} {ds : List D}, DvAll K (hid Z H) vs ds → RvAll K F e σ H Z vs (ds.map .fz)
  | _, _, .nil => .nil
  | _, _, .cons q t => .cons q (fun a ⟨d, e1, _⟩ => by cases e1) (rvAll_fz t)
theorem pg_tupD {S : List Nat} {es : List Expr} {k : Nat} {pos : Pos} {n : Nat} {g : List Rv → Ev → Rs Unit} (hc : X.calm = true) (h : PGs X es (tAs X.K W cv S g)) (hn : (assignEach es X.env).length = n) (hst : (assignEach es X.env).findIdx? (·.1) = none) :
    PG X (.Tuple es k pos) (tA X.K W cv S fun r e => match r.d with
    | .tuple ds => if ds.length = n then g (ds.map .fz) e else .er
    | _ => .er) := ⟨fun pins s σ H v u Q I ru ⟨F, e, Z, r, R, q, p⟩ => by
  refine (pg_tup hc h hn hst).run pins s σ H v u Q I ru ?_
  cases r with
  | fr d =>
    obtain ⟨a, e1, z, c, _⟩ := q
    cases d with
    | list ds => exact p.elim
    | _ => exact c.elim
  | fz d =>
    cases d with
    | tuple ds =>
      replace p : PstA X.K W cv F S (Pf v (.fz (.tuple ds))) σ e H Z (if ds.length = n then g (ds.map .fz) e else .er) Q := p
      split at p
      · rename_i hl
        have q' : Dv X.K (hid Z H) v (.tuple ds) := q
        cases q' with
        | @tup a xs _ s1 s2 =>
          refine ⟨a, xs, rfl, hid_sub.sqT s1, s2.length.trans hl, F, e, Z, ds.map .fz, R, rvAll_fz s2, ?_⟩
          have np : ∀ a', ¬ PfA xs (ds.map Rv.fz) a' := fun a' ⟨i, w, s, w1, w2, d', e1, _⟩ => by
            subst e1
            rw [List.getElem?_map] at w2
            cases h : ds[i]? with
            | none => rw [h] at w2; cases w2
            | some x => rw [h] at w2; cases w2
          cases w : g (ds.map .fz) e with
          | er => rw [w] at p; exact p.elim
          | ex x e' => rw [w] at p; exact p
          | ok u e1 =>
            rw [w] at p
            exact fun σ' H' Z' R' k' s' => p σ' H' Z' R' ⟨fun a o c1 c2 _ => k'.keep a o c1 c2 (np a), k'.th⟩ s'
      · exact p.elim
    | _ => exact p.elim⟩
/-- a fresh value is held by others from now on -/
theorem RvR.freezeA {F : Fr} {e : Ev} {σ : L2.St} {H : Hp} {Z : Addr → Prop} {v : V} {r : Rv} (R : Rel K F e σ H Z) (q : RvR K F e σ H Z v r) : ∃ Z', Rel K F e σ H Z' ∧ Ka (Pf v r) e σ H Z e σ H Z' ∧ Dv K (hid Z' H) v r.d := by
  cases r with
  | fz d => exact ⟨Z, R, Ka.of Kp.refl, q⟩
  | fr d =>
    obtain ⟨a, rfl, z, c, m, f⟩ := q
    obtain ⟨R2, dv, zz⟩ := R.freeze z c m (.inl f)
    exact ⟨_, R2, ⟨fun b o w mb pb => ⟨w, zz b fun e1 => pb ⟨d, rfl, e1 ▸ rfl⟩, mb⟩, fun _ w => w⟩, dv⟩
theorem pg_subD {S : List Nat} {o i : Expr} {j : Nat} {pos : Pos} {f : Ev → Rs Op} (ho : PE X o (tVar j)) (hi : PE X i (tO K W cv f))
    (ha : ∀ v, assign (.Subscript o i pos) X.env v = (do
      let ov ← holding [v] (eval o X.env)
      let iv ← holding [v, ov] (eval i X.env)
      standAt pos
      holding [v, ov, iv] (setItem ov iv v)
      release [v, ov, iv] [])) : PG X (.Subscript o i pos) (tA K W cv S (subE j f)) := ⟨fun pins s σ H v u Q I ru ⟨F, e, Z, r, R, q, p⟩ => by
  refine (pg_sub ho hi set_list ha).run pins s σ H v u Q I ru ?_
  obtain ⟨Z1, R1, k1, dv⟩ := q.freezeA R
  unfold subE at p
  split at p
  · rename_i b ds hm
    obtain ⟨a, xs, ea, za, ha, _⟩ := mu_there R1 hm
    have l1 := k1.le R q.pf
    refine ⟨_, ea, F, e, Z1, R1, ?_⟩
    cases w : f e with
    | er => rw [w] at p; exact p.elim
    | ex x e1 =>
      rw [w] at p
      exact fun H' Z' R' l => p σ H' Z' R' (l1.trans l)
    | ok x e1 =>
      rw [w] at p
      intro iv H2 Z2 R2 k2 qi
      replace p : PstA K W cv F S (Pf v r) σ e H Z (match x.get e1 with | some k => setAt j (fun d => putD d k r.d) e1 | none => .er) Q := p
      have k12 : Ka (Pf v r) e σ H Z e1 σ H2 Z2 := k1.trans (Ka.of k2)
      cases g : x.get e1 with
      | none => rw [g] at p; exact p.elim
      | some kd =>
        simp only [g] at p
        unfold setAt at p
        cases g2 : e1[j]? with
        | none => rw [g2] at p; exact p.elim
        | some s2 =>
          rw [g2] at p
          cases s2 with
          | mu b2 d2 =>
            obtain ⟨a2, ea2, z2, c2, _⟩ := R2.sl j _ g2
            rw [ea] at ea2
            cases ea2
            cases d2 with
            | list ds2 =>
              obtain ⟨xs2, h2, r2⟩ := c2
              cases kd with
              | int n =>
                have ck := (qi.get R2 g).full
                cases ck
                cases g3 : L2.ixN ds2.length n with
                | none =>
                  have : putD (PyData.list ds2) (.int n) r.d = none := by show (L2.ixN ds2.length n).map _ = none; rw [g3]; rfl
                  simp only [this] at p
                  exact p.elim
                | some m =>
                  have : putD (PyData.list ds2) (.int n) r.d = some (PyData.list (ds2.set m r.d)) := by show (L2.ixN ds2.length n).map _ = _; rw [g3]; rfl
                  simp only [this] at p
                  refine ⟨a, xs2, n, m, rfl, rfl, h2, by rw [r2.length]; exact g3, ?_⟩
                  have dv2 : Dv K (hid Z2 H2) v r.d := Dv.le (k2.le R1) dv
                  obtain ⟨R3, k3⟩ := R2.put (u := .lst (xs2.set m v)) (d' := .list (ds2.set m r.d)) g2 ea ⟨_, upd_same, r2.set m dv2⟩
                  exact p σ _ Z2 R3 (k12.trans (Ka.of k3)) .refl
              | _ => exact p.elim
            | _ => exact c2.elim
          | _ => exact p.elim
  · exact p.elim⟩
end
end Cr
set_option Elab.async false
set_option linter.all false
set_option maxRecDepth 100000
set_option maxHeartbeats 4000000
namespace Cr
open PySem PySem.Spec PyProof.Rows L2
/-! ### walks -/
structure Wlk (K : PySem.W.Frag) (H0 : Hp) (Z0 : Addr → Prop) (J : L2.It) (items : List D) : Prop where
  go : ∀ i H Z, Le H0 Z0 H Z → i < items.length → J.go i H
  yld : ∀ i H Z x H' d, Le H0 Z0 H Z → items[i]? = some d → J.yld i H x H' → NewR K Z H x H' (.fz d)
  stop : ∀ H Z, Le H0 Z0 H Z → J.stop items.length H
abbrev rW (K : PySem.W.Frag) : RelT (List D) L2.It := fun _ _ _ items J _ H Z => Wlk K H Z J items
abbrev tI (K : PySem.W.Frag) (W : WX) (cv : Nat → Value) (f : Ev → Rs (List D)) : TI := tR K W cv (rW K) f
section
variable {X : Cx} {K : PySem.W.Frag} {W : WX} {cv : Nat → Value} {H H' : Hp} {Z Z' : Addr → Prop}
theorem dv_seq {v : V} {d : D} {ds : List D} (q : Dv K H v d) (h : seqD d = some ds) : ∃ (k : Sk) (a : Addr) (xs : List V), v = .ref a ∧ k.at K H a xs ∧ DvAll K H xs ds := by
  cases q with
  | lst s r => cases h; exact ⟨.l, _, _, rfl, .inl s, r⟩
  | tup s r => cases h; exact ⟨.t, _, _, rfl, s, r⟩
  | _ => cases h
theorem at_le {k : Sk} {a : Addr} {xs : List V} (l : Le H Z H' Z') (h : k.at K (hid Z H) a xs) : k.at K H' a xs := Sk.at_mono (l.sub.trans hid_sub) h
theorem wlk_seq {k : Sk} {a : Addr} {xs : List V} {ds : List D} (h : k.at K (hid Z H) a xs) (r : DvAll K (hid Z H) xs ds) : Wlk K H Z (ItS K k a) ds := by
  refine ⟨fun i H' Z' l hi => ?_, fun i H' Z' x H2 d l hd hy => ?_, fun H' Z' l => ?_⟩
  · have hx : i < xs.length := by rw [r.length]; exact hi
    have q := at_le l h
    cases k with
    | l => exact ⟨xs, xs[i], q, List.getElem?_eq_getElem hx⟩
    | t => exact ⟨xs, xs[i], q, List.getElem?_eq_getElem hx⟩
  · obtain ⟨w, hw, dw⟩ := r.at hd
    have q := at_le l h
    have fin : H2 = H' → xs[i]? = some x → NewR K Z' H' x H2 (.fz d) := fun e1 e2 => by
      subst e1
      rw [hw] at e2
      cases e2
      exact .old (Dv.le l dw)
    cases k with
    | l => exact fin hy.1 (hy.2 xs q)
    | t => exact fin hy.1 (hy.2 xs q)
  · have q := at_le l h
    cases k with
    | l => exact ⟨xs, q, by rw [r.length]; exact Nat.le_refl _⟩
    | t => exact ⟨xs, q, by rw [r.length]; exact Nat.le_refl _⟩
theorem wlk_range {lo : Int} {hi : Int} : Wlk K H Z (Itr lo (hi - lo).toNat) (rangeD lo hi) := by
  have hl : (rangeD lo hi).length = (hi - lo).toNat := by simp [rangeD]
  refine ⟨fun i H' Z' l h => ?_, fun i H' Z' x H2 d l hd hy => ?_, fun H' Z' l => ?_⟩
  · show i < (hi - lo).toNat
    omega
  · obtain ⟨e1, e2⟩ := hy
    subst e1 e2
    have hi' : i < (rangeD lo hi).length := (List.getElem?_eq_some_iff.mp hd).1
    have : (rangeD lo hi)[i]? = some (.int (lo + (i : Int))) := by
      unfold rangeD
      rw [List.getElem?_map, List.getElem?_range (by omega)]
      rfl
    rw [this] at hd
    cases hd
    exact .old (.int _)
  · show (hi - lo).toNat ≤ _
    omega
theorem getElem?_enumD {ds : List D} {i : Nat} {d : D} (h : (enumD ds)[i]? = some d) : ∃ x, ds[i]? = some x ∧ d = .tuple [.int (i : Int), x] := by
  unfold enumD at h
  rw [List.getElem?_map, List.getElem?_zipIdx] at h
  cases w : ds[i]? with
  | none => rw [w] at h; cases h
  | some x =>
    rw [w] at h
    cases h
    exact ⟨x, rfl, by simp⟩
theorem enumD_length {ds : List D} : (enumD ds).length = ds.length := by simp [enumD]
theorem wlk_enum {k : Sk} {a : Addr} {xs : List V} {ds : List D} (h : k.at K (hid Z H) a xs) (r : DvAll K (hid Z H) xs ds) : Wlk K H Z (ItE K k a) (enumD ds) := by
  refine ⟨fun i H' Z' l hi => ?_, fun i H' Z' x H2 d l hd hy => ?_, fun H' Z' l => ?_⟩
  · have hx : i < xs.length := by rw [r.length]; rw [enumD_length] at hi; exact hi
    exact ⟨xs, xs[i], at_le l h, List.getElem?_eq_getElem hx⟩
  · obtain ⟨x0, h0, e0⟩ := getElem?_enumD hd
    subst e0
    obtain ⟨w, hw, dw⟩ := r.at h0
    obtain ⟨T, y, rfl, hT, rfl, q⟩ := hy
    have e2 := q xs (at_le l h)
    rw [hw] at e2
    cases e2
    exact .tup hT (.cons (.int _) (.cons (Dv.le l dw) .nil))
  · exact ⟨xs, at_le l h, by rw [enumD_length]; exact r.length⟩
theorem getElem?_zipD {ds es : List D} {i : Nat} {d : D} (h : (zipD ds es)[i]? = some d) : ∃ x y, ds[i]? = some x ∧ es[i]? = some y ∧ d = .tuple [x, y] := by
  unfold zipD at h
  rw [List.getElem?_map] at h
  cases w : (ds.zip es)[i]? with
  | none => rw [w] at h; cases h
  | some p =>
    rw [w] at h
    cases h
    obtain ⟨h1, h2⟩ := List.getElem?_zip_eq_some.mp w
    exact ⟨p.1, p.2, h1, h2, rfl⟩
theorem wlk_zip {k1 k2 : Sk} {a b : Addr} {xs ys : List V} {ds es : List D} (h1 : k1.at K (hid Z H) a xs) (r1 : DvAll K (hid Z H) xs ds) (h2 : k2.at K (hid Z H) b ys) (r2 : DvAll K (hid Z H) ys es) : Wlk K H Z (ItZ K k1 k2 a b) (zipD ds es) := by
  have l1 := r1.length
  have l2 := r2.length
  have hl : (zipD ds es).length = min ds.length es.length := by simp [zipD]
  refine ⟨fun i H' Z' l hi => ?_, fun i H' Z' x H2 d l hd hy => ?_, fun H' Z' l => ?_⟩
  · have hx : i < xs.length := by omega
    have hy : i < ys.length := by omega
    exact ⟨xs, ys, xs[i], ys[i], at_le l h1, at_le l h2, List.getElem?_eq_getElem hx, List.getElem?_eq_getElem hy⟩
  · obtain ⟨x0, y0, g1, g2, e0⟩ := getElem?_zipD hd
    subst e0
    obtain ⟨w1, hw1, dw1⟩ := r1.at g1
    obtain ⟨w2, hw2, dw2⟩ := r2.at g2
    obtain ⟨T, u, v, rfl, hT, rfl, q1, q2⟩ := hy
    have e1 := q1 xs (at_le l h1)
    have e2 := q2 ys (at_le l h2)
    rw [hw1] at e1
    rw [hw2] at e2
    cases e1
    cases e2
    exact .tup hT (.cons (Dv.le l dw1) (.cons (Dv.le l dw2) .nil))
  · exact ⟨xs, ys, at_le l h1, at_le l h2, by omega, by omega, by omega⟩
/-! ### what is walked -/
variable {tg : Expr}
theorem _root_.L2.PI.imp {e : Expr} {t t' : TI} (h : PI X tg e t) (i : ∀ σ H R, t' σ H R → t σ H R) : PI X tg e t' := ⟨fun pins s σ H R I w => h.run pins s σ H R I (i σ H R w)⟩
theorem pi_overD {x : Expr} {f : Ev → Rs Rv} (h : PE X x (tE X.K W cv f)) : PI X tg x (tI X.K W cv fun e => (f e).bind fun r e => match itD r.d with | some l => .ok l e | none => .er) := (pi_seqK (pe_D h)).imp fun σ H Q ⟨F, e, Z, R, p⟩ => by
  refine ⟨F, e, Z, R, ?_⟩
  have e1 : ((f e).bind fun r e => match itD r.d with | some l => Rs.ok l e | none => .er) = ((f e).bind fun r e => Rs.ok r.d e).bind fun d e => match itD d with | some l => Rs.ok l e | none => .er := by
    rw [bindR]
    rfl
  replace p : Pst X.K W cv (rW X.K) F σ e H Z (((f e).bind fun r e => Rs.ok r.d e).bind fun d e => match itD d with | some l => Rs.ok l e | none => .er) Q := e1 ▸ p
  refine (p.bind (R1 := rD X.K) (fun _ _ _ _ _ _ _ _ _ _ _ _ q => q) R).mono fun x H1 ⟨d, e1, Z1, R1, k1, q1, p1⟩ => ?_
  cases g : itD d with
  | none => simp only [g] at p1; exact p1.elim
  | some l =>
    simp only [g] at p1
    obtain ⟨k, a, xs, rfl, h1, h2⟩ := dv_seq q1 g
    exact ⟨k, a, xs, rfl, Sk.at_mono hid_sub h1, p1 _ H1 Z1 R1 .refl (wlk_seq h1 h2)⟩
theorem pi_enumD {x : Expr} {f : Ev → Rs Rv} {p pos tpos : Pos} {elts : List Expr} {kk : Nat} (hg : Gl X "enumerate") (hm : X.mg "enumerate" = none) (hpl : isPl x = true) (h : PE X x (tE X.K W cv f)) :
    PI X (.Tuple elts kk tpos) (.Call (.Name "enumerate" p) [x] [] pos) (tI X.K W cv fun e => (f e).bind fun r e => match itD r.d with | some l => .ok (enumD l) e | none => .er) := (pi_enumK hg hm (pa_D1 hpl h pa_D0) (star1 hpl _ _)).imp fun σ H Q ⟨F, e, Z, R, p⟩ => by
  refine ⟨F, e, Z, R, ?_⟩
  have e1 : ((f e).bind fun r e => match itD r.d with | some l => Rs.ok (enumD l) e | none => .er) = ((f e).bind fun r e => Rs.ok [r.d] e).bind fun ds e => match ds with | [d] => (match itD d with | some l => Rs.ok (enumD l) e | none => .er) | _ => .er := by
    rw [bindR]
    rfl
  replace p : Pst X.K W cv (rW X.K) F σ e H Z (((f e).bind fun r e => Rs.ok [r.d] e).bind fun ds e => match ds with | [d] => (match itD d with | some l => Rs.ok (enumD l) e | none => .er) | _ => .er) Q := e1 ▸ p
  refine (p.bind (R1 := rDs X.K) (fun _ _ _ _ _ _ _ _ _ _ _ _ q => q) R).mono fun xs H1 ⟨ds, e1, Z1, R1, k1, q1, p1⟩ => ?_
  cases q1 with
  | nil => exact p1.elim
  | cons q1 qr =>
    cases qr with
    | cons _ _ => exact p1.elim
    | nil =>
      rename_i v d _
      cases g : itD d with
      | none => simp only [g] at p1; exact p1.elim
      | some l =>
        simp only [g] at p1
        obtain ⟨k, a, xs, rfl, h1, h2⟩ := dv_seq q1 g
        exact ⟨k, a, xs, rfl, Sk.at_mono hid_sub h1, p1 _ H1 Z1 R1 .refl (wlk_enum h1 h2)⟩
theorem pi_zipD {x y : Expr} {f g : Ev → Rs Rv} {p pos tpos : Pos} {elts : List Expr} {kk : Nat} (hg : Gl X "zip") (hm : X.mg "zip" = none) (hpl : isPl x = true) (hpl2 : isPl y = true) (h : PE X x (tE X.K W cv f)) (h2 : PE X y (tE X.K W cv g)) :
    PI X (.Tuple elts kk tpos) (.Call (.Name "zip" p) [x, y] [] pos) (tI X.K W cv fun e => (f e).bind fun r e => (g e).bind fun s e => match itD r.d, itD s.d with | some l, some m => .ok (zipD l m) e | _, _ => .er) :=
  (pi_zipK hg hm (pa_D1 hpl h (pa_D1 hpl2 h2 pa_D0)) (star1 hpl _ _) (backTo_any _ _ (starAll _ _ (by simp [hpl2])))).imp fun σ H Q ⟨F, e, Z, R, p⟩ => by
  refine ⟨F, e, Z, R, ?_⟩
  have e1 : ((f e).bind fun r e => (g e).bind fun s e => match itD r.d, itD s.d with | some l, some m => Rs.ok (zipD l m) e | _, _ => .er) =
      ((f e).bind fun r e => ((g e).bind fun s e => Rs.ok [s.d] e).bind fun ds e => Rs.ok (r.d :: ds) e).bind fun ds e => match ds with | [d1, d2] => (match itD d1, itD d2 with | some l, some m => Rs.ok (zipD l m) e | _, _ => .er) | _ => .er := by
    rw [bindR]
    congr 1
    funext r e
    rw [bindR, bindR]
    rfl
  replace p : Pst X.K W cv (rW X.K) F σ e H Z (((f e).bind fun r e => ((g e).bind fun s e => Rs.ok [s.d] e).bind fun ds e => Rs.ok (r.d :: ds) e).bind fun ds e => match ds with | [d1, d2] => (match itD d1, itD d2 with | some l, some m => Rs.ok (zipD l m) e | _, _ => .er) | _ => .er) Q := e1 ▸ p
  refine (p.bind (R1 := rDs X.K) (fun _ _ _ _ _ _ _ _ _ _ _ _ q => q) R).mono fun xs H1 ⟨ds, e1, Z1, R1, k1, q1, p1⟩ => ?_
  cases q1 with
  | nil => exact p1.elim
  | cons q1 qr =>
    cases qr with
    | nil => exact p1.elim
    | cons q2 qr =>
      cases qr with
      | cons _ _ => exact p1.elim
      | nil =>
        rename_i v d v2 d2 _
        cases g1 : itD d with
        | none => simp only [g1] at p1; exact p1.elim
        | some l =>
          cases g2 : itD d2 with
          | none => simp only [g1, g2] at p1; exact p1.elim
          | some l2 =>
            simp only [g1, g2] at p1
            obtain ⟨k, a, xs, rfl, h1, h2⟩ := dv_seq q1 g1
            obtain ⟨k', a', xs', rfl, h1', h2'⟩ := dv_seq q2 g2
            exact ⟨k, k', a, a', xs, xs', rfl, Sk.at_mono hid_sub h1, Sk.at_mono hid_sub h1', p1 _ H1 Z1 R1 .refl (wlk_zip h1 h2 h1' h2')⟩
theorem pi_rng1D {x : Expr} {f : Ev → Rs Op} {p pos : Pos} (hg : Gl X "range") (hm : X.mg "range" = none) (hpl : isPl x = true) (h : PE X x (tO X.K W cv f)) :
    PI X tg (.Call (.Name "range" p) [x] [] pos) (tI X.K W cv fun e => (f e).bind fun x e => oneI x e fun d => match d with | .int b => if ok63 b = true then some (rangeD 0 b) else none | _ => none) := (pi_range1 hg hm (pa_cons h pa_nil (star1 hpl _ _)) (star1 hpl _ _)).imp fun σ H Q ⟨F, e, Z, R, p⟩ => by
  refine ⟨F, e, Z, R, (Pst.bind (R1 := rO X.K) (R2 := rW X.K) (fun _ _ _ _ _ _ _ _ _ _ _ _ q => q) R p).mono fun v H1 ⟨o, e1, Z1, R1, k1, q1, p1⟩ => ?_⟩
  show ∃ j : Int, [v] = [V.int j] ∧ _
  unfold oneI at p1
  cases g : o.get e1 with
  | none => rw [g] at p1; exact p1.elim
  | some d =>
    rw [g] at p1
    cases d with
    | int b =>
      have c := (q1.get R1 g).full
      cases c
      by_cases hb : ok63 b = true
      · simp only [hb, if_true] at p1
        have hb' : -(2 ^ 62) ≤ b ∧ b < 2 ^ 62 := of_decide_eq_true hb
        have q := p1 _ H1 Z1 R1 .refl (wlk_range (lo := 0) (hi := b))
        rw [Int.sub_zero] at q
        exact ⟨b, rfl, hb'.1, hb'.2, q⟩
      · simp only [hb] at p1
        exact p1.elim
    | _ => exact p1.elim
theorem pi_rng2D {x y : Expr} {f g : Ev → Rs Op} {p pos : Pos} (hg : Gl X "range") (hm : X.mg "range" = none) (hpl : isPl x = true) (hpl2 : isPl y = true) (h : PE X x (tO X.K W cv f)) (h2 : PE X y (tO X.K W cv g)) :
    PI X tg (.Call (.Name "range" p) [x, y] [] pos) (tI X.K W cv fun e => (f e).bind fun x e => (g e).bind fun y e => match x.get e, y.get e with
    | some (.int i), some (.int j) => if ok63 i = true ∧ ok63 j = true then .ok (rangeD i j) e else .er
    | _, _ => .er) := (pi_range2 hg hm (pa_cons h (pa_cons h2 pa_nil (star1 hpl2 _ _)) (star1 hpl _ _)) (by rw [star1 hpl, star1 hpl2]; rfl) (star1 hpl2 _ _)).imp fun σ H Q ⟨F, e, Z, R, p⟩ => by
  refine ⟨F, e, Z, R, (Pst.bind (R1 := rO X.K) (R2 := rW X.K) (fun _ _ _ _ _ _ _ _ _ _ _ _ q => q) R p).mono fun v H1 ⟨o, e1, Z1, R1, k1, q1, p1⟩ => ?_⟩
  refine ⟨F, e1, Z1, R1, (Pst.bind (R1 := rO X.K) (R2 := rW X.K) (fun _ _ _ _ _ _ _ _ _ _ _ _ q => q) R1 p1).mono fun v2 H2 ⟨o2, e2, Z2, R2, k2, q2, p2⟩ => ?_⟩
  show ∃ i j : Int, [v, v2] = [V.int i, V.int j] ∧ _
  have q1' := q1.keep R1 k2
  cases g1 : o.get e2 with
  | none => rw [g1] at p2; exact p2.elim
  | some d =>
    cases d with
    | int i =>
      cases g2 : o2.get e2 with
      | none => rw [g1, g2] at p2; exact p2.elim
      | some d2 =>
        cases d2 with
        | int j =>
          rw [g1, g2] at p2
          have c1 := (q1'.get R2 g1).full
          have c2 := (q2.get R2 g2).full
          cases c1
          cases c2
          by_cases hb : ok63 i = true ∧ ok63 j = true
          · simp only [hb, and_self, if_true] at p2
            have hi : -(2 ^ 62) ≤ i ∧ i < 2 ^ 62 := of_decide_eq_true hb.1
            have hj : -(2 ^ 62) ≤ j ∧ j < 2 ^ 62 := of_decide_eq_true hb.2
            exact ⟨i, j, rfl, ⟨hi.1, hi.2, hj.1, hj.2⟩, p2 _ H2 Z2 R2 .refl wlk_range⟩
          · simp only [hb, if_false] at p2
            exact p2.elim
        | _ => rw [g1, g2] at p2; exact p2.elim
    | _ => rw [g1] at p2; exact p2.elim
end
end Cr
set_option Elab.async false
set_option linter.all false
set_option maxRecDepth 100000
set_option maxHeartbeats 4000000
namespace Cr
open PySem PySem.Spec PyProof.Rows L2
/-! ### a block's own slots -/
section
variable {X : Cx} {K : PySem.W.Frag} {W : WX} {cv : Nat → Value} {F : Fr} {e e' e1 : Ev} {σ σ' : L2.St} {H H' : Hp} {Z Z' : Addr → Prop}
theorem Rel.put1 {i : Nat} (R : Rel K F e σ H Z) (hs : e[i]? = some .un ∨ ∃ d, e[i]? = some (.val d)) : Rel K F (e.set i .un) (σ.set i none) H Z ∧ (∀ a, MutAt (e.set i .un) (σ.set i none) a ↔ MutAt e σ a) := by
  have so : ∀ j, j ≠ i → (σ.set i none)[j]? = σ[j]? := fun j hj => List.getElem?_set_ne (Ne.symm hj)
  have mm : ∀ {j : Nat} {b : Bool} {d : D}, (e.set i .un)[j]? = some (Sl.mu b d) ↔ (j ≠ i ∧ e[j]? = some (Sl.mu b d)) := fun {j b d} => by
    constructor
    · intro h
      rcases getElem?_set' h with ⟨_, q⟩ | q
      · cases q
      · exact q
    · intro ⟨h1, h2⟩
      rw [List.getElem?_set_ne (Ne.symm h1)]
      exact h2
  have ni : ∀ {j : Nat} {b : Bool} {d : D}, e[j]? = some (Sl.mu b d) → j ≠ i := fun {j b d} h q => by
    subst q
    rcases hs with w | ⟨_, w⟩ <;> (rw [w] at h; cases h)
  refine ⟨⟨by rw [List.length_set, List.length_set]; exact R.len, fun j s h => ?_, fun j k b d b' d' a h1 h2 h3 h4 => ?_, R.zs, R.kz, R.zn, R.fr, R.lz, R.th, R.z0⟩, fun a => ⟨fun ⟨j, b, d, h1, h2⟩ => ?_, fun ⟨j, b, d, h1, h2⟩ => ?_⟩⟩
  · rcases getElem?_set' h with ⟨q1, q2⟩ | ⟨q1, q2⟩
    · subst q2; trivial
    · rw [so j q1]; exact R.sl j s q2
  · obtain ⟨p1, p2⟩ := mm.mp h1
    obtain ⟨p3, p4⟩ := mm.mp h2
    rw [so j p1] at h3
    rw [so k p3] at h4
    exact R.ds j k b d b' d' a p2 p4 h3 h4
  · obtain ⟨p1, p2⟩ := mm.mp h1
    rw [so j p1] at h2
    exact ⟨j, b, d, p2, h2⟩
  · exact ⟨j, b, d, mm.mpr ⟨ni h1, h1⟩, by rw [so j (ni h1)]; exact h2⟩
theorem Rel.wipe {own : List Nat} : ∀ {e1 : Ev}, Rel K F e σ H Z → wipeE e own = some e1 → Rel K F e1 (L2.wipe σ own) H Z ∧ (∀ a, MutAt e1 (L2.wipe σ own) a ↔ MutAt e σ a) ∧ ∀ j ∈ own, e[j]? = some .un ∨ ∃ d, e[j]? = some (Sl.val d) := by
  induction own with
  | nil => intro e1 R h; cases h; exact ⟨R, fun _ => Iff.rfl, fun j hj => by cases hj⟩
  | cons i r ih =>
    intro e1 R h
    have h' : ((wipeE e r).bind fun e' => match e'[i]? with
      | some .un => some e'
      | some (.val _) => some (e'.set i .un)
      | _ => none) = some e1 := h
    cases w : wipeE e r with
    | none => rw [w] at h'; cases h'
    | some e2 =>
      rw [w] at h'
      obtain ⟨R2, m2, o2⟩ := ih R w
      replace h' : (match e2[i]? with
        | some .un => some e2
        | some (.val _) => some (e2.set i .un)
        | _ => none) = some e1 := h'
      -- e2 at i tells of e at i
      have back : ∀ {r : List Nat} {e2 : Ev} {i : Nat}, wipeE e r = some e2 → (e2[i]? = some .un ∨ ∃ d, e2[i]? = some (Sl.val d)) → (e[i]? = some .un ∨ ∃ d, e[i]? = some (Sl.val d)) := by
        intro r
        induction r with
        | nil => intro e2 i w q; cases w; exact q
        | cons k r ih =>
          intro e2 i w q
          have w' : ((wipeE e r).bind fun e' => match e'[k]? with
            | some .un => some e'
            | some (.val _) => some (e'.set k .un)
            | _ => none) = some e2 := w
          cases g : wipeE e r with
          | none => rw [g] at w'; cases w'
          | some e3 =>
            rw [g] at w'
            replace w' : (match e3[k]? with
              | some .un => some e3
              | some (.val _) => some (e3.set k .un)
              | _ => none) = some e2 := w'
            split at w'
            · cases w'; exact ih g q
            · rename_i d hd
              cases w'
              by_cases hk : i = k
              · subst hk; exact ih g (.inr ⟨d, hd⟩)
              · rw [List.getElem?_set_ne (Ne.symm hk)] at q; exact ih g q
            · cases w'
      split at h'
      · rename_i hu
        cases h'
        obtain ⟨R3, m3⟩ := R2.put1 (.inl hu)
        have es : e1.set i .un = e1 := by
          apply List.ext_getElem?
          intro j
          by_cases q : j = i
          · subst q
            rw [List.getElem?_set_self (List.getElem?_eq_some_iff.mp hu).1, hu]
          · rw [List.getElem?_set_ne (Ne.symm q)]
        rw [es] at R3 m3
        exact ⟨R3, fun a => (m3 a).trans (m2 a), fun j hj => by
          rcases List.mem_cons.mp hj with rfl | hj
          · exact back w (.inl hu)
          · exact o2 j hj⟩
      · rename_i d hd
        cases h'
        obtain ⟨R3, m3⟩ := R2.put1 (.inr ⟨d, hd⟩)
        exact ⟨R3, fun a => (m3 a).trans (m2 a), fun j hj => by
          rcases List.mem_cons.mp hj with rfl | hj
          · exact back w (.inr ⟨d, hd⟩)
          · exact o2 j hj⟩
      · cases h'
theorem unwipe_len {e0 e : Ev} : ∀ own : List Nat, (unwipe e0 e own).length = e.length
  | [] => rfl
  | i :: r => by unfold unwipe; rw [List.length_set, unwipe_len r]
theorem unwipe_out {e0 e : Ev} {j : Nat} : ∀ {own : List Nat}, j ∉ own → (unwipe e0 e own)[j]? = e[j]?
  | [], _ => rfl
  | i :: r, h => by
    unfold unwipe
    rw [List.getElem?_set_ne (fun q => h (by rw [q]; exact List.mem_cons_self)), unwipe_out fun m => h (List.mem_cons_of_mem _ m)]
theorem unwipe_in {e0 e : Ev} {j : Nat} (hj : j < e.length) (h0 : j < e0.length) : ∀ {own : List Nat}, j ∈ own → (unwipe e0 e own)[j]? = e0[j]?
  | i :: r, h => by
    unfold unwipe
    by_cases q : i = j
    · subst q
      rw [List.getElem?_set_self (by rw [unwipe_len]; exact hj), List.getElem?_eq_getElem h0]
      rfl
    · rw [List.getElem?_set_ne q]
      exact unwipe_in hj h0 (by rcases List.mem_cons.mp h with w | w; exact absurd w.symm q; exact w)
/-- back from a block -/
theorem Rel.unwipe {own : List Nat} {e0 : Ev} {H0 : Hp} {Z0 : Addr → Prop} (R0 : Rel K F e0 σ H0 Z0) (ho : ∀ j ∈ own, e0[j]? = some .un ∨ ∃ d, e0[j]? = some (Sl.val d)) (R : Rel K F e (L2.wipe σ own) H Z) (l : Le H0 Z0 H Z) :
    Rel K F (Cr.unwipe e0 e own) σ H Z ∧ ∀ a, MutAt (Cr.unwipe e0 e own) σ a → MutAt e (L2.wipe σ own) a := by
  have hl : e.length = e0.length := by rw [R.len, wipe_length, R0.len]
  have get : ∀ {j : Nat} {s : Sl}, (Cr.unwipe e0 e own)[j]? = some s → (j ∈ own ∧ e0[j]? = some s) ∨ (j ∉ own ∧ e[j]? = some s) := fun {j s} h => by
    have hj : j < e.length := by
      have := (List.getElem?_eq_some_iff.mp h).1
      rw [unwipe_len] at this
      exact this
    by_cases q : j ∈ own
    · rw [unwipe_in hj (by rw [← hl]; exact hj) q] at h
      exact .inl ⟨q, h⟩
    · rw [unwipe_out q] at h
      exact .inr ⟨q, h⟩
  have mu : ∀ {j : Nat} {b : Bool} {d : D}, (Cr.unwipe e0 e own)[j]? = some (Sl.mu b d) → j ∉ own ∧ e[j]? = some (Sl.mu b d) := fun {j b d} h => by
    rcases get h with ⟨q1, q2⟩ | q
    · rcases ho j q1 with w | ⟨_, w⟩ <;> (rw [w] at q2; cases q2)
    · exact q
  refine ⟨⟨by rw [unwipe_len, R.len, wipe_length], fun j s h => ?_, fun j k b d b' d' a h1 h2 h3 h4 => ?_, R.zs, R.kz, R.zn, R.fr, R.lz, R.th, R.z0⟩, fun a ⟨j, b, d, h1, h2⟩ => ?_⟩
  · rcases get h with ⟨q1, q2⟩ | ⟨q1, q2⟩
    · have sr := R0.sl j s q2
      rcases ho j q1 with w | ⟨d, w⟩
      · rw [w] at q2; cases q2; trivial
      · rw [w] at q2
        cases q2
        obtain ⟨v, e1, r⟩ := sr
        exact ⟨v, e1, Dv.le l r⟩
    · have sr := R.sl j s q2
      rw [wipe_out q1] at sr
      exact sr
  · obtain ⟨p1, p2⟩ := mu h1
    obtain ⟨p3, p4⟩ := mu h2
    exact R.ds j k b d b' d' a p2 p4 (by rw [wipe_out p1]; exact h3) (by rw [wipe_out p3]; exact h4)
  · obtain ⟨p1, p2⟩ := mu h1
    exact ⟨j, b, d, p2, by rw [wipe_out p1]; exact h2⟩
/-- a hidden object that no slot owns is written -/
theorem Rel.putH {a : Addr} {u : HO} (R : Rel K F e σ H Z) (z : Z a) (m : ¬ MutAt e σ a) (f : F.H0 a = none) : Rel K F e σ (upd H a u) Z := by
  have hh : hid Z (upd H a u) = hid Z H := hid_put z
  have none_upd : ∀ x, H x ≠ none → upd H a u x ≠ none := fun x h => by
    by_cases q : x = a
    · subst q; rw [upd_same]; simp
    · rw [upd_ne q]; exact h
  refine ⟨R.len, fun j s h => (R.sl j s h).mono (by rw [hh]; exact Sub.refl) fun b d x e1 e2 => ?_, R.ds, fun x h => none_upd x (R.zs x h), R.kz, R.zn, fun x o h1 h2 => ?_, R.lz, fun x h => none_upd x (R.th x h), R.z0⟩
  · subst e1
    have mx : MutAt e σ x := ⟨j, b, d, h, e2⟩
    exact ⟨R.mutZ mx, upd_ne fun q => m (q ▸ mx)⟩
  · rw [upd_ne fun q => by subst q; rw [f] at h1; cases h1]
    exact R.fr x o h1 h2
/-! ### comprehensions -/
def WF : WX := fun _ _ _ _ => False
theorem pst_noEx {α β : Type} {R : RelT α β} {m : Rs α} {Q : β → Hp → Prop} (p : Pst K W cv R F σ e H Z (noEx m) Q) : Pst K WF cv R F σ e H Z m Q := by
  cases m with
  | ok a e => exact p
  | ex x e => exact p.elim
  | er => exact p
theorem wipe_same {own S : List Nat} (h : ∀ j : Nat, j ∉ S → σ'[j]? = σ[j]?) (hS : ∀ j ∈ S, j ∈ own) (hl : σ'.length = σ.length) : L2.wipe σ' own = L2.wipe σ own := by
  have wi : ∀ {σ : L2.St} {vs : List Nat} {j : Nat}, j ∈ vs → j < σ.length → (L2.wipe σ vs)[j]? = some none := by
    intro σ vs
    induction vs with
    | nil => intro j h _; cases h
    | cons v vs ih =>
      intro j h hl
      unfold L2.wipe
      by_cases q : v = j
      · subst q
        rw [List.getElem?_set_self (by rw [wipe_length]; exact hl)]
      · rw [List.getElem?_set_ne q]
        exact ih (by rcases List.mem_cons.mp h with w | w; exact absurd w.symm q; exact w) hl
  apply List.ext_getElem?
  intro j
  by_cases q : j ∈ own
  · by_cases hj : j < σ.length
    · rw [wi q hj, wi q (by rw [hl]; exact hj)]
    · rw [List.getElem?_eq_none (by rw [wipe_length, hl]; omega), List.getElem?_eq_none (by rw [wipe_length]; omega)]
  · rw [wipe_out q, wipe_out q]
    exact h j fun w => q (hS j w)
theorem wipe_wipe {own : List Nat} : L2.wipe (L2.wipe σ own) own = L2.wipe σ own := wipe_same (S := own) (fun j hj => wipe_out hj) (fun j hj => hj) (wipe_length _ _)
/-- the state between two turns -/
structure LcI (K : PySem.W.Frag) (F : Fr) (σw : L2.St) (e0 : Ev) (H0 : Hp) (Z0 : Addr → Prop) (Dn : Addr) (e : Ev) (H : Hp) (Z : Addr → Prop) (acc : List D) : Prop where
  rel : Rel K F e σw H Z
  z : Z Dn
  nm : ¬ MutAt e σw Dn
  cell : Cell K (hid Z H) H Dn (.list acc)
  ka : Ka (fun a => a = Dn) e0 σw H0 Z0 e σw H Z
theorem lc_red {own S : List Nat} {fi : Ev → Rs (List D)} {asg : Rv → Ev → Rs Unit} {c : Ev → Rs Bool} {f : Ev → Rs Rv} {Q : VK} (hS : ∀ j ∈ S, j ∈ own)
    (w : tE K W cv (fun e => (fi e).bind fun items e => wipeK own e fun e1 => (noEx (compL own (fun d e => asg (.fz d) e) c f items [] e1)).bind fun acc e2 => .ok (.fr (.list acc)) (unwipe e e2 own)) σ H Q) :
    tLc (tI K W cv fi) (tA K WF cv S asg) (tT K WF cv c) (tE K WF cv f) own σ H Q := by
  obtain ⟨F, e, Z, R, p⟩ := w
  refine ⟨F, e, Z, R, (Pst.bind (R1 := rW K) (R2 := rE K) (fun _ _ _ _ _ _ _ _ _ _ k _ q => trE k q) R p).mono fun J H1 ⟨items, e1, Z1, R1, k1, wk, p1⟩ => ?_⟩
  intro Dn hDn
  unfold wipeK at p1
  cases hw : wipeE e1 own with
  | none => rw [hw] at p1; exact p1.elim
  | some ew =>
    rw [hw] at p1
    obtain ⟨Rw, mw, ow⟩ := R1.wipe hw
    cases hrun : compL own (fun d e => asg (.fz d) e) c f items [] ew with
    | er => simp only [hrun] at p1; exact p1.elim
    | ex x e' => simp only [hrun] at p1; exact p1.elim
    | ok accF eF =>
      simp only [hrun] at p1
      have hD0 : F.H0 Dn = none := by
        cases q : F.H0 Dn with
        | none => rfl
        | some o => exact absurd hDn (R1.th Dn (by rw [q]; simp))
      -- the start
      have hno : ¬ MutAt ew (L2.wipe σ own) Dn := fun m => R1.zs Dn (Rw.mutZ m) hDn
      have start : LcI K F (L2.wipe σ own) ew H1 Z1 Dn ew (upd H1 Dn (.lst [])) (fun a => Z1 a ∨ a = Dn) [] := by
        obtain ⟨Rg, kg⟩ := Rw.grow (H' := upd H1 Dn (.lst [])) (Z' := fun a => Z1 a ∨ a = Dn) (sub_upd hDn) (fun _ z => .inl z) fun a z => by
          rcases z with z | z
          · exact .inl z
          · subst z; exact .inr ⟨hDn, by rw [upd_same]; simp⟩
        exact ⟨Rg, .inr rfl, hno, ⟨[], upd_same, .nil⟩, Ka.of kg⟩
      refine ⟨fun i m H => m = items.length - i ∧ i ≤ items.length ∧ ∃ e Z acc, LcI K F (L2.wipe σ own) ew H1 Z1 Dn e H Z acc ∧ compL own (fun d e => asg (.fz d) e) c f (items.drop i) acc e = .ok accF eF, ⟨items.length, by simp, Nat.zero_le _, ew, _, [], start, hrun⟩, ?_⟩
      rintro i m Hi ⟨rfl, hi, ei, Zi, acc, L, hr⟩
      have hle : Le H1 Z1 Hi Zi := by
        refine ⟨fun a o q => ?_, L.ka.th⟩
        obtain ⟨z, q⟩ := hid_some.mp q
        have ne : a ≠ Dn := fun w => by subst w; rw [hDn] at q; cases q
        obtain ⟨q1, z1, _⟩ := L.ka.keep a o q (fun m => z (Rw.mutZ m)) ne
        exact hid_some.mpr ⟨fun w => z (z1.mp w), q1⟩
      by_cases hlt : i < items.length
      · refine .inr ⟨wk.go i Hi Zi hle hlt, fun H' => i + 1 ≤ items.length ∧ ∃ e Z acc, LcI K F (L2.wipe σ own) ew H1 Z1 Dn e H' Z acc ∧ compL own (fun d e => asg (.fz d) e) c f (items.drop (i + 1)) acc e = .ok accF eF, fun H' q => ⟨items.length - (i + 1), by omega, rfl, q.1, q.2⟩, fun x H2 hy => ?_⟩
        have hd : items[i]? = some items[i] := List.getElem?_eq_getElem hlt
        have nw := wk.yld i Hi Zi x H2 items[i] hle hd hy
        obtain ⟨Z2, R2, k2, q2⟩ := new_ok L.rel nw
        obtain ⟨oD, hoD⟩ := L.cell.some
        rw [List.drop_eq_getElem_cons hlt] at hr
        -- what is kept of the new list
        have d2 := k2.keep Dn oD hoD L.nm
        refine ⟨F, ei, Z2, .fz items[i], R2, q2.1, ?_⟩
        have hr' : ((asg (.fz items[i]) ei).bind fun _ e => (c e).bind fun b e => if b = true then (f e).bind fun v e => if acc.length < sizeLine then wipeK own e fun e => compL own (fun d e => asg (.fz d) e) c f (items.drop (i + 1)) (acc ++ [v.d]) e else .er
          else wipeK own e fun e => compL own (fun d e => asg (.fz d) e) c f (items.drop (i + 1)) acc e) = .ok accF eF := hr
        cases g3 : asg (.fz items[i]) ei with
        | er => rw [g3] at hr'; cases hr'
        | ex _ _ => rw [g3] at hr'; cases hr'
        | ok u3 e3 =>
          rw [g3] at hr'
          intro σ3 H3 Z3 R3 k3 s3
          have ww : L2.wipe σ3 own = L2.wipe σ own := (wipe_same s3.at' hS s3.len).trans wipe_wipe
          refine ⟨ww, F, e3, Z3, R3, ?_⟩
          have np : ∀ a, ¬ Pf x (.fz items[i]) a := fun a ⟨d, q, _⟩ => by cases q
          have d3 := k3.keep Dn oD d2.1 d2.2.2 (np Dn)
          have kz3 : Ka (fun a => a = Dn) ew (L2.wipe σ own) H1 Z1 e3 σ3 H3 Z3 := (L.ka.trans (Ka.of k2)).trans ⟨fun a o q m _ => k3.keep a o q m (np a), k3.th⟩
          have le2 : Le Hi Zi H3 Z3 := (k2.le L.rel).trans (k3.le R2 fun a h => absurd h (np a))
          replace hr' : ((c e3).bind fun b e => if b = true then (f e).bind fun v e => if acc.length < sizeLine then wipeK own e fun e => compL own (fun d e => asg (.fz d) e) c f (items.drop (i + 1)) (acc ++ [v.d]) e else .er
            else wipeK own e fun e => compL own (fun d e => asg (.fz d) e) c f (items.drop (i + 1)) acc e) = .ok accF eF := hr'
          -- a turn's end
          have fin : ∀ {e9 : Ev} {H9 : Hp} {Z9 : Addr → Prop} {acc9 : List D}, Rel K F e9 σ3 H9 Z9 → Z9 Dn → ¬ MutAt e9 σ3 Dn → Cell K (hid Z9 H9) H9 Dn (.list acc9) → Ka (fun a => a = Dn) ew (L2.wipe σ own) H1 Z1 e9 σ3 H9 Z9 →
              wipeK own e9 (fun e => compL own (fun d e => asg (.fz d) e) c f (items.drop (i + 1)) acc9 e) = .ok accF eF → i + 1 ≤ items.length ∧ ∃ e Z acc, LcI K F (L2.wipe σ own) ew H1 Z1 Dn e H9 Z acc ∧ compL own (fun d e => asg (.fz d) e) c f (items.drop (i + 1)) acc e = .ok accF eF := by
            intro e9 H9 Z9 acc9 R9 z9 m9 c9 ka9 h9
            refine ⟨hlt, ?_⟩
            unfold wipeK at h9
            cases g9 : wipeE e9 own with
            | none => rw [g9] at h9; cases h9
            | some e10 =>
              rw [g9] at h9
              obtain ⟨R10, m10, _⟩ := R9.wipe g9
              rw [ww] at R10 m10
              exact ⟨e10, Z9, acc9, ⟨R10, z9, fun m => m9 ((m10 _).mp m), c9, ⟨fun a o q m p => by
                obtain ⟨q1, q2, q3⟩ := ka9.keep a o q m p
                exact ⟨q1, q2, fun m' => q3 ((m10 a).mp m')⟩, ka9.th⟩⟩, h9⟩
          cases g4 : c e3 with
          | er => rw [g4] at hr'; cases hr'
          | ex _ _ => rw [g4] at hr'; cases hr'
          | ok b e4 =>
            rw [g4] at hr'
            intro b' H4 Z4 R4 k4 eb
            subst eb
            have d4 := k4.keep Dn oD d3.1 d3.2.2
            have kz4 := kz3.trans (Ka.of (P := fun a => a = Dn) k4)
            have le4 := le2.trans (k4.le R3)
            have zD4 : Z4 Dn := d4.2.1.mpr (d3.2.1.mpr (d2.2.1.mpr L.z))
            have cell4 : Cell K (hid Z4 H4) H4 Dn (.list acc) := L.cell.le le4.sub (d4.1.trans hoD.symm)
            cases b' with
            | false => exact fin R4 zD4 d4.2.2 cell4 kz4 hr'
            | true =>
              replace hr' : ((f e4).bind fun v e => if acc.length < sizeLine then wipeK own e fun e => compL own (fun d e => asg (.fz d) e) c f (items.drop (i + 1)) (acc ++ [v.d]) e else .er) = .ok accF eF := hr'
              show tE K WF cv f σ3 H4 _
              refine ⟨F, e4, Z4, R4, ?_⟩
              cases g5 : f e4 with
              | er => rw [g5] at hr'; cases hr'
              | ex _ _ => rw [g5] at hr'; cases hr'
              | ok r e5 =>
                rw [g5] at hr'
                intro y H5 Z5 R5 k5 q5
                obtain ⟨Z6, R6, k6, dv⟩ := q5.freeze R5 k5
                have d6 := k6.keep Dn oD d4.1 d4.2.2
                have kz6 := kz4.trans (Ka.of (P := fun a => a = Dn) k6)
                have zD6 : Z6 Dn := d6.2.1.mpr zD4
                have cell6 : Cell K (hid Z6 H5) H5 Dn (.list acc) := cell4.le (k6.le R4).sub (d6.1.trans d4.1.symm)
                obtain ⟨xs, hx, rx⟩ := cell6
                replace hr' : (if acc.length < sizeLine then wipeK own e5 fun e => compL own (fun d e => asg (.fz d) e) c f (items.drop (i + 1)) (acc ++ [r.d]) e else .er) = .ok accF eF := hr'
                split at hr'
                · rename_i hz
                  refine ⟨xs, hx, by rw [rx.length]; exact hz, ?_⟩
                  have hh : hid Z6 (upd H5 Dn (.lst (xs ++ [y]))) = hid Z6 H5 := hid_put zD6
                  refine fin (R6.putH zD6 d6.2.2 hD0) zD6 d6.2.2 ⟨xs ++ [y], upd_same, ?_⟩ ⟨fun a o q m p => ?_, fun a q => ?_⟩ hr'
                  · rw [hh]
                    exact rx.append (.cons dv .nil)
                  · rw [upd_ne p]
                    exact kz6.keep a o q m p
                  · by_cases w : a = Dn
                    · subst w; rw [upd_same]; simp
                    · rw [upd_ne w]; exact kz6.th a q
                · cases hr'
      · have e1 : i = items.length := by omega
        subst e1
        rw [List.drop_length] at hr
        have hr' : Rs.ok acc ei = .ok accF eF := hr
        cases hr'
        refine .inl ⟨wk.stop Hi Zi hle, ?_⟩
        obtain ⟨Ru, mu⟩ := R1.unwipe ow L.rel hle
        refine p1 (.ref Dn) Hi Zi Ru ⟨fun a o q m => ?_, L.ka.th⟩ ⟨⟨Dn, rfl, L.z, L.cell, fun m => L.nm (mu _ m), hD0⟩, fun d a _ e2 => by cases e2; exact hDn⟩
        have ne : a ≠ Dn := fun w => by subst w; rw [hDn] at q; cases q
        obtain ⟨q1, z1, m1⟩ := L.ka.keep a o q (fun m' => m ((mw a).mp m')) ne
        exact ⟨q1, z1, fun m' => m1 (mu a m')⟩
end
end Cr
set_option Elab.async false
set_option linter.all false
set_option maxRecDepth 100000
set_option maxHeartbeats 4000000
namespace Cr
open PySem PySem.Spec PyProof.Rows L2
def PstS (K : PySem.W.Frag) (W : WX) (cv : Nat → Value) (F : Fr) (H : Hp) (Z : Addr → Prop) (m : Rs Fl) (D : Ends) : Prop :=
  match m with
  | .ok .nx e' => ∀ σ' H' Z', Rel K F e' σ' H' Z' → Le H Z H' Z' → D.nx σ' H'
  | .ok .bk e' => ∀ σ' H' Z', Rel K F e' σ' H' Z' → Le H Z H' Z' → D.bk σ' H'
  | .ok .ct e' => ∀ σ' H' Z', Rel K F e' σ' H' Z' → Le H Z H' Z' → D.ct σ' H'
  | .ok (.rt r) e' => ∀ v σ' H' Z', Rel K F e' σ' H' Z' → Le H Z H' Z' → RvR K F e' σ' H' Z' v r → D.rt v H'
  | .ex x e' => ∀ σ' H' Z', Rel K F e' σ' H' Z' → Le H Z H' Z' → W (cv x) none σ' H'
  | .er => False
def tS (K : PySem.W.Frag) (W : WX) (cv : Nat → Value) (f : Ev → Rs Fl) : TS := fun D σ H => ∃ F e Z, Rel K F e σ H Z ∧ PstS K W cv F H Z (f e) D
section
variable {X : Cx} {K : PySem.W.Frag} {W : WX} {cv : Nat → Value}
theorem PstS.le {F : Fr} {H H' : Hp} {Z Z' : Addr → Prop} {m : Rs Fl} {D : Ends} (p : PstS K W cv F H Z m D) (l : Le H Z H' Z') : PstS K W cv F H' Z' m D := by
  cases m with
  | er => exact p
  | ex x e => exact fun σ' H2 Z2 R l2 => p σ' H2 Z2 R (l.trans l2)
  | ok f e =>
    cases f with
    | nx => exact fun σ' H2 Z2 R l2 => p σ' H2 Z2 R (l.trans l2)
    | bk => exact fun σ' H2 Z2 R l2 => p σ' H2 Z2 R (l.trans l2)
    | ct => exact fun σ' H2 Z2 R l2 => p σ' H2 Z2 R (l.trans l2)
    | rt r => exact fun v σ' H2 Z2 R l2 => p v σ' H2 Z2 R (l.trans l2)
/-- an expression's run, then a statement's rest -/
theorem PstS.bindE {α β : Type} {R1 : RelT α β} {F : Fr} {σ : L2.St} {e : Ev} {H : Hp} {Z : Addr → Prop} {m : Rs α} {f : α → Ev → Rs Fl} {D : Ends} (R : Rel K F e σ H Z) (h : PstS K W cv F H Z (m.bind f) D) :
    Pst K W cv R1 F σ e H Z m fun b H1 => ∃ a e1 Z1, Rel K F e1 σ H1 Z1 ∧ R1 F σ H a b e1 H1 Z1 ∧ Le H Z H1 Z1 ∧ PstS K W cv F H1 Z1 (f a e1) D := by
  cases m with
  | er => exact h
  | ex x e' => exact fun H' Z' r l => h σ H' Z' r l
  | ok a e1 => exact fun b H1 Z1 r k q => ⟨a, e1, Z1, r, q, k.le R, PstS.le (m := f a e1) h (k.le R)⟩
theorem PstS.bindA {F : Fr} {S : List Nat} {P : Addr → Prop} {σ : L2.St} {e : Ev} {H : Hp} {Z : Addr → Prop} {m : Rs Unit} {f : Ev → Rs Fl} {D : Ends} (R : Rel K F e σ H Z) (hp : ∀ a, P a → Z a) (h : PstS K W cv F H Z (m.bind fun _ e => f e) D) :
    PstA K W cv F S P σ e H Z m fun σ1 H1 => ∃ e1 Z1, Rel K F e1 σ1 H1 Z1 ∧ Le H Z H1 Z1 ∧ PstS K W cv F H1 Z1 (f e1) D := by
  cases m with
  | er => exact h
  | ex x e' => exact h
  | ok a e1 => exact fun σ1 H1 Z1 r k _ => ⟨e1, Z1, r, k.le R hp, PstS.le (m := f e1) h (k.le R hp)⟩
theorem PstA.mono {F : Fr} {S : List Nat} {P : Addr → Prop} {σ : L2.St} {e : Ev} {H : Hp} {Z : Addr → Prop} {m : Rs Unit} {Q Q' : L2.St → Hp → Prop} (h : PstA K W cv F S P σ e H Z m Q) (hq : ∀ σ' H', Q σ' H' → Q' σ' H') : PstA K W cv F S P σ e H Z m Q' := by
  cases m with
  | er => exact h
  | ex x e' => exact h
  | ok a e1 => exact fun σ1 H1 Z1 r k d => hq _ _ (h σ1 H1 Z1 r k d)
/-! ### target = value -/
theorem asg_red {S : List Nat} {f : Ev → Rs Rv} {g : Rv → Ev → Rs Unit} {D : Ends} {σ : L2.St} {H : Hp} (w : tS K W cv (fun e => (f e).bind fun r e => (g r e).bind fun _ e => .ok .nx e) D σ H) : tAsg (tE K W cv f) (tA K W cv S g) D σ H := by
  obtain ⟨F, e, Z, R, p⟩ := w
  refine ⟨F, e, Z, R, (PstS.bindE (R1 := rE K) R p).mono fun v H1 ⟨r, e1, Z1, R1, q1, l1, p1⟩ => ?_⟩
  refine ⟨F, e1, Z1, r, R1, q1.1, (PstS.bindA R1 q1.1.pf p1).mono fun σ2 H2 ⟨e2, Z2, R2, l2, p2⟩ => ?_⟩
  exact p2 σ2 H2 Z2 R2 .refl
theorem gName_red {S : List Nat} {i : Nat} {v : V} {σ : L2.St} {H : Hp} {Q : L2.St → Hp → Prop} (hS : i ∈ S) (w : tA K W cv S (fun r e => store i r.sl e) v σ H Q) : gName i v σ H Q := by
  obtain ⟨F, e, Z, rv, R, q, p⟩ := w
  show Q (σ.set i (some v)) H
  replace p : PstA K W cv F S (Pf v rv) σ e H Z (store i rv.sl e) Q := p
  cases g : store i rv.sl e with
  | er => rw [g] at p; exact p.elim
  | ex x e' => unfold store at g; split at g <;> cases g
  | ok w e' =>
    rw [g] at p
    obtain ⟨R', k⟩ := R.store q g
    exact p _ _ Z R' k ⟨fun j hj => List.getElem?_set_ne fun (e1 : i = j) => hj (e1 ▸ hS), List.length_set⟩
theorem ps_asgD {tg x : Expr} {pos : Pos} {S : List Nat} {f : Ev → Rs Rv} {g : Rv → Ev → Rs Unit} (he : PE X x (tE K W cv f)) (hg : PG X tg (tA K W cv S g)) (hs : swapsWithSole [tg] x pos.line X.env = pure false) (hw : swappedStores [tg] x X.env = pure none)
    (h1 : (assignEach [tg] X.env).map (·.2) = [assign tg X.env]) : PS X (.Assign [tg] x pos) (tS K W cv fun e => (f e).bind fun r e => (g r e).bind fun _ e => .ok .nx e) := (ps_asg he hg hs hw h1).imp fun D σ H w => asg_red w
/-! ### small statements -/
theorem ps_exD {x : Expr} {pos : Pos} {f : Ev → Rs Rv} (he : PE X x (tE K W cv f)) (hs : swapsWith x none pos.line X.env = pure false) : PS X (.Expr x pos) (tS K W cv fun e => (f e).bind fun _ e => .ok .nx e) := (ps_expr he hs).imp fun D σ H ⟨F, e, Z, R, p⟩ => by
  refine ⟨F, e, Z, R, (PstS.bindE (R1 := rE K) R p).mono fun v H1 ⟨r, e1, Z1, R1, q1, l1, p1⟩ => ?_⟩
  exact p1 σ H1 Z1 R1 .refl
theorem ps_retD {x : Expr} {pos : Pos} {f : Ev → Rs Rv} (he : PE X x (tE K W cv f)) : PS X (.Return (some x) pos) (tS K W cv fun e => (f e).bind fun r e => .ok (.rt r) e) := (ps_ret he).imp fun D σ H ⟨F, e, Z, R, p⟩ => by
  refine ⟨F, e, Z, R, (PstS.bindE (R1 := rE K) R p).mono fun v H1 ⟨r, e1, Z1, R1, q1, l1, p1⟩ => ?_⟩
  exact p1 v σ H1 Z1 R1 .refl q1.1
/-- a name's own list is handed out -/
theorem ps_retV {x : Expr} {pos : Pos} {i : Nat} (he : PE X x (tVar i)) : PS X (.Return (some x) pos) (tS K W cv fun e => (evRet (.var i) (rdA i) e).bind fun r e => .ok (.rt r) e) := by
  have h1 := ps_ret (pos := pos) he
  have h2 := ps_retD (pos := pos) (pe_rd (K := K) (W := W) (cv := cv) he)
  refine ⟨fun pins s σ H D I ⟨F, e, Z, R, p⟩ => ?_⟩
  by_cases hm : ∃ d, e[i]? = some (Sl.mu false d)
  · obtain ⟨d, hd⟩ := hm
    refine h1.run pins s σ H D I ?_
    replace p : PstS K W cv F H Z ((evRet (.var i) (rdA i) e).bind fun r e => .ok (.rt r) e) D := p
    have e1 : evRet (.var i) (rdA i) e = .ok (.fr d) (e.set i .un) := by
      unfold evRet
      simp only [hd]
    rw [e1] at p
    obtain ⟨a, ha, z, c, _, f2⟩ := R.sl i _ hd
    refine ⟨_, ha, ?_⟩
    obtain ⟨R1, m1⟩ := R.setSlot (i := i) (s := .un) trivial fun _ _ h => by cases h
    refine p (V.ref a) σ H Z R1 .refl ⟨a, rfl, z, c, fun ⟨j, b', d', w1, w2⟩ => ?_, f2 rfl⟩
    rcases getElem?_set' w1 with ⟨_, w⟩ | ⟨hj, w⟩
    · cases w
    · exact hj (R.ds j i b' d' false d a w hd w2 ha)
  · refine h2.run pins s σ H D I ⟨F, e, Z, R, ?_⟩
    replace p : PstS K W cv F H Z ((evRet (.var i) (rdA i) e).bind fun r e => .ok (.rt r) e) D := p
    have e1 : evRet (.var i) (rdA i) e = rdA i e := by
      unfold evRet
      dsimp only
      split
      · rename_i d hd
        exact absurd ⟨d, hd⟩ hm
      · rfl
    rw [e1] at p
    exact p
theorem ps_retND {pos : Pos} : PS X (.Return none pos) (tS K W cv fun e => .ok (.rt (.fz .none)) e) := ps_retN.imp fun D σ H ⟨F, e, Z, R, p⟩ => p .non σ H Z R .refl .non
theorem ps_passD {pos : Pos} : PS X (.Pass pos) (tS K W cv fun e => .ok .nx e) := ps_pass.imp fun D σ H ⟨F, e, Z, R, p⟩ => p σ H Z R .refl
theorem ps_docD {x j pos pos'} : PS X (.Expr (.Constant (.str x) j pos) pos') (tS K W cv fun e => .ok .nx e) := ps_doc.imp fun D σ H ⟨F, e, Z, R, p⟩ => p σ H Z R .refl
theorem ps_brkD {pos : Pos} : PS X (.Break pos) (tS K W cv fun e => .ok .bk e) := ps_break.imp fun D σ H ⟨F, e, Z, R, p⟩ => p σ H Z R .refl
theorem ps_contD {pos : Pos} : PS X (.Continue pos) (tS K W cv fun e => .ok .ct e) := ps_continue.imp fun D σ H ⟨F, e, Z, R, p⟩ => p σ H Z R .refl
theorem pss_nilD : PSs X [] (tS K W cv fun e => .ok .nx e) := pss_nil.imp fun D σ H ⟨F, e, Z, R, p⟩ => p σ H Z R .refl
theorem pss_consD {s : Stmt} {ss : List Stmt} {f g : Ev → Rs Fl} (h1 : PS X s (tS K W cv f)) (h2 : PSs X ss (tS K W cv g)) : PSs X (s :: ss) (tS K W cv fun e => (f e).bind fun r e => match r with
    | .nx => g e
    | r => .ok r e) := (pss_cons h1 h2).imp fun D σ H ⟨F, e, Z, R, p⟩ => by
  refine ⟨F, e, Z, R, ?_⟩
  replace p : PstS K W cv F H Z ((f e).bind fun r e => match r with | .nx => g e | r => .ok r e) D := p
  cases w : f e with
  | er => rw [w] at p; exact p
  | ex x e' => rw [w] at p; exact p
  | ok r e1 =>
    rw [w] at p
    cases r with
    | nx =>
      intro σ1 H1 Z1 R1 l1
      exact ⟨F, e1, Z1, R1, PstS.le (m := g e1) p l1⟩
    | bk => exact p
    | ct => exact p
    | rt r => exact p
theorem ps_ifD {c : Expr} {a b : List Stmt} {pos : Pos} {t : Ev → Rs Bool} {f g : Ev → Rs Fl} (hc : PT X c (tT K W cv t)) (ha : PSs X a (tS K W cv f)) (hb : PSs X b (tS K W cv g)) : PS X (.If c a b pos) (tS K W cv fun e => (t e).bind fun q e => if q = true then f e else g e) := (ps_if hc ha hb).imp fun D σ H ⟨F, e, Z, R, p⟩ => by
  refine ⟨F, e, Z, R, (PstS.bindE (R1 := rB) R p).mono fun c H1 ⟨t, e1, Z1, R1, q1, l1, p1⟩ => ?_⟩
  subst q1
  cases c with
  | true => exact ⟨F, e1, Z1, R1, p1⟩
  | false => exact ⟨F, e1, Z1, R1, p1⟩
theorem ps_raiseD {x : Expr} {i : Nat} {pos : Pos} (hc : X.calm = true) (tk : Takes X W) (h : PMk X x fun _ H Q => Q (cv i) none H) : PS X (.Raise (some x) none pos) (tS K W cv fun e => .ex i e) := (ps_raise hc tk h).imp fun D σ H ⟨F, e, Z, R, p⟩ => p σ H Z R .refl
/-! ### loops -/
theorem ps_whileD {c : Expr} {b : List Stmt} {pos : Pos} {n : Nat} {t : Ev → Rs Bool} {f : Ev → Rs Fl} (hp : PassesOwn (model X.prog X.w) X.A X.env X.xe) (hc : PT X c (tT K W cv t)) (hb : PSs X b (tS K W cv f)) : PS X (.While c b [] pos) (tS K W cv fun e => whileL t f n e) := (ps_while hp hc hb).imp fun D σ H ⟨F, e, Z, R, p⟩ => by
  refine ⟨fun m σ H => ∃ e Z, Rel K F e σ H Z ∧ PstS K W cv F H Z (whileL t f m e) D, ⟨n, e, Z, R, p⟩, ?_⟩
  rintro m σ H ⟨e, Z, R, p⟩
  cases m with
  | zero => exact p.elim
  | succ m =>
    replace p : PstS K W cv F H Z ((t e).bind fun b e => if b = true then (f e).bind fun r e => match r with
      | .nx => whileL t f m e
      | .ct => whileL t f m e
      | .bk => .ok .nx e
      | .rt v => .ok (.rt v) e
      else .ok .nx e) D := p
    refine ⟨F, e, Z, R, (PstS.bindE (R1 := rB) R p).mono fun c H1 ⟨t', e1, Z1, R1, q1, l1, p1⟩ => ?_⟩
    subst q1
    cases c with
    | false => exact p1 σ H1 Z1 R1 .refl
    | true =>
      refine ⟨fun σ H => ∃ e Z, Rel K F e σ H Z ∧ PstS K W cv F H Z (whileL t f m e) D, fun σ' H' q => ⟨m, Nat.lt_succ_self _, q⟩, F, e1, Z1, R1, ?_⟩
      replace p1 : PstS K W cv F H1 Z1 ((f e1).bind fun r e => match r with
        | .nx => whileL t f m e
        | .ct => whileL t f m e
        | .bk => .ok .nx e
        | .rt v => .ok (.rt v) e) D := p1
      cases w : f e1 with
      | er => rw [w] at p1; exact p1
      | ex x e' => rw [w] at p1; exact p1
      | ok r e2 =>
        rw [w] at p1
        cases r with
        | nx => exact fun σ2 H2 Z2 R2 l2 => ⟨e2, Z2, R2, PstS.le (m := whileL t f m e2) p1 l2⟩
        | ct => exact fun σ2 H2 Z2 R2 l2 => ⟨e2, Z2, R2, PstS.le (m := whileL t f m e2) p1 l2⟩
        | bk => exact p1
        | rt r => exact p1
theorem for_red {S : List Nat} {fi : Ev → Rs (List D)} {asg : Rv → Ev → Rs Unit} {body : Ev → Rs Fl} {D : Ends} {σ : L2.St} {H : Hp} (w : tS K W cv (fun e => (fi e).bind fun items e => forL (fun d e => asg (.fz d) e) body items e) D σ H) :
    tFor (tI K W cv fi) (tA K W cv S asg) (tS K W cv body) D σ H := by
  obtain ⟨F, e, Z, R, p⟩ := w
  refine ⟨F, e, Z, R, (PstS.bindE (R1 := rW K) R p).mono fun J H1 ⟨items, e1, Z1, R1, wk, l1, p1⟩ => ?_⟩
  refine ⟨fun i m σ H => m = items.length - i ∧ i ≤ items.length ∧ ∃ e Z, Rel K F e σ H Z ∧ Le H1 Z1 H Z ∧ PstS K W cv F H Z (forL (fun d e => asg (.fz d) e) body (items.drop i) e) D, ⟨items.length, by simp, Nat.zero_le _, e1, Z1, R1, .refl, p1⟩, ?_⟩
  rintro i m σi Hi ⟨rfl, hi, ei, Zi, Ri, li, pi⟩
  by_cases hlt : i < items.length
  · refine .inr ⟨wk.go i Hi Zi li hlt, fun σ' H' => i + 1 ≤ items.length ∧ ∃ e Z, Rel K F e σ' H' Z ∧ Le H1 Z1 H' Z ∧ PstS K W cv F H' Z (forL (fun d e => asg (.fz d) e) body (items.drop (i + 1)) e) D, fun σ' H' q => ⟨items.length - (i + 1), by omega, rfl, q.1, q.2⟩, fun x H2 hy => ?_⟩
    have hd : items[i]? = some items[i] := List.getElem?_eq_getElem hlt
    have nw := wk.yld i Hi Zi x H2 items[i] li hd hy
    obtain ⟨Z2, R2, k2, q2⟩ := new_ok Ri nw
    rw [List.drop_eq_getElem_cons hlt] at pi
    replace pi : PstS K W cv F Hi Zi ((asg (.fz items[i]) ei).bind fun _ e => (body e).bind fun f e => match f with
      | .nx => forL (fun d e => asg (.fz d) e) body (items.drop (i + 1)) e
      | .ct => forL (fun d e => asg (.fz d) e) body (items.drop (i + 1)) e
      | .bk => .ok .nx e
      | .rt v => .ok (.rt v) e) D := pi
    have np : ∀ a, Pf x (.fz items[i]) a → Z2 a := fun a ⟨d, q, _⟩ => by cases q
    have l12 := k2.le Ri
    refine ⟨F, ei, Z2, .fz items[i], R2, q2.1, (PstS.bindA R2 np (pi.le l12)).mono fun σ3 H3 ⟨e3, Z3, R3, l3, p3⟩ => ?_⟩
    have l13 := (li.trans l12).trans l3
    refine ⟨F, e3, Z3, R3, ?_⟩
    cases w : body e3 with
    | er => rw [w] at p3; exact p3
    | ex x e' => rw [w] at p3; exact p3
    | ok r e4 =>
      rw [w] at p3
      cases r with
      | nx => exact fun σ4 H4 Z4 R4 l4 => ⟨hlt, e4, Z4, R4, l13.trans l4, PstS.le (m := forL (fun d e => asg (.fz d) e) body (items.drop (i + 1)) e4) p3 l4⟩
      | ct => exact fun σ4 H4 Z4 R4 l4 => ⟨hlt, e4, Z4, R4, l13.trans l4, PstS.le (m := forL (fun d e => asg (.fz d) e) body (items.drop (i + 1)) e4) p3 l4⟩
      | bk => exact p3
      | rt r => exact p3
  · have e1 : i = items.length := by omega
    subst e1
    rw [List.drop_length] at pi
    exact .inl ⟨wk.stop Hi Zi li, pi σi Hi Zi Ri .refl⟩
theorem ps_forD {tg iter : Expr} {b : List Stmt} {pos : Pos} {S : List Nat} {fi : Ev → Rs (List D)} {asg : Rv → Ev → Rs Unit} {f : Ev → Rs Fl} (hp : PassesOwn (model X.prog X.w) X.A X.env X.xe) (hc : X.calm = true) (hi : PI X tg iter (tI K W cv fi)) (hg : PG X tg (tA K W cv S asg)) (hb : PSs X b (tS K W cv f))
    (hpl : isPl iter = true) : PS X (.For tg iter b [] pos) (tS K W cv fun e => (fi e).bind fun items e => forL (fun d e => asg (.fz d) e) f items e) := (ps_for hp hc hi hg hb (plSet hpl _)).imp fun D σ H w => for_red w
/-! ### several at once -/
abbrev rRs (K : PySem.W.Frag) : RelT (List Rv) (List V) := fun F σ Hs rs vs e H Z => RvAll K F e σ H Z vs rs ∧ ∀ a, PfA vs rs a → Hs a = none
abbrev tRs (K : PySem.W.Frag) (W : WX) (cv : Nat → Value) (f : Ev → Rs (List Rv)) : TA := tR K W cv (rRs K) f
theorem pfA_nil {a : Addr} : ¬ PfA [] [] a := fun ⟨i, v, r, h, _⟩ => by simp at h
theorem pa_R0 : PA X [] (tRs K W cv fun e => .ok [] e) := pa_nil.imp fun σ H Q ⟨F, e, Z, R, p⟩ => p [] H Z R .refl ⟨.nil, fun a h => (pfA_nil h).elim⟩
theorem RvAll.keep {F : Fr} {e e' : Ev} {σ : L2.St} {H H' : Hp} {Z Z' : Addr → Prop} (R : Rel K F e σ H Z) (k : Kp e σ H Z e' H' Z') : ∀ {vs : List V} {rs : List Rv}, RvAll K F e σ H Z vs rs → RvAll K F e' σ H' Z' vs rs
  | _, _, .nil => .nil
  | _, _, .cons q n t => .cons (q.keep R k) n (RvAll.keep R k t)
theorem RvAll.len {F : Fr} {e : Ev} {σ : L2.St} {H : Hp} {Z : Addr → Prop} : ∀ {vs : List V} {rs : List Rv}, RvAll K F e σ H Z vs rs → vs.length = rs.length
  | _, _, .nil => rfl
  | _, _, .cons _ _ t => congrArg Nat.succ t.len
theorem pa_R1 {a : Expr} {es : List Expr} {f : Ev → Rs Rv} {g : Ev → Rs (List Rv)} (hp : isPl a = true) (ha : PE X a (tE K W cv f)) (hr : PA X es (tRs K W cv g)) :
    PA X (a :: es) (tRs K W cv fun e => (f e).bind fun v e => (g e).bind fun ds e => .ok (v :: ds) e) := (pa_cons ha hr (star1 hp _ _)).imp fun σ H Q ⟨F, e, Z, R, p⟩ => by
  have tr : ∀ {e e1 : Ev} {H H1 : Hp} {Z Z1 : Addr → Prop}, Kp e σ H Z e1 H1 Z1 → ∀ a, H1 a = none → H a = none := fun {e e1 H H1 Z Z1} k a h => by
    cases w : H a with
    | none => rfl
    | some o => exact absurd h (k.th a (by rw [w]; simp))
  refine ⟨F, e, Z, R, ?_⟩
  replace p : Pst K W cv (rRs K) F σ e H Z ((f e).bind fun v e => (g e).bind fun ds e => .ok (v :: ds) e) Q := p
  cases w1 : f e with
  | er => rw [w1] at p; exact p
  | ex x e' => rw [w1] at p; exact p
  | ok r e1 =>
    rw [w1] at p
    intro x H1 Z1 R1 k1 q1
    refine ⟨F, e1, Z1, R1, ?_⟩
    replace p : Pst K W cv (rRs K) F σ e H Z ((g e1).bind fun ds e => .ok (r :: ds) e) Q := p
    cases w : g e1 with
    | er => rw [w] at p; exact p
    | ex x e' => rw [w] at p; exact fun H' Z' R' l => p H' Z' R' ((k1.le R).trans l)
    | ok rs e2 =>
      rw [w] at p
      intro ys H2 Z2 R2 k2 q2
      refine p (x :: ys) H2 Z2 R2 (k1.trans k2) ⟨.cons (q1.1.keep R1 k2) (fun a pa i w s h1 h2 h3 => R1.zs a (q1.1.pf a pa) (q2.2 a ⟨i, w, s, h1, h2, h3⟩)) q2.1, fun a pa => ?_⟩
      obtain ⟨i, v, s, h1, h2, h3⟩ := pa
      cases i with
      | zero =>
        simp at h1 h2
        subst h1 h2
        obtain ⟨d, h3, h4⟩ := h3
        exact q1.2 d a h3 h4
      | succ i => exact tr k1 a (q2.2 a ⟨i, v, s, by simpa using h1, by simpa using h2, h3⟩)
def parS (n : Nat) (f : Ev → Rs (List Rv)) (g : List Rv → Ev → Rs Unit) : Ev → Rs Fl := fun e => (f e).bind fun rs e => if rs.length = n ∧ n ≤ 1000 then (g rs e).bind fun _ e => .ok .nx e else .er
/-- through a tuple -/
theorem ps_parT {ts es : List Expr} {k k2 : Nat} {pt pt2 pos : Pos} {n : Nat} {S : List Nat} {f : Ev → Rs (List Rv)} {g : List Rv → Ev → Rs Unit} (hc : X.calm = true) (he : PA X es (tRs X.K W cv f)) (hg : PGs X ts (tAs X.K W cv S g))
    (hn : (assignEach ts X.env).length = n) (hst : (assignEach ts X.env).findIdx? (·.1) = none) (hw : swappedStores [.Tuple ts k pt] (.Tuple es k2 pt2) X.env = pure none) :
    PS X (.Assign [.Tuple ts k pt] (.Tuple es k2 pt2) pos) (tS X.K W cv (parS n f g)) := (ps_asg (pe_tup he) (pg_tup hc hg hn hst) rfl hw rfl).imp fun D σ H ⟨F, e, Z, R, p⟩ => by
  refine ⟨F, e, Z, R, (PstS.bindE (R1 := rRs X.K) R p).mono fun vs H1 ⟨rs, e1, Z1, R1, q1, l1, p1⟩ => ?_⟩
  have hl := q1.1.len
  split at p1
  · rename_i hz
    refine ⟨by rw [hl, hz.1]; exact Nat.le_trans hz.2 (by decide), fun a ha => ?_⟩
    obtain ⟨R2, k2⟩ := R1.grow (H' := upd H1 a (.tup vs)) (Z' := Z1) (sub_upd ha) (fun _ z => z) fun _ z => .inl z
    have q2 := q1.1.keep R1 k2
    refine ⟨a, vs, rfl, SqT.of upd_same, hl.trans hz.1, F, e1, Z1, rs, R2, q2, (PstS.bindA R2 q2.pf (p1.le (k2.le R1))).mono fun σ3 H3 ⟨e3, Z3, R3, l3, p3⟩ => p3 σ3 H3 Z3 R3 .refl⟩
  · exact p1.elim
/-- two names, three names: stored from the right -/
theorem ps_par2D {i j : Nat} {x y : Str} {a b : Expr} {px py pt pos : Pos} {kt k2 pt2} {f : Ev → Rs (List Rv)} (hc : X.calm = true) (hN : X.N.Nodup) (hi : X.N[i]? = some x) (hj : X.N[j]? = some y) (hij : i ≠ j)
    (hx : X.env.scope.names.lookup x = some .local) (hy : X.env.scope.names.lookup y = some .local) (ha : PA X [a, b] (tRs K W cv f))
    (hw : swappedStores [.Tuple [.Name x px, .Name y py] kt pt] (.Tuple [a, b] k2 pt2) X.env = pure (some [x, y])) :
    PS X (.Assign [.Tuple [.Name x px, .Name y py] kt pt] (.Tuple [a, b] k2 pt2) pos) (tS K W cv (parS 2 f fun rs e => match rs with | [r, s] => (store i r.sl e).bind fun _ e => store j s.sl e | _ => .er)) :=
  (ps_par hc hN hi hj hij hx hy ha hw rfl).imp fun D σ H ⟨F, e, Z, R, p⟩ => by
  refine ⟨F, e, Z, R, (PstS.bindE (R1 := rRs K) R p).mono fun vs H1 ⟨rs, e1, Z1, R1, q1, l1, p1⟩ => ?_⟩
  have hl := q1.1.len
  split at p1
  · obtain ⟨q1, _⟩ := q1
    cases q1 with
    | nil => exact p1.elim
    | @cons v vs r rs q1 n1 q1r =>
      cases q1r with
      | nil => exact p1.elim
      | @cons v2 vs r2 rs q2 n2 q2r =>
        cases q2r with
        | cons _ _ _ => exact p1.elim
        | nil =>
          refine ⟨v, v2, rfl, ?_⟩
          replace p1 : PstS K W cv F H1 Z1 (((store i r.sl e1).bind fun _ e => store j r2.sl e).bind fun _ e => .ok .nx e) D := p1
          cases w : store i r.sl e1 with
          | er => rw [w] at p1; exact p1.elim
          | ex x e' => unfold store at w; split at w <;> cases w
          | ok u e2 =>
            rw [w] at p1
            obtain ⟨R2, k2⟩ := R1.store q1 w
            replace p1 : PstS K W cv F H1 Z1 ((store j r2.sl e2).bind fun _ e => .ok .nx e) D := p1
            cases w2 : store j r2.sl e2 with
            | er => rw [w2] at p1; exact p1.elim
            | ex x e' => unfold store at w2; split at w2 <;> cases w2
            | ok u2 e3 =>
              rw [w2] at p1
              have q2' := q2.keepA R1 q1.pf k2 fun a pa pb => n1 a pb 0 v2 r2 rfl rfl pa
              obtain ⟨R3, k3⟩ := R2.store q2' w2
              exact p1 _ H1 Z1 R3 .refl
  · exact p1.elim
theorem ps_par3D {i j l : Nat} {x y z : Str} {a b c : Expr} {px py pz pt pos : Pos} {kt k2 pt2} {f : Ev → Rs (List Rv)} (hc : X.calm = true) (hN : X.N.Nodup) (hi : X.N[i]? = some x) (hj : X.N[j]? = some y) (hl : X.N[l]? = some z) (hij : i ≠ j) (hil : i ≠ l) (hjl : j ≠ l)
    (hx : X.env.scope.names.lookup x = some .local) (hy : X.env.scope.names.lookup y = some .local) (hz : X.env.scope.names.lookup z = some .local) (ha : PA X [a, b, c] (tRs K W cv f))
    (hw : swappedStores [.Tuple [.Name x px, .Name y py, .Name z pz] kt pt] (.Tuple [a, b, c] k2 pt2) X.env = pure (some [x, y, z])) :
    PS X (.Assign [.Tuple [.Name x px, .Name y py, .Name z pz] kt pt] (.Tuple [a, b, c] k2 pt2) pos) (tS K W cv (parS 3 f fun rs e => match rs with | [r, s, t] => (store i r.sl e).bind fun _ e => (store j s.sl e).bind fun _ e => store l t.sl e | _ => .er)) :=
  (ps_par3 hc hN hi hj hl hij hil hjl hx hy hz ha hw rfl).imp fun D σ H ⟨F, e, Z, R, p⟩ => by
  refine ⟨F, e, Z, R, (PstS.bindE (R1 := rRs K) R p).mono fun vs H1 ⟨rs, e1, Z1, R1, q1, l1, p1⟩ => ?_⟩
  split at p1
  · obtain ⟨q1, _⟩ := q1
    cases q1 with
    | nil => exact p1.elim
    | @cons v vs r rs q1 n1 q1r =>
      cases q1r with
      | nil => exact p1.elim
      | @cons v2 vs r2 rs q2 n2 q2r =>
        cases q2r with
        | nil => exact p1.elim
        | @cons v3 vs r3 rs q3 n3 q3r =>
          cases q3r with
          | cons _ _ _ => exact p1.elim
          | nil =>
            refine ⟨v, v2, v3, rfl, ?_⟩
            replace p1 : PstS K W cv F H1 Z1 (((store i r.sl e1).bind fun _ e => (store j r2.sl e).bind fun _ e => store l r3.sl e).bind fun _ e => .ok .nx e) D := p1
            cases w : store i r.sl e1 with
            | er => rw [w] at p1; exact p1.elim
            | ex x e' => unfold store at w; split at w <;> cases w
            | ok u e2 =>
              rw [w] at p1
              obtain ⟨R2, k2⟩ := R1.store q1 w
              replace p1 : PstS K W cv F H1 Z1 (((store j r2.sl e2).bind fun _ e => store l r3.sl e).bind fun _ e => .ok .nx e) D := p1
              cases w2 : store j r2.sl e2 with
              | er => rw [w2] at p1; exact p1.elim
              | ex x e' => unfold store at w2; split at w2 <;> cases w2
              | ok u2 e3 =>
                rw [w2] at p1
                have q2' := q2.keepA R1 q1.pf k2 fun a pa pb => n1 a pb 0 v2 r2 rfl rfl pa
                have q3' := q3.keepA R1 q1.pf k2 fun a pa pb => n1 a pb 1 v3 r3 rfl rfl pa
                obtain ⟨R3, k3⟩ := R2.store q2' w2
                have q3'' := q3'.keepA R2 q2'.pf k3 fun a pa pb => n2 a pb 0 v3 r3 rfl rfl pa
                replace p1 : PstS K W cv F H1 Z1 ((store l r3.sl e3).bind fun _ e => .ok .nx e) D := p1
                cases w3 : store l r3.sl e3 with
                | er => rw [w3] at p1; exact p1.elim
                | ex x e' => unfold store at w3; split at w3 <;> cases w3
                | ok u3 e4 =>
                  rw [w3] at p1
                  obtain ⟨R4, k4⟩ := R3.store q3'' w3
                  exact p1 _ H1 Z1 R4 .refl
  · exact p1.elim
/-! ### x += e, of ints -/
def augS (i : Nat) (o : Operator) (f : Ev → Rs Op) : Ev → Rs Fl := fun e => match look e i with
    | some (.int n) => (f e).bind fun y e => match y.get e with
      | some (.int m) => (match o with
        | .Add => (store i (.val (.int (n + m))) e).bind fun _ e => .ok .nx e
        | .Sub => (store i (.val (.int (n - m))) e).bind fun _ e => .ok .nx e
        | _ => .er)
      | _ => .er
    | _ => .er
theorem look_int {F : Fr} {e : Ev} {σ : L2.St} {H : Hp} {Z : Addr → Prop} {i : Nat} {n : Int} (R : Rel K F e σ H Z) (h : look e i = some (.int n)) : σ[i]? = some (some (.int n)) := by
  obtain ⟨v, hv⟩ := look_val R h
  have c := (OpRel.get (o := .pl i) R hv h).full
  cases c
  exact hv
theorem ps_augD {i : Nat} {o : Operator} {x : Str} {a : Expr} {p pos : Pos} {f : Ev → Rs Op} (ho : o = .Add ∨ o = .Sub) (hN : X.N.Nodup) (hi : X.N[i]? = some x) (hx : Loc X.env.scope x) (ha : PE X a (tO K W cv f)) (hf : X.fn x = true ∨ X.env.scope.names.lookup x = some .local) :
    PS X (.AugAssign (.Name x p) o a pos) (tS K W cv (augS i o f)) := by
  have key : ∀ (g : Int → Int → Int) (D : Ends) (σ : L2.St) (H : Hp), (∀ n m e, (match o with
        | .Add => (store i (.val (.int (n + m))) e).bind fun _ e => Rs.ok Fl.nx e
        | .Sub => (store i (.val (.int (n - m))) e).bind fun _ e => .ok .nx e
        | _ => .er) = (store i (.val (.int (g n m))) e).bind fun _ e => .ok .nx e) → tS K W cv (augS i o f) D σ H → tAug i (tO K W cv f) (rI0 fun i j => .int (g i j)) D σ H := by
    rintro g D σ H hg ⟨F, e, Z, R, p⟩
    unfold augS at p
    cases w : look e i with
    | none => rw [w] at p; exact p.elim
    | some d =>
      rw [w] at p
      cases d with
      | int n =>
        refine ⟨.int n, look_int R w, F, e, Z, R, (PstS.bindE (R1 := rO K) R p).mono fun y H1 ⟨op, e1, Z1, R1, q1, l1, p1⟩ => ?_⟩
        cases w2 : op.get e1 with
        | none => rw [w2] at p1; exact p1.elim
        | some d =>
          rw [w2] at p1
          cases d with
          | int m =>
            have c := (q1.get R1 w2).full
            cases c
            refine ⟨n, m, rfl, rfl, ?_⟩
            replace p1 : PstS K W cv F H1 Z1 ((store i (.val (.int (g n m))) e1).bind fun _ e => .ok .nx e) D := (hg n m e1) ▸ p1
            cases w3 : store i (.val (.int (g n m))) e1 with
            | er => rw [w3] at p1; exact p1.elim
            | ex x e' => unfold store at w3; split at w3 <;> cases w3
            | ok u e2 =>
              rw [w3] at p1
              obtain ⟨R2, k2⟩ := R1.store (v := .int (g n m)) (r := .fz (.int (g n m))) (.int _) w3
              exact p1 _ H1 Z1 R2 .refl
          | _ => exact p1.elim
      | _ => exact p.elim
  rcases ho with rfl | rfl
  · exact (ps_aug hN hi hx ha (fun pins s σ H x y v u Q I r1 r2 h => iop_add pins s σ H x y v u Q I r1 r2 h) hf).imp fun D σ H w => key (fun i j => i + j) D σ H (fun _ _ _ => rfl) w
  · exact (ps_aug hN hi hx ha (fun pins s σ H x y v u Q I r1 r2 h => iop_sub pins s σ H x y v u Q I r1 r2 h) hf).imp fun D σ H w => key (fun i j => i - j) D σ H (fun _ _ _ => rfl) w
end
end Cr
set_option Elab.async false
set_option linter.all false
set_option maxRecDepth 100000
set_option maxHeartbeats 4000000
namespace Cr
open PySem PySem.Spec PyProof.Rows L2
def permV {α : Type} : List Nat → List α → List α
  | [], _ => []
  | i :: r, vs => match vs[i]? with | some v => v :: permV r vs | none => permV r vs
theorem permV_vals {vs : List V} {us : List Value} (r : Vals vs us) : ∀ perm : List Nat, Vals (permV perm vs) (permV perm us)
  | [] => .nil
  | i :: p => by
    unfold permV
    cases h : vs[i]? with
    | none =>
      have h2 : us[i]? = none := by
        rw [List.getElem?_eq_none_iff] at h ⊢
        rw [← r.length]; exact h
      rw [h2]
      exact permV_vals r p
    | some v =>
      obtain ⟨u, hu, ru⟩ := r.get h
      rw [hu]
      exact .cons ru (permV_vals r p)
section
variable {X : Cx} {K : PySem.W.Frag} {W : WX} {cv : Nat → Value}
theorem permS_cons {i : Nat} {r : List Nat} {ss ps : List Sl} (h : permS (i :: r) ss = some ps) : ∃ s rest, ss[i]? = some s ∧ permS r ss = some rest ∧ ps = s :: rest := by
  unfold permS at h
  rw [List.mapM_cons] at h
  cases w : ss[i]? with
  | none => rw [w] at h; cases h
  | some s =>
    rw [w] at h
    cases w2 : r.mapM fun i => ss[i]? with
    | none => simp only [w2] at h; cases h
    | some rest =>
      simp only [w2] at h
      cases h
      exact ⟨s, rest, rfl, w2, rfl⟩
/-- values alone, permuted -/
theorem perm_ok {vs : List V} {ss : List Sl} {H : Hp} {Z : Addr → Prop} (hl : ss.length = vs.length) (hv : ∀ (i : Nat) (s : Sl), ss[i]? = some s → ∃ d v, s = Sl.val d ∧ vs[i]? = some v ∧ Dv K (hid Z H) v d) :
    ∀ {perm : List Nat} {ps : List Sl}, permS perm ss = some ps → ps.length = (permV perm vs).length ∧ ∀ (i : Nat) (s : Sl), ps[i]? = some s → ∃ d v, s = Sl.val d ∧ (permV perm vs)[i]? = some v ∧ Dv K (hid Z H) v d
  | [], ps, h => by
    cases h
    exact ⟨rfl, fun i s g => by simp at g⟩
  | k :: r, ps, h => by
    obtain ⟨s, rest, h1, h2, rfl⟩ := permS_cons h
    obtain ⟨d, v, e1, e2, e3⟩ := hv k s h1
    obtain ⟨l, q⟩ := perm_ok hl hv h2
    unfold permV
    rw [e2]
    refine ⟨congrArg Nat.succ l, fun i t g => ?_⟩
    cases i with
    | zero => simp at g; subst g; exact ⟨d, v, e1, by simp, e3⟩
    | succ i =>
      obtain ⟨d', v', q1, q2, q3⟩ := q i t (by simpa using g)
      exact ⟨d', v', q1, by simpa using q2, q3⟩
theorem lends_none {e : Ev} {os : List Op} {ss : List Sl} (h : argsS os e = some ss) (hn : lends os e = []) : ∀ (i : Nat) (s : Sl), ss[i]? = some s → ∃ d, s = Sl.val d := by
  intro i s g
  obtain ⟨o, e1, e2⟩ := argsS_get h g
  cases o with
  | vl d => cases e2; exact ⟨_, rfl⟩
  | pl j =>
    have e2' : (match e[j]? with | some (.mu _ d) => some (.mu true d) | some (.val d) => some (.val d) | some (.frz d) => some (.val d) | _ => none) = some s := e2
    cases w : e[j]? with
    | none => rw [w] at e2'; cases e2'
    | some t =>
      rw [w] at e2'
      cases t with
      | un => cases e2'
      | val d => cases e2'; exact ⟨_, rfl⟩
      | frz d => cases e2'; exact ⟨_, rfl⟩
      | mu b d =>
        have := lends_mem e1 w
        rw [hn] at this
        cases this
theorem call_redK {f : Nat} {perm : List Nat} {cf : Nat → List Sl → Cr.CR} {F : Fr} {e : Ev} {σ : L2.St} {H : Hp} {Z : Addr → Prop} {vs : List V} {os : List Op} {Q : VK} (hp : perm ≠ []) (R : Rel K F e σ H Z) (q : OpAll K σ H Z vs os) (p : Pst K W cv (rE K) F σ e H Z (callR cf f perm os e) Q) : spC K cv (cf f) (permV perm vs) H Q (WE W σ) := by
  unfold callR at p
  cases h : argsS os e with
  | none => rw [h] at p; exact p.elim
  | some ss =>
    rw [h] at p
    by_cases nd : (lends os e).Nodup
    · simp only [nd, if_true, hp, if_false] at p
      by_cases ln : lends os e = []
      · simp only [ln, if_true] at p
        cases g : permS perm ss with
        | none => simp only [g] at p; exact p.elim
        | some as =>
          simp only [g] at p
          have A := args_ok R q h nd
          have hv := lends_none h ln
          have la0 : ∀ i, laOf os e σ i = none := fun i => by
            cases w : laOf os e σ i with
            | none => rfl
            | some a =>
              obtain ⟨b, d, w1⟩ := A.lam i a w
              obtain ⟨d', w2⟩ := hv i _ w1
              cases w2
          obtain ⟨hl, hq⟩ := perm_ok (vs := vs) A.len (fun i s g => by
            obtain ⟨d, rfl⟩ := hv i s g
            obtain ⟨v, e1, e2⟩ := A.val i d g
            exact ⟨d, v, rfl, e1, e2⟩) g
          refine ⟨as, Z, fun _ => none, ⟨hl, fun i d g => ?_, fun i b d g => ?_, fun i s g => ?_, (fun i a w => by cases w), (fun i j a w => by cases w), R.zs⟩, ?_⟩
          · obtain ⟨d', v, e1, e2, e3⟩ := hq i _ g
            cases e1
            exact ⟨v, e2, e3⟩
          · obtain ⟨d', v, e1, e2, e3⟩ := hq i _ g
            cases e1
          · obtain ⟨d', v, e1, e2, e3⟩ := hq i _ g
            exact .inl ⟨d', e1⟩
          · -- behind the call nothing of the frame's own changed
            have keepB : ∀ {o H' Z'}, Bk K (fun _ => none) o H Z H' Z' → Rel K F e σ H' Z' ∧ Kp e σ H Z e H' Z' := fun {o H' Z'} b => by
              have hs : Sub H H' := fun a u w => b.fr a u w fun i => by simp
              refine R.grow hs (fun a z => b.kz a z fun i => by simp) fun a z => ?_
              rcases b.zn a z with w | w
              · exact .inl w
              · exact .inr ⟨w, b.zs a z⟩
            cases g2 : cf f as with
            | er => simp only [g2] at p; exact p.elim
            | exc x o =>
              simp only [g2] at p
              intro H' Z' b
              obtain ⟨R', k⟩ := keepB b
              exact p H' Z' R' (k.le R)
            | ret r o =>
              simp only [g2] at p
              intro v H' Z' b rv
              obtain ⟨R', k⟩ := keepB b
              refine p v H' Z' R' k ?_
              cases r with
              | fz d => exact ⟨rv, fun d a e1 => by cases e1⟩
              | fr d =>
                obtain ⟨a, rfl, z, c, hnew⟩ := rv
                refine ⟨⟨a, rfl, z, c, fun m => R.zs a (R.mutZ m) hnew, ?_⟩, fun d' a' _ e2 => by cases e2; exact hnew⟩
                cases q2 : F.H0 a with
                | none => rfl
                | some u => exact absurd hnew (R.th a (by rw [q2]; simp))
      · simp only [ln, if_false] at p
        exact p.elim
    · simp only [nd, if_false] at p
      exact p.elim
/-! ### keywords -/
/-- how keywords bind -/
def KwB (K : PySem.W.Frag) (fd : FuncData) (ps : List Str) (n : Nat) (ks : List Str) (perm : List Nat) : Prop := ∀ (s : Shared) (us ws : List Value), K.In s.heap → us.length = n → ws.length = ks.length → BindsTo s fd ⟨us, ks.zip ws⟩ (ps.zip (permV perm (us ++ ws)))
def kwE : List Keyword → List Expr
  | [] => []
  | ⟨_, v, _⟩ :: r => v :: kwE r
def kwN : List Keyword → Option (List Str)
  | [] => some []
  | ⟨some n, _, _⟩ :: r => (kwN r).map (n :: ·)
  | ⟨none, _, _⟩ :: _ => none
theorem kwAll {env : Env} {pos : Pos} : ∀ {kws : List Keyword} {ks : List Str}, kwN kws = some ks → (backToKw pos (keywordEach kws env)).all (·.1.isSome) = true ∧ (backToKw pos (keywordEach kws env)).filterMap (·.1) = ks ∧ (backToKw pos (keywordEach kws env)).any (·.1.isNone) = false ∧ ks.length = kws.length := by
  intro kws
  have key : ∀ (b : List (Option Str × Sem Value)), (backToKw pos b).map (·.1) = b.map (·.1) := fun b => by
    unfold backToKw
    rw [List.map_map]
    rfl
  have k2 : ∀ {ks : List Str}, kwN kws = some ks → (keywordEach kws env).map (·.1) = ks.map some ∧ ks.length = kws.length := by
    induction kws with
    | nil => intro ks h; cases h; exact ⟨rfl, rfl⟩
    | cons k r ih =>
      obtain ⟨n, v, p⟩ := k
      intro ks h
      cases n with
      | none => cases h
      | some n =>
        have h' : (kwN r).map (n :: ·) = some ks := h
        cases w : kwN r with
        | none => rw [w] at h'; cases h'
        | some l =>
          rw [w] at h'
          cases h'
          obtain ⟨q1, q2⟩ := ih w
          exact ⟨by show some n :: (keywordEach r env).map (·.1) = _; rw [q1]; rfl, congrArg Nat.succ q2⟩
  intro ks h
  obtain ⟨q1, q2⟩ := k2 h
  have q3 := (key (keywordEach kws env)).trans q1
  refine ⟨?_, ?_, ?_, q2⟩
  · have : (backToKw pos (keywordEach kws env)).all (·.1.isSome) = ((backToKw pos (keywordEach kws env)).map (·.1)).all (·.isSome) := by rw [List.all_map]; rfl
    rw [this, q3]
    simp
  · have : (backToKw pos (keywordEach kws env)).filterMap (·.1) = ((backToKw pos (keywordEach kws env)).map (·.1)).filterMap id := by rw [List.filterMap_map]; rfl
    rw [this, q3]
    simp
  · have : (backToKw pos (keywordEach kws env)).any (·.1.isNone) = ((backToKw pos (keywordEach kws env)).map (·.1)).any (·.isNone) := by rw [List.any_map]; rfl
    rw [this, q3]
    simp
theorem pk_O0 : PK X [] (tOs K W cv fun e => .ok [] e) := ⟨fun pos pins s σ H Q I ⟨F, e, Z, R, p⟩ => pk_nil.run pos pins s σ H Q I (p [] H Z R .refl .nil)⟩
theorem pk_O1 {n : Option Str} {a : Expr} {p0 : Pos} {kws : List Keyword} {f : Ev → Rs Op} {g : Ev → Rs (List Op)} (ha : PE X a (tO K W cv f)) (hr : PK X kws (tOs K W cv g)) :
    PK X (⟨n, a, p0⟩ :: kws) (tOs K W cv fun e => (f e).bind fun v e => (g e).bind fun ds e => .ok (v :: ds) e) := ⟨fun pos pins s σ H Q I ⟨F, e, Z, R, p⟩ => (pk_cons ha hr).run pos pins s σ H Q I (by
  refine ⟨F, e, Z, R, (Pst.bind (R1 := rO K) (R2 := rOs K) (fun _ _ _ _ _ _ _ _ _ _ k _ q => q) R p).mono fun x H1 ⟨d, e1, Z1, R1, k1, q1, p1⟩ => ?_⟩
  refine ⟨F, e1, Z1, R1, (p1.bind (R1 := rOs K) (fun _ _ _ _ _ _ _ _ _ _ k _ q => q) R1).mono fun y H2 ⟨ds, e2, Z2, R2, k2, q2, p2⟩ => ?_⟩
  exact p2 (x :: y) H2 Z2 R2 .refl (.cons (q1.keep R1 k2) q2))⟩
theorem OpAll.app {σ : L2.St} {H : Hp} {Z : Addr → Prop} : ∀ {vs ws : List V} {os ps : List Op}, OpAll K σ H Z vs os → OpAll K σ H Z ws ps → OpAll K σ H Z (vs ++ ws) (os ++ ps)
  | _, _, _, _, .nil, k => k
  | _, _, _, _, .cons a r, k => .cons a (r.app k)
def callkR (cf : Nat → List Sl → Cr.CR) (f : Nat) (perm : List Nat) (n m : Nat) (g h : Ev → Rs (List Op)) : Ev → Rs Rv := fun e => (g e).bind fun o1 e => (h e).bind fun o2 e => if o1.length = n ∧ o2.length = m then callR cf f perm (o1 ++ o2) e else .er
theorem callk_red {n m f : Nat} {perm : List Nat} {cf : Nat → List Sl → Cr.CR} {g h : Ev → Rs (List Op)} {σ : L2.St} {H : Hp} {Q : VK} (hp : perm ≠ []) (w : tE K W cv (callkR cf f perm n m g h) σ H Q) :
    tOs K W cv g σ H fun vs H1 => tOs K W cv h σ H1 fun zs H2 => vs.length = n ∧ zs.length = m ∧ spC K cv (cf f) (permV perm (vs ++ zs)) H2 Q (WE W σ) := by
  obtain ⟨F, e, Z, R, p⟩ := w
  refine ⟨F, e, Z, R, (Pst.bind (R1 := rOs K) (R2 := rE K) (fun _ _ _ _ _ _ _ _ _ _ k _ q => trE k q) R p).mono fun xs H1 ⟨os, e1, Z1, R1, k1, q1, p1⟩ => ?_⟩
  refine ⟨F, e1, Z1, R1, (Pst.bind (R1 := rOs K) (R2 := rE K) (fun _ _ _ _ _ _ _ _ _ _ k _ q => trE k q) R1 p1).mono fun zs H2 ⟨os2, e2, Z2, R2, k2, q2, p2⟩ => ?_⟩
  split at p2
  · rename_i hl
    exact ⟨q1.len.symm.trans hl.1, q2.len.symm.trans hl.2, call_redK hp R2 ((q1.keep R1 k2).app q2) p2⟩
  · exact p2.elim
theorem pe_callkD {k f : Nat} {cf : Nat → List Sl → Cr.CR} {fa : Addr} {fd : FuncData} {ps ks : List Str} {x : Str} {p pos : Pos} {e : Expr} {es : List Expr} {kws : List Keyword} {perm : List Nat} {g h : Ev → Rs (List Op)} (F : FnG X.prog X.w X.K X.mg X.base k fa fd ps (spC K cv (cf f))) (hr : Room k X.A) (hgd : X.A.guards = some []) (hg : Gl X x) (hm : X.mg x = some (.ref fa)) (hk : PySem.W.keepIn X.K (.ref fa) = true)
    (hb : KwB X.K fd ps (e :: es).length ks perm) (tk : Takes X W) (ha : PA X (e :: es) (tOs K W cv g)) (hkw : PK X kws (tOs K W cv h)) (hks : kwN kws = some ks) (hp : perm ≠ []) (hdb : (x == ("__debug__" : Str)) = false) (hpl : (e :: es).all isPl = true) : PE X (.Call (.Name x p) (e :: es) kws pos) (tE K W cv (callkR cf f perm (e :: es).length kws.length g h)) := by
  obtain ⟨a1, a2, a3, a4⟩ := kwAll (env := X.env) (pos := pos) hks
  refine ⟨fun pins s σ H Q I w => ?_⟩
  refine wpAny_Call_Name_kw (ld_glob I hg hm ?_ hdb)
  have go : ∀ (us ws : List Value) (s2 : Shared) (vs zs : List V) (H2 : Hp), Inv X pins σ H2 s2 → Vals vs us → Vals zs ws → vs.length = (e :: es).length → zs.length = kws.length → spC K cv (cf f) (permV perm (vs ++ zs)) H2 Q (WE W σ) → wpAny (model X.prog X.w) X.A (call (.ref fa) us (ks.zip ws)) (EP X pins σ Q) X.xe s2 := fun us ws s2 vs zs H2 I2 r rz l1 l2 q =>
    run_G (args := ⟨us, ks.zip ws⟩) (us := permV perm (us ++ ws)) (E := WE W) F hr hgd (hb s2 us ws I2.kIn (r.length.symm.trans l1) (rz.length.symm.trans (l2.trans a4.symm))) (passAt tk σ) I2 (permV_vals (r.append rz) perm) q
  have hpl' : isPl e = true ∧ es.all isPl = true := by rw [List.all_cons, Bool.and_eq_true] at hpl; exact hpl
  refine PySem.W.callWith_KW (h₀ := X.base) I.ok.mod.kin hk a1 (thn (ha.run pos pins s σ H _ I (callk_red hp w)) fun us s1 ⟨vs, H1, I1, r, q⟩ => ?_) (by
    rw [a3, Bool.or_false]
    exact backTo_any _ _ (starAll _ _ hpl)) (star1 hpl'.1 _ _)
  refine thn (hkw.run pos pins s1 σ H1 _ I1 q) fun ws s2 ⟨zs, H2, I2, rz, l1, l2, q2⟩ => ⟨I2.kIn, ?_⟩
  rw [a2]
  exact go us ws s2 vs zs H2 I2 r rz l1 l2 q2
theorem pe_callkD0 {k f : Nat} {cf : Nat → List Sl → Cr.CR} {fa : Addr} {fd : FuncData} {ps ks : List Str} {x : Str} {p pos : Pos} {kws : List Keyword} {perm : List Nat} {h : Ev → Rs (List Op)} (F : FnG X.prog X.w X.K X.mg X.base k fa fd ps (spC K cv (cf f))) (hr : Room k X.A) (hgd : X.A.guards = some []) (hg : Gl X x) (hm : X.mg x = some (.ref fa)) (hk : PySem.W.keepIn X.K (.ref fa) = true)
    (hb : KwB X.K fd ps 0 ks perm) (tk : Takes X W) (hkw : PK X kws (tOs K W cv h)) (hks : kwN kws = some ks) (hp : perm ≠ []) (hdb : (x == ("__debug__" : Str)) = false) : PE X (.Call (.Name x p) [] kws pos) (tE K W cv (callkR cf f perm 0 kws.length (fun e => .ok [] e) h)) := by
  obtain ⟨a1, a2, a3, a4⟩ := kwAll (env := X.env) (pos := pos) hks
  refine ⟨fun pins s σ H Q I w => ?_⟩
  refine wpAny_Call_Name_kw (ld_glob I hg hm ?_ hdb)
  have go : ∀ (us ws : List Value) (s2 : Shared) (vs zs : List V) (H2 : Hp), Inv X pins σ H2 s2 → Vals vs us → Vals zs ws → vs.length = 0 → zs.length = kws.length → spC K cv (cf f) (permV perm (vs ++ zs)) H2 Q (WE W σ) → wpAny (model X.prog X.w) X.A (call (.ref fa) us (ks.zip ws)) (EP X pins σ Q) X.xe s2 := fun us ws s2 vs zs H2 I2 r rz l1 l2 q =>
    run_G (args := ⟨us, ks.zip ws⟩) (us := permV perm (us ++ ws)) (E := WE W) F hr hgd (hb s2 us ws I2.kIn (r.length.symm.trans l1) (rz.length.symm.trans (l2.trans a4.symm))) (passAt tk σ) I2 (permV_vals (r.append rz) perm) q
  refine PySem.W.callWith_KW0 (h₀ := X.base) I.ok.mod.kin hk a1 ?_ (by rw [a3]; rfl)
  obtain ⟨F0, e0, Z0, R0, p0⟩ := callk_red hp w
  refine thn (hkw.run pos pins s σ H _ I (p0 [] H Z0 R0 .refl .nil)) fun ws s2 ⟨zs, H2, I2, rz, l1, l2, q2⟩ => ⟨I2.kIn, ?_⟩
  rw [a2]
  exact go [] ws s2 [] zs H2 I2 .nil rz l1 l2 q2
end
end Cr
set_option Elab.async false
set_option linter.all false
set_option maxRecDepth 100000
set_option maxHeartbeats 4000000
namespace Cr
open PySem PySem.Spec PyProof.Rows L2
/-! ### from the text to the core -/
structure Cc where
  N : List Str
  sc : Scope
  raw : Scope
  fns : List (Str × Nat)
  kw : List (Str × Nat × List Str × List Nat)
  cst : List (Str × D)
  bl : List Str
  exs : List (Str × Nat)
def ixOf : List Str → Str → Option Nat
  | [], _ => none
  | y :: r, x => if y = x then some 0 else (ixOf r x).map (· + 1)
def okN (x : Str) : Bool := !(x == ("__debug__" : Str)) && !(x == ("__classdict__" : Str)) && decide (x ≠ ("__name__" : Str))
def Cc.vis (c : Cc) (x : Str) : Bool := (match c.sc.names.lookup x with | some .local => true | some .cell => true | some .free => true | _ => false) && okN x
def Cc.gl (c : Cc) (x : Str) : Bool := (match c.sc.names.lookup x with | some .globalImplicit => true | _ => false) && okN x
def Cc.sto (c : Cc) (x : Str) : Bool := (match c.raw.names.lookup x with | some .local => true | some .cell => true | _ => false) && okN x
def Cc.loc (c : Cc) (x : Str) : Bool := (match c.sc.names.lookup x with | some .local => true | _ => false)
/-- a free built-in name -/
def Cc.bi (c : Cc) (x : Str) : Bool := c.gl x && decide (x ∈ c.bl)
def bltTab : List (Str × Nat × Bt) := [("len", 1, .len), ("sum", 1, .sum), ("min", 1, .min), ("max", 1, .max), ("min", 2, .min2), ("max", 2, .max2), ("all", 1, .all), ("any", 1, .any), ("tuple", 1, .tuple), ("list", 1, .list), ("int", 1, .int), ("abs", 1, .abs), ("repr", 1, .repr), ("sorted", 1, .sorted)]
def bltOf (x : Str) (n : Nat) : Option Bt := (bltTab.find? fun p => decide (p.1 = x) && decide (p.2.1 = n)).map (·.2.2)
def tyTab : List (Str × Ty) := [("int", .int), ("bool", .bool), ("str", .str), ("tuple", .tuple), ("list", .list)]
def tyOf (x : Str) : Option Ty := (tyTab.find? fun p => decide (p.1 = x)).map (·.2)
def mmTab : List (Str × Nat × Mm) := [("append", 1, .append), ("extend", 1, .extend), ("pop", 0, .pop), ("pop", 1, .popAt), ("reverse", 0, .reverse)]
def mmOf (x : Str) (n : Nat) : Option Mm := (mmTab.find? fun p => decide (p.1 = x) && decide (p.2.1 = n)).map (·.2.2)
def binOk : Operator → Bool
  | .Add => true | .Sub => true | .Mult => true | .FloorDiv => true | .Mod => true | .Pow => true
  | _ => false
def tOk : Expr → Bool
  | .IfExp _ _ _ _ => false
  | _ => true
def isTupE : Expr → Bool
  | .Tuple _ _ _ => true
  | _ => false
def mapL {α β : Type} (f : α → Option β) : List α → Option (List β)
  | [] => some []
  | a :: r => match f a with
    | some b => (match mapL f r with | some l => some (b :: l) | none => none)
    | none => none
mutual
def tgs : Tg → List Nat
  | .name i => [i]
  | .tup ts => tgsL ts
  | .sub _ _ => []
def tgsL : List Tg → List Nat
  | [] => []
  | t :: r => tgs t ++ tgsL r
end
def ownOf (N : List Str) (scope : Scope) : List (Str × Nat) := scope.names.filterMap fun p => match p.2 with
  | .local => (ixOf N p.1).map fun i => (p.1, i)
  | .cell => (ixOf N p.1).map fun i => (p.1, i)
  | _ => none
section
variable (rec : Cc → Expr → Option CE)
def cT (c : Cc) : Nat → Expr → Option Tg
  | 0, _ => none
  | n + 1, e => match e with
    | .Name x _ => if c.sto x = true then (ixOf c.N x).map .name else none
    | .Tuple es _ _ => (mapL (cT c n) es).map .tup
    | .Subscript (.Name x _) i _ => if c.vis x = true ∧ isPl i = true then (match ixOf c.N x, rec c i with
      | some k, some ce => some (.sub k ce)
      | _, _ => none) else none
    | _ => none
/-- and, or -/
def boE (op : BoolOp) (x y : CE) : CE :=
  match op with
  | .And => .and_ x y
  | .Or => .or_ x y
def cB (c : Cc) (op : BoolOp) : List Expr → Option CE
  | [] => none
  | [a] => if tOk a = true then rec c a else none
  | a :: r => if tOk a = true then (match rec c a, cB c op r with
    | some x, some y => some (boE op x y)
    | _, _ => none) else none
def cIo (c : Cc) (e : Expr) : Option It := if isPl e = true then (rec c e).map .over else none
def cI (c : Cc) (tg : Expr) (e : Expr) : Option It :=
  match e with
  | .Call (.Name x _) [a] [] _ =>
    if x = ("range" : Str) then (if c.bi x = true ∧ isPl a = true then (rec c a).map .range1 else none)
    else if x = ("enumerate" : Str) then (if c.bi x = true ∧ isPl a = true ∧ isTupE tg = true then (rec c a).map .enum else none)
    else cIo rec c e
  | .Call (.Name x _) [a, b] [] _ =>
    if x = ("range" : Str) then (if c.bi x = true ∧ isPl a = true ∧ isPl b = true then (match rec c a, rec c b with
      | some p, some q => some (.range2 p q)
      | _, _ => none) else none)
    else if x = ("zip" : Str) then (if c.bi x = true ∧ isPl a = true ∧ isPl b = true ∧ isTupE tg = true then (match rec c a, rec c b with
      | some p, some q => some (.zip p q)
      | _, _ => none) else none)
    else cIo rec c e
  | e => cIo rec c e
def cCall (c : Cc) (x : Str) (es : List Expr) (kws : List Keyword) : Option CE :=
  match kws with
  | [] =>
    if c.gl x = true ∧ es.all isPl = true then (match c.fns.lookup x with
      | some f => (mapL (rec c) es).map (.call f)
      | none => if x ∈ c.bl then (match es with
        | [a, .Name t _] => if x = ("isinstance" : Str) then (if c.bi t = true then (match rec c a, tyOf t with
            | some p, some ty => some (.isi p ty)
            | _, _ => none) else none)
          else (match bltOf x 2, mapL (rec c) es with
            | some f, some l => some (.blt f l)
            | _, _ => none)
        | [] => none
        | es => match bltOf x es.length, mapL (rec c) es with
          | some f, some l => some (.blt f l)
          | _, _ => none) else none)
    else none
  | kws => if c.gl x = true ∧ es.all isPl = true then (match c.fns.lookup x, kwN kws with
      | some f, some ks => (match c.kw.find? fun p => decide (p.1 = x) && decide (p.2.1 = es.length) && decide (p.2.2.1 = ks) with
        | some p => if p.2.2.2 = [] then none else (match mapL (rec c) es, mapL (rec c) (kwE kws) with
          | some l, some m => some (.callk f p.2.2.2 l m)
          | _, _ => none)
        | none => none)
      | _, _ => none) else none
def cComp1 (c : Cc) (elt tg iter : Expr) (ifs : List Expr) (scope : Scope) : Option CE :=
    if blkC c.N c.sc scope (ownOf c.N scope) = true ∧ isPl iter = true then
      (match cI rec c tg iter, cT rec { c with sc := relS scope c.sc, raw := scope } 8 tg, rec { c with sc := relS scope c.sc, raw := scope } elt with
      | some it, some t, some f => if (tgs t).all (fun j => decide (j ∈ (ownOf c.N scope).map (·.2))) = true then (match ifs with
        | [] => some (.comp ((ownOf c.N scope).map (·.2)) t it none f)
        | [q] => if tOk q = true then (rec { c with sc := relS scope c.sc, raw := scope } q).map fun q => .comp ((ownOf c.N scope).map (·.2)) t it (some q) f else none
        | _ => none) else none
      | _, _, _ => none) else none
def cComp (c : Cc) (elt : Expr) (gens : List Comprehension) (scope : Scope) : Option CE :=
  match gens with
  | [⟨tg, iter, ifs, a⟩] => if a = 0 then cComp1 rec c elt tg iter ifs scope else none
  | _ => none
def stepE (c : Cc) (e : Expr) : Option CE :=
  match e with
  | .Constant (.int i) _ _ => some (.k (.int i))
  | .Constant (.bool b) _ _ => some (.k (.bool b))
  | .Constant .none _ _ => some (.k .none)
  | .Constant (.str s) _ _ => some (.k (.str s))
  | .Name x _ => if c.vis x = true then (ixOf c.N x).map .var else if c.gl x = true then (c.cst.lookup x).map .glob else none
  | .Tuple es _ _ => if es.all isPl = true then (mapL (rec c) es).map .tup else none
  | .List es _ => if es.all isPl = true then (mapL (rec c) es).map .lst else none
  | .Dict [] [] _ => some .edict
  | .BinOp a o b _ => if binOk o = true then (match rec c a, rec c b with
    | some p, some q => some (.bin o p q)
    | _, _ => none) else none
  | .UnaryOp .USub a _ => (rec c a).map .neg
  | .UnaryOp .Not a _ => if tOk a = true then (rec c a).map .not_ else none
  | .BoolOp op (a :: b :: r) _ => cB rec c op (a :: b :: r)
  | .IfExp t a b _ => if tOk t = true then (match rec c t, rec c a, rec c b with
    | some p, some q, some r => some (.ife p q r)
    | _, _, _ => none) else none
  | .Compare a [o] [b] _ => if isPl b = true then (match rec c a, rec c b with
    | some p, some q => some (.cmp o p q)
    | _, _ => none) else none
  | .Compare a [o, o2] [b, d] _ => if isPl b = true ∧ isPl d = true then (match rec c a, rec c b, rec c d with
    | some p, some q, some r => some (.chain o o2 p q r)
    | _, _, _ => none) else none
  | .Subscript a (.Slice none none (some (.UnaryOp .USub (.Constant (.int 1) _ _) _)) _) _ => (rec c a).map .rev
  | .Subscript a (.Slice none none none _) _ => (rec c a).map fun p => .slc p none none
  | .Subscript a (.Slice (some l) none none _) _ => (match rec c a, rec c l with
    | some p, some q => some (.slc p (some q) none)
    | _, _ => none)
  | .Subscript a (.Slice none (some h) none _) _ => (match rec c a, rec c h with
    | some p, some q => some (.slc p none (some q))
    | _, _ => none)
  | .Subscript a (.Slice (some l) (some h) none _) _ => (match rec c a, rec c l, rec c h with
    | some p, some q, some r => some (.slc p (some q) (some r))
    | _, _, _ => none)
  | .Subscript a i _ => if isPl i = true then (match rec c a, rec c i with
    | some p, some q => some (.idx p q)
    | _, _ => none) else none
  | .Call (.Name x _) es kws _ => cCall rec c x es kws
  | .Call (.Attribute (.Name x _) m ap) es [] pos => if c.vis x = true ∧ es.all isPl = true ∧ es.length < 30 ∧ ap.endLine = pos.line then (match ixOf c.N x, mmOf m es.length, mapL (rec c) es with
    | some i, some mm, some l => some (.mm mm i l)
    | _, _, _ => none) else none
  | .ListComp elt gens scope _ => cComp rec c elt gens scope
  | _ => none
end
def cE : Nat → Cc → Expr → Option CE
  | 0 => fun _ _ => none
  | n + 1 => stepE (cE n)
/-! ### statements -/
def swP (ts vs : List Expr) (sc : Scope) : Option (Option (List Str)) :=
  if (!(ts.length == 2 || ts.length == 3) || vs.length != ts.length || sc.kind != .function) = true then some none
  else if (vs.any fun | .Starred .. => true | _ => false) = true then some none
  else
    if ((ts.filterMap fun | .Name id pos => if (sc.names.lookup id == some .local && pos.line == (ts.head?.map (·.pos.line)).getD 0) = true then some id else none | _ => none).length != ts.length ||
      (ts.filterMap fun | .Name id pos => if (sc.names.lookup id == some .local && pos.line == (ts.head?.map (·.pos.line)).getD 0) = true then some id else none | _ => none).eraseDups.length !=
        (ts.filterMap fun | .Name id pos => if (sc.names.lookup id == some .local && pos.line == (ts.head?.map (·.pos.line)).getD 0) = true then some id else none | _ => none).length) = true then some none
    else if vs.all (foldedForSure 8) = true then some none
    else if vs.all (constantsAlone 8) = true then none
    else some (some (ts.filterMap fun | .Name id pos => if (sc.names.lookup id == some .local && pos.line == (ts.head?.map (·.pos.line)).getD 0) = true then some id else none | _ => none))
def isComp : Expr → Bool
  | .ListComp _ _ _ _ => true
  | .SetComp _ _ _ _ => true
  | .DictComp _ _ _ _ _ => true
  | _ => false
def augOk : Operator → Bool
  | .Add => true | .Sub => true
  | _ => false
section
variable (n : Nat) (c : Cc)
def cAsg (tg v : Expr) : Option CS :=
  match tg, v with
  | .Tuple ts _ _, .Tuple vs _ _ => if vs.all isPl = true then (match swP ts vs c.sc, mapL (cT (cE n) c 8) ts, mapL (cE n c) vs with
    | some none, some l, some m => some (.par l m)
    | some (some _), some l, some m => (match ts, vs, l with
      | [.Name _ _, .Name _ _], [_, _], [.name i, .name j] => if i ≠ j then some (.par l m) else none
      | [.Name _ _, .Name _ _, .Name _ _], [_, _, _], [.name i, .name j, .name k] => if i ≠ j ∧ i ≠ k ∧ j ≠ k then some (.par l m) else none
      | _, _, _ => none)
    | _, _, _ => none) else none
  | .Name x p, v => (match cT (cE n) c 8 (.Name x p), cE n c v with
    | some t, some e => some (.asg t e)
    | _, _ => none)
  | tg, v => if isComp v = true then none else (match cT (cE n) c 8 tg, cE n c v with
    | some t, some e => some (.asg t e)
    | _, _ => none)
def stepS (rec : List Stmt → Option (List CS)) (s : Stmt) : Option CS :=
  match s with
  | .Assign [tg] v _ => cAsg n c tg v
  | .AugAssign (.Name x _) o e _ => if c.sto x = true ∧ augOk o = true then (match ixOf c.N x, cE n c e with
    | some i, some e => some (.aug i o e)
    | _, _ => none) else none
  | .Expr (.Constant (.str _) _ _) _ => some .pass
  | .Expr e _ => if isComp e = true then none else (cE n c e).map .ex
  | .Return none _ => some (.ret (.k .none))
  | .Return (some e) _ => (cE n c e).map .ret
  | .If t a b _ => if tOk t = true then (match cE n c t, rec a, rec b with
    | some t, some a, some b => some (.ife t a b)
    | _, _, _ => none) else none
  | .While t b [] _ => if tOk t = true then (match cE n c t, rec b with
    | some t, some b => some (.while_ t b)
    | _, _ => none) else none
  | .For tg iter b [] _ => if isPl iter = true then (match cI (cE n) c tg iter, cT (cE n) c 8 tg, rec b with
    | some it, some t, some b => some (.for_ t it b)
    | _, _, _ => none) else none
  | .Pass _ => some .pass
  | .Break _ => some .brk
  | .Continue _ => some .cont
  | .Raise (some (.Call (.Name x _) [.Constant (.str _) _ _] [] _)) none _ => if c.gl x = true then (c.exs.lookup x).map .raise else none
  | _ => none
def cSs : Nat → List Stmt → Option (List CS)
  | 0, _ => none
  | m + 1, ss => mapL (stepS n c (cSs m)) ss
end
end Cr
set_option Elab.async false
set_option linter.all false
set_option maxRecDepth 100000
set_option maxHeartbeats 4000000
namespace Cr
open PySem PySem.Spec PyProof.Rows L2
/-! ### what a context promises -/
structure Okg (X : Cx) (cf : Nat → List Sl → Cr.CR) (cv : Nat → Value) (c : Cc) : Prop where
  N : X.N = c.N
  nd : c.N.Nodup
  calm : X.calm = true
  gd : X.A.guards = some []
  un : X.A.units + 65 < cLine
  sys : ∃ o, X.K.lookup sysModules = some o
  fns : ∀ x i, c.fns.lookup x = some i → ∃ fa fd ps k, FnG X.prog X.w X.K X.mg X.base k fa fd ps (spC X.K cv (cf i)) ∧ Room k X.A ∧ X.mg x = some (.ref fa) ∧ PySem.W.keepIn X.K (.ref fa) = true ∧ Binds X.K fd ps [] ∧ ∀ n ks perm, (x, n, ks, perm) ∈ c.kw → KwB X.K fd ps n ks perm
  cst : ∀ x d, c.cst.lookup x = some d → ∃ v u, X.mg x = some u ∧ RelV v u ∧ ∀ H, Dv X.K H v d
  bl : ∀ x ∈ c.bl, X.mg x = none
  exs : ∀ x j, c.exs.lookup x = some j → ∃ C bmB B newId initId, cv j = .ref C ∧ ExcBaseFacts B newId initId bmB ∧ PySem.W.excIn X.K C bmB newId = true ∧ X.mg x = some (.ref C) ∧ PySem.W.keepIn X.K (.ref C) = true ∧ Raises X (.ref C)
structure Okc (X : Cx) (W : WX) (cf : Nat → List Sl → Cr.CR) (cv : Nat → Value) (c : Cc) : Prop extends Okg X cf cv c where
  sc : X.env.scope = c.sc
  kind : c.sc.kind = .function
  raw : ∀ x, c.raw.names.lookup x = some .local → c.sc.names.lookup x = some .local
  rawc : ∀ x, c.raw.names.lookup x = some .cell → c.sc.names.lookup x = some .cell ∧ X.fn x = true
  tk : Takes X W
theorem ixOf_at : ∀ {N : List Str} {x : Str} {i : Nat}, ixOf N x = some i → N[i]? = some x
  | [], _, _, h => by cases h
  | y :: r, x, i, h => by
    have h' : (if y = x then some 0 else (ixOf r x).map (· + 1)) = some i := h
    split at h'
    · rename_i e
      cases h'
      simp [e]
    · cases w : ixOf r x with
      | none => rw [w] at h'; cases h'
      | some k =>
        rw [w] at h'
        cases h'
        simpa using ixOf_at w
theorem okN_at {x : Str} (h : okN x = true) : (x == ("__debug__" : Str)) = false ∧ (x == ("__classdict__" : Str)) = false ∧ x ≠ ("__name__" : Str) := by
  unfold okN at h
  rw [Bool.and_eq_true, Bool.and_eq_true] at h
  obtain ⟨⟨h1, h2⟩, h3⟩ := h
  exact ⟨by simpa using h1, by simpa using h2, of_decide_eq_true h3⟩
section
variable {X : Cx} {W : WX} {cf : Nat → List Sl → Cr.CR} {cv : Nat → Value} {c : Cc}
theorem Okc.vis (O : Okc X W cf cv c) {x : Str} (h : c.vis x = true) : Vis X.env.scope x ∧ okN x = true := by
  unfold Cc.vis at h
  rw [Bool.and_eq_true] at h
  refine ⟨?_, h.2⟩
  rw [O.sc]
  have h1 := h.1
  split at h1
  · rename_i e; exact .inl e
  · rename_i e; exact .inr (.inl e)
  · rename_i e; exact .inr (.inr e)
  · cases h1
theorem Okc.gl (O : Okc X W cf cv c) {x : Str} (h : c.gl x = true) : Gl X x ∧ okN x = true := by
  unfold Cc.gl at h
  rw [Bool.and_eq_true] at h
  refine ⟨?_, h.2⟩
  show X.env.scope.names.lookup x = some .globalImplicit
  rw [O.sc]
  have h1 := h.1
  split at h1
  · rename_i e; exact e
  · cases h1
theorem Okc.sto (O : Okc X W cf cv c) {x : Str} (h : c.sto x = true) : Loc X.env.scope x ∧ (X.fn x = true ∨ X.env.scope.names.lookup x = some .local) ∧ okN x = true := by
  unfold Cc.sto at h
  rw [Bool.and_eq_true] at h
  have h1 := h.1
  split at h1
  · rename_i e
    have e' := O.raw x e
    rw [← O.sc] at e'
    exact ⟨.inl e', .inr e', h.2⟩
  · rename_i e
    obtain ⟨e1, e2⟩ := O.rawc x e
    rw [← O.sc] at e1
    exact ⟨.inr e1, .inl e2, h.2⟩
  · cases h1
theorem Okc.bi (O : Okc X W cf cv c) {x : Str} (h : c.bi x = true) : Gl X x ∧ X.mg x = none ∧ okN x = true := by
  unfold Cc.bi at h
  rw [Bool.and_eq_true] at h
  obtain ⟨h1, h2⟩ := O.gl h.1
  exact ⟨h1, O.bl x (of_decide_eq_true h.2), h2⟩
theorem Okc.var (O : Okc X W cf cv c) {x : Str} {i : Nat} {p : Pos} (h : c.vis x = true) (hi : ixOf c.N x = some i) : PE X (.Name x p) (tVar i) := by
  obtain ⟨h1, h2⟩ := O.vis h
  obtain ⟨h3, h4, _⟩ := okN_at h2
  exact pe_var (by rw [O.N]; exact ixOf_at hi) h1 h3 h4
/-! ### what is shown of a piece -/
structure Good (X : Cx) (W : WX) (cf : Nat → List Sl → Cr.CR) (cv : Nat → Value) (e : Expr) (ce : CE) : Prop where
  pe : PE X e (tE X.K W cv (evE cf ce))
  var : ∀ i, ce = .var i → PE X e (tVar i)
  ptB : tOk e = true → PT X e (tT X.K W cv fun ev => tstR (evE cf ce ev))
  pt : tOk e = true → PT X e (tT X.K W cv fun ev => tst ce (evE cf ce) ev)
theorem Good.op {e : Expr} {ce : CE} (g : Good X W cf cv e ce) : PE X e (tO X.K W cv fun ev => opd ce (evE cf ce) ev) := by
  cases ce with
  | var i => exact pe_Op (g.var i rfl)
  | _ => exact pe_Ov g.pe
theorem Good.arg {e : Expr} {ce : CE} (g : Good X W cf cv e ce) : PE X e (tO X.K W cv fun ev => argd ce (evE cf ce) ev) := by
  cases ce with
  | var i => exact pe_arg (g.var i rfl)
  | _ => exact pe_Ov g.pe
/-- a piece that is no test of its own -/
theorem Good.mk' {e : Expr} {ce : CE} (hp : plT e = true) (pe : PE X e (tE X.K W cv (evE cf ce))) (var : ∀ i, ce = .var i → PE X e (tVar i))
    (ht : ∀ ev, tst ce (evE cf ce) ev = (opd ce (evE cf ce) ev).bind fun o e => match o.get e with | some d => (match truD d with | some b => .ok b e | none => .er) | none => .er) : Good X W cf cv e ce := by
  have op : PE X e (tO X.K W cv fun ev => opd ce (evE cf ce) ev) := by
    cases ce with
    | var i => exact pe_Op (var i rfl)
    | _ => exact pe_Ov pe
  refine ⟨pe, var, fun _ => pt_B hp pe, fun _ => ?_⟩
  have h := pt_D hp op
  have e1 : (fun ev => tst ce (evE cf ce) ev) = fun ev => (opd ce (evE cf ce) ev).bind fun o e => match o.get e with | some d => (match truD d with | some b => .ok b e | none => .er) | none => .er := funext ht
  rw [e1]
  exact h
/-! ### lists -/
abbrev GoodF (X : Cx) (W : WX) (cf : Nat → List Sl → Cr.CR) (cv : Nat → Value) (f : Expr → Option CE) : Prop := ∀ e ce, f e = some ce → Good X W cf cv e ce
theorem mapL_cons {α β : Type} {f : α → Option β} {a : α} {r : List α} {l : List β} (h : mapL f (a :: r) = some l) : ∃ b m, f a = some b ∧ mapL f r = some m ∧ l = b :: m := by
  have h' : (match f a with | some b => (match mapL f r with | some l => some (b :: l) | none => none) | none => none) = some l := h
  cases w : f a with
  | none => rw [w] at h'; cases h'
  | some b =>
    cases w2 : mapL f r with
    | none => rw [w, w2] at h'; cases h'
    | some m => rw [w, w2] at h'; cases h'; exact ⟨b, m, rfl, rfl, rfl⟩
theorem mapL_nil {α β : Type} {f : α → Option β} {l : List β} (h : mapL f [] = some l) : l = [] := by cases h; rfl
theorem mapL_len {α β : Type} {f : α → Option β} : ∀ {a : List α} {l : List β}, mapL f a = some l → l.length = a.length
  | [], l, h => by cases h; rfl
  | a :: r, l, h => by
    obtain ⟨b, m, h1, h2, rfl⟩ := mapL_cons h
    exact congrArg Nat.succ (mapL_len h2)
theorem goodD {f : Expr → Option CE} (g : GoodF X W cf cv f) : ∀ {es : List Expr} {l : List CE}, es.all isPl = true → mapL f es = some l → PA X es (tDs X.K W cv fun ev => evL cf l ev)
  | [], l, _, h => by cases h; exact pa_D0
  | e :: es, l, hp, h => by
    rw [List.all_cons, Bool.and_eq_true] at hp
    obtain ⟨b, m, h1, h2, rfl⟩ := mapL_cons h
    exact pa_D1 hp.1 (g e b h1).pe (goodD g hp.2 h2)
theorem goodO {f : Expr → Option CE} (g : GoodF X W cf cv f) : ∀ {es : List Expr} {l : List CE}, es.all isPl = true → mapL f es = some l → PA X es (tOs X.K W cv fun ev => evO cf l ev)
  | [], l, _, h => by cases h; exact pa_O0
  | e :: es, l, hp, h => by
    rw [List.all_cons, Bool.and_eq_true] at hp
    obtain ⟨b, m, h1, h2, rfl⟩ := mapL_cons h
    exact pa_O1 hp.1 (g e b h1).op (goodO g hp.2 h2)
theorem goodA {f : Expr → Option CE} (g : GoodF X W cf cv f) : ∀ {es : List Expr} {l : List CE}, es.all isPl = true → mapL f es = some l → PA X es (tOs X.K W cv fun ev => evA cf l ev)
  | [], l, _, h => by cases h; exact pa_O0
  | e :: es, l, hp, h => by
    rw [List.all_cons, Bool.and_eq_true] at hp
    obtain ⟨b, m, h1, h2, rfl⟩ := mapL_cons h
    exact pa_O1 hp.1 (g e b h1).arg (goodA g hp.2 h2)
theorem goodR {f : Expr → Option CE} (g : GoodF X W cf cv f) : ∀ {es : List Expr} {l : List CE}, es.all isPl = true → mapL f es = some l → PA X es (tRs X.K W cv fun ev => evR cf l ev)
  | [], l, _, h => by cases h; exact pa_R0
  | e :: es, l, hp, h => by
    rw [List.all_cons, Bool.and_eq_true] at hp
    obtain ⟨b, m, h1, h2, rfl⟩ := mapL_cons h
    exact pa_R1 hp.1 (g e b h1).pe (goodR g hp.2 h2)
theorem goodK {f : Expr → Option CE} (g : GoodF X W cf cv f) : ∀ {kws : List Keyword} {l : List CE}, mapL f (kwE kws) = some l → PK X kws (tOs X.K W cv fun ev => evA cf l ev)
  | [], l, h => by cases h; exact pk_O0
  | ⟨n, v, p⟩ :: ks, l, h => by
    obtain ⟨b, m, h1, h2, rfl⟩ := mapL_cons h
    exact pk_O1 (g v b h1).arg (goodK g h2)
/-! ### targets -/
theorem tgtE {e : Expr} (h : ∀ t p, e ≠ .Starred t p) (es : List Expr) (env : Env) : assignEach (e :: es) env = (false, assign e env) :: assignEach es env := by
  cases e <;> first | rfl | exact absurd rfl (h _ _)
theorem sub_assign {o i : Expr} {pos : Pos} {env : Env} (h : isPl i = true) (v : Value) : assign (.Subscript o i pos) env v = (do
      let ov ← holding [v] (eval o env)
      let iv ← holding [v, ov] (eval i env)
      standAt pos
      holding [v, ov, iv] (setItem ov iv v)
      release [v, ov, iv] []) := by
  cases i <;> first | rfl | cases h
theorem cT_ok {rec : Cc → Expr → Option CE} (O : Okc X W cf cv c) (g : GoodF X W cf cv (rec c)) {S : List Nat} : ∀ (n : Nat) (e : Expr) (t : Tg), cT rec c n e = some t → (∀ j ∈ tgs t, j ∈ S) → PG X e (tA X.K W cv S fun r ev => evAsg cf t r ev) ∧ ∀ t' p, e ≠ .Starred t' p
  | 0, e, t, h, _ => by cases h
  | n + 1, e, t, h, hS => by
    cases e with
    | Name x p =>
      have h' : (if c.sto x = true then (ixOf c.N x).map Tg.name else none) = some t := h
      split at h'
      · rename_i hs
        cases w : ixOf c.N x with
        | none => rw [w] at h'; cases h'
        | some i =>
          rw [w] at h'
          cases h'
          obtain ⟨q1, q2, q3⟩ := O.sto hs
          exact ⟨pg_nameD (pg_name (by rw [O.N]; exact O.nd) (by rw [O.N]; exact ixOf_at w) q1 q2) (hS i (List.mem_singleton.mpr rfl)), fun _ _ q => by cases q⟩
      · cases h'
    | Tuple es k p =>
      have h' : (mapL (cT rec c n) es).map Tg.tup = some t := h
      cases w : mapL (cT rec c n) es with
      | none => rw [w] at h'; cases h'
      | some ts =>
        rw [w] at h'
        cases h'
        -- the parts
        have parts : ∀ (es : List Expr) (ts : List Tg), mapL (cT rec c n) es = some ts → (∀ j ∈ tgsL ts, j ∈ S) → PGs X es (tAs X.K W cv S fun rs ev => evAsgs cf ts rs ev) ∧ (assignEach es X.env).length = ts.length ∧ (assignEach es X.env).findIdx? (·.1) = none := by
          intro es
          induction es with
          | nil =>
            intro ts h _
            cases h
            refine ⟨?_, rfl, rfl⟩
            have := pgs_nilD (X := X) (K := X.K) (W := W) (cv := cv) (S := S)
            have e1 : (fun (rs : List Rv) (ev : Ev) => evAsgs cf [] rs ev) = fun rs e => match rs with | [] => .ok () e | _ => .er := by
              funext rs ev
              cases rs <;> rfl
            rw [e1]
            exact this
          | cons e es ih =>
            intro ts h hS
            obtain ⟨b, m, h1, h2, rfl⟩ := mapL_cons h
            obtain ⟨p1, p2⟩ := cT_ok O g n e b h1 fun j hj => hS j (List.mem_append_left _ hj)
            obtain ⟨q1, q2, q3⟩ := ih m h2 fun j hj => hS j (List.mem_append_right _ hj)
            refine ⟨?_, by rw [tgtE p2]; exact congrArg Nat.succ q2, ?_⟩
            · have := pgs_consD p1 q1 (by rw [tgtE p2]; rfl)
              have e1 : (fun (rs : List Rv) (ev : Ev) => evAsgs cf (b :: m) rs ev) = fun rs e => match rs with | r :: rs => (evAsg cf b r e).bind fun _ e => evAsgs cf m rs e | _ => .er := by
                funext rs ev
                cases rs <;> rfl
              rw [e1]
              exact this
            · rw [tgtE p2, List.findIdx?_cons, q3]
              rfl
        obtain ⟨q1, q2, q3⟩ := parts es ts w hS
        exact ⟨pg_tupD O.calm q1 q2 q3, fun _ _ q => by cases q⟩
    | Subscript o i p =>
      cases o with
      | Name x p2 =>
        have h' : (if c.vis x = true ∧ isPl i = true then (match ixOf c.N x, rec c i with | some k, some ce => some (Tg.sub k ce) | _, _ => none) else none) = some t := h
        split at h'
        · rename_i hs
          cases w : ixOf c.N x with
          | none => rw [w] at h'; cases h'
          | some k =>
            cases w2 : rec c i with
            | none => rw [w, w2] at h'; cases h'
            | some ce =>
              rw [w, w2] at h'
              cases h'
              exact ⟨pg_subD (O.var hs.1 w) (g i ce w2).op (sub_assign hs.2), fun _ _ q => by cases q⟩
        · cases h'
      | _ => cases h
    | _ => cases h
/-! ### iterators -/
theorem over_ok {rec : Cc → Expr → Option CE} (g : GoodF X W cf cv (rec c)) {tg e : Expr} {it : Cr.It} (h : cIo rec c e = some it) : PI X tg e (tI X.K W cv fun ev => evI cf it ev) := by
  unfold cIo at h
  split at h
  · cases w : rec c e with
    | none => rw [w] at h; cases h
    | some ce =>
      rw [w] at h
      cases h
      exact pi_overD (g e ce w).pe
  · cases h
theorem cI_ok {rec : Cc → Expr → Option CE} (O : Okc X W cf cv c) (g : GoodF X W cf cv (rec c)) {tg e : Expr} {it : Cr.It} (h : cI rec c tg e = some it) : PI X tg e (tI X.K W cv fun ev => evI cf it ev) := by
  unfold cI at h
  split at h
  · rename_i x p a pos
    split at h
    · rename_i e1
      subst e1
      split at h
      · rename_i hb
        obtain ⟨q1, q2, q3⟩ := O.bi hb.1
        cases w : rec c a with
        | none => rw [w] at h; cases h
        | some ce =>
          rw [w] at h
          cases h
          exact pi_rng1D q1 q2 hb.2 (g a ce w).op
      · cases h
    · split at h
      · rename_i e1
        subst e1
        split at h
        · rename_i hb
          obtain ⟨q1, q2, q3⟩ := O.bi hb.1
          cases w : rec c a with
          | none => rw [w] at h; cases h
          | some ce =>
            rw [w] at h
            cases h
            cases tg with
            | Tuple elts k tp => exact pi_enumD q1 q2 hb.2.1 (g a ce w).pe
            | _ => cases hb.2.2
        · cases h
      · exact over_ok g h
  · rename_i x p a b pos
    split at h
    · rename_i e1
      subst e1
      split at h
      · rename_i hb
        obtain ⟨q1, q2, q3⟩ := O.bi hb.1
        cases w : rec c a with
        | none => rw [w] at h; cases h
        | some ce =>
          cases w2 : rec c b with
          | none => rw [w, w2] at h; cases h
          | some ce2 =>
            rw [w, w2] at h
            cases h
            exact pi_rng2D q1 q2 hb.2.1 hb.2.2 (g a ce w).op (g b ce2 w2).op
      · cases h
    · split at h
      · rename_i e1
        subst e1
        split at h
        · rename_i hb
          obtain ⟨q1, q2, q3⟩ := O.bi hb.1
          cases w : rec c a with
          | none => rw [w] at h; cases h
          | some ce =>
            cases w2 : rec c b with
            | none => rw [w, w2] at h; cases h
            | some ce2 =>
              rw [w, w2] at h
              cases h
              cases tg with
              | Tuple elts k tp => exact pi_zipD q1 q2 hb.2.1 hb.2.2.1 (g a ce w).pe (g b ce2 w2).pe
              | _ => cases hb.2.2.2
        · cases h
      · exact over_ok g h
  · exact over_ok g h
end
end Cr
set_option Elab.async false
set_option linter.all false
set_option maxRecDepth 100000
set_option maxHeartbeats 4000000
namespace Cr
open PySem PySem.Spec PyProof.Rows L2
section
variable {X : Cx} {W : WX} {cf : Nat → List Sl → Cr.CR} {cv : Nat → Value} {c : Cc} {rec : Cc → Expr → Option CE}
/-! ### operators -/
theorem bin_ok {o : Operator} (h : binOk o = true) : OpR X (binaryOp o) (rBin X.K (binD o)) := by
  cases o <;> first | cases h | skip
  · exact bin_add
  · exact bin_sub
  · exact bin_mult
  · exact bin_mod
  · exact bin_pow
  · exact bin_fdiv
theorem cmp_ok (hu : X.A.units + 65 < cLine) (o : CmpOp) : OpR X (compareOp o) (rCm X.K (cmpD o)) := by
  cases o
  · exact cm_eq (by omega)
  · exact cm_ne (by omega)
  · exact cm_lt
  · exact cm_le
  · exact cm_gt
  · exact cm_ge
  · exact cm_is
  · exact cm_isNot
  · exact cm_in
  · exact cm_notIn
theorem blt_ok (O : Okg X cf cv c) {x : Str} {n : Nat} {f : Bt} (h : bltOf x n = some f) : (∃ id, bootBuiltins x = some (.builtin id) ∧ CallR X (.builtin id) (rMany X.K (bltD f))) ∨ ∃ T, bootBuiltins x = some (.type T) ∧ CallR X (.type T) (rMany X.K (bltD f)) := by
  unfold bltOf at h
  cases w : bltTab.find? fun p => decide (p.1 = x) && decide (p.2.1 = n) with
  | none => rw [w] at h; cases h
  | some p =>
    rw [w] at h
    have h1 := List.find?_some w
    have h2 := List.mem_of_find?_eq_some w
    rw [Bool.and_eq_true] at h1
    have ex : p.1 = x := of_decide_eq_true h1.1
    subst ex
    have ef : p.2.2 = f := Option.some.inj h
    subst ef
    have hu := O.un
    simp only [bltTab, List.mem_cons, List.not_mem_nil, or_false] at h2
    rcases h2 with rfl | rfl | rfl | rfl | rfl | rfl | rfl | rfl | rfl | rfl | rfl | rfl | rfl | rfl
    · exact .inl ⟨"len", by decide +kernel, bt_len⟩
    · exact .inl ⟨"sum", by decide +kernel, bt_sum O.calm⟩
    · exact .inl ⟨"min", by decide +kernel, bt_min O.calm (by omega)⟩
    · exact .inl ⟨"max", by decide +kernel, bt_max O.calm (by omega)⟩
    · exact .inl ⟨"min", by decide +kernel, bt_min2 O.calm⟩
    · exact .inl ⟨"max", by decide +kernel, bt_max2 O.calm⟩
    · exact .inl ⟨"all", by decide +kernel, bt_all O.calm⟩
    · exact .inl ⟨"any", by decide +kernel, bt_any O.calm⟩
    · exact .inr ⟨"tuple", by decide +kernel, bt_tuple⟩
    · exact .inr ⟨"list", by decide +kernel, bt_list⟩
    · exact .inr ⟨"int", by decide +kernel, bt_int⟩
    · exact .inl ⟨"abs", by decide +kernel, bt_abs⟩
    · exact .inl ⟨"repr", by decide +kernel, bt_repr O.gd (by omega) O.sys⟩
    · exact .inl ⟨"sorted", by decide +kernel, bt_sorted⟩
theorem ty_ok {x : Str} {t : Ty} (h : tyOf x = some t) : bootBuiltins x = some (.type t.n) := by
  unfold tyOf at h
  cases w : tyTab.find? fun p => decide (p.1 = x) with
  | none => rw [w] at h; cases h
  | some p =>
    rw [w] at h
    have h1 := List.find?_some w
    have h2 := List.mem_of_find?_eq_some w
    have ex : p.1 = x := of_decide_eq_true h1
    subst ex
    have ef : p.2 = t := Option.some.inj h
    subst ef
    simp only [tyTab, List.mem_cons, List.not_mem_nil, or_false] at h2
    rcases h2 with rfl | rfl | rfl | rfl | rfl <;> decide +kernel
theorem mm_ok {x : Str} {n : Nat} {m : Mm} (h : mmOf x n = some m) : m.nm = x := by
  unfold mmOf at h
  cases w : mmTab.find? fun p => decide (p.1 = x) && decide (p.2.1 = n) with
  | none => rw [w] at h; cases h
  | some p =>
    rw [w] at h
    have h1 := List.find?_some w
    have h2 := List.mem_of_find?_eq_some w
    rw [Bool.and_eq_true] at h1
    have ex : p.1 = x := of_decide_eq_true h1.1
    subst ex
    have ef : p.2.2 = m := Option.some.inj h
    subst ef
    simp only [mmTab, List.mem_cons, List.not_mem_nil, or_false] at h2
    rcases h2 with rfl | rfl | rfl | rfl | rfl <;> rfl
/-! ### and, or -/
structure GoodB (X : Cx) (W : WX) (cf : Nat → List Sl → Cr.CR) (cv : Nat → Value) (op : BoolOp) (es : List Expr) (ce : CE) : Prop where
  pe : ∀ pos, PE X (.BoolOp op es pos) (tE X.K W cv (evE cf ce))
  pw : ∀ pos, PW X (.BoolOp op es pos) (tT X.K W cv fun ev => tstR (evE cf ce ev))
theorem cB_ok (g : GoodF X W cf cv (rec c)) {op : BoolOp} : ∀ {es : List Expr} {ce : CE}, cB rec c op es = some ce → GoodB X W cf cv op es ce
  | [], ce, h => by cases h
  | [a], ce, h => by
    have h' : (if tOk a = true then rec c a else none) = some ce := h
    split at h'
    · rename_i ht
      have ga := g a ce h'
      refine ⟨fun pos => pe_one ga.pe, fun pos => ?_⟩
      cases op with
      | And => exact pw_and1 (ga.ptB ht)
      | Or => exact pw_or1 (ga.ptB ht)
    · cases h'
  | a :: b :: r, ce, h => by
    have h' : (if tOk a = true then (match rec c a, cB rec c op (b :: r) with
      | some x, some y => some (boE op x y)
      | _, _ => none) else none) = some ce := h
    split at h'
    · rename_i ht
      cases w : rec c a with
      | none => rw [w] at h'; cases h'
      | some x =>
        cases w2 : cB rec c op (b :: r) with
        | none => rw [w, w2] at h'; cases h'
        | some y =>
          rw [w, w2] at h'
          cases h'
          have ga := g a x w
          have gb := cB_ok g w2
          cases op with
          | And => exact ⟨fun pos => pe_andD ga.pe (gb.pe pos), fun pos => pw_andD (ga.ptB ht) (gb.pw pos)⟩
          | Or => exact ⟨fun pos => pe_orD ga.pe (gb.pe pos), fun pos => pw_orD (ga.ptB ht) (gb.pw pos)⟩
    · cases h'
theorem cB_head {op : BoolOp} {a b : Expr} {r : List Expr} {ce : CE} (h : cB rec c op (a :: b :: r) = some ce) : ∃ x y, ce = .and_ x y ∨ ce = .or_ x y := by
  have h' : (if tOk a = true then (match rec c a, cB rec c op (b :: r) with
      | some x, some y => some (boE op x y)
      | _, _ => none) else none) = some ce := h
  split at h'
  · split at h'
    · cases h'
      cases op
      · exact ⟨_, _, .inl rfl⟩
      · exact ⟨_, _, .inr rfl⟩
    · cases h'
  · cases h'
/-! ### calls -/
theorem call_ok (O : Okc X W cf cv c) (g : GoodF X W cf cv (rec c)) {x : Str} {p pos : Pos} {es : List Expr} {kws : List Keyword} {ce : CE} (h : cCall rec c x es kws = some ce) : Good X W cf cv (.Call (.Name x p) es kws pos) ce := by
  unfold cCall at h
  split at h
  · split at h
    · rename_i hg
      obtain ⟨gx, ox⟩ := O.gl hg.1
      obtain ⟨o1, o2, o3⟩ := okN_at ox
      split at h
      · rename_i f hf
        obtain ⟨fa, fd, ps, k, F, hr, hm, hk, hb, _⟩ := O.fns x f hf
        cases w : mapL (rec c) es with
        | none => rw [w] at h; cases h
        | some l =>
          rw [w] at h
          cases h
          refine Good.mk' rfl ?_ (fun i q => by cases q) fun ev => rfl
          cases es with
          | nil =>
            cases w
            exact pe_callD0 F hr O.gd gx hm hk hb O.tk o1
          | cons e es => exact pe_callD F hr O.gd gx hm hk hb O.tk (goodA g hg.2 w) o1 hg.2
      · split at h
        · rename_i hbl
          have hm := O.bl x hbl
          have blt : ∀ {f : Bt} {l : List CE} {e : Expr} {es : List Expr}, bltOf x (e :: es).length = some f → mapL (rec c) (e :: es) = some l → (e :: es).all isPl = true → Good X W cf cv (.Call (.Name x p) (e :: es) [] pos) (.blt f l) := fun {f l e es} hf hl hp => by
            refine Good.mk' rfl ?_ (fun i q => by cases q) fun ev => rfl
            rcases blt_ok O.toOkg hf with ⟨id, h1, h2⟩ | ⟨T, h1, h2⟩
            · exact pe_bltD h2 gx hm h1 hp (goodO g hp hl) o3 o1
            · exact pe_bltT h2 gx hm h1 hp (goodO g hp hl) o3 o1
          split at h
          · rename_i a t tp
            split at h
            · rename_i e1
              subst e1
              split at h
              · rename_i ht
                obtain ⟨q1, q2, q3⟩ := O.bi ht
                obtain ⟨o4, o5, o6⟩ := okN_at q3
                cases w : rec c a with
                | none => rw [w] at h; cases h
                | some pa =>
                  cases w2 : tyOf t with
                  | none => rw [w, w2] at h; cases h
                  | some ty =>
                    rw [w, w2] at h
                    cases h
                    have hp : isPl a = true := by
                      have := hg.2
                      rw [List.all_cons, Bool.and_eq_true] at this
                      exact this.1
                    exact Good.mk' rfl (pe_isi gx hm q1 q2 (ty_ok w2) o6 o4 hp (g a pa w).op) (fun i q => by cases q) fun ev => rfl
              · cases h
            · split at h
              · rename_i f l hf hl
                cases h
                exact blt hf hl hg.2
              · cases h
          · cases h
          · rename_i hne1 hne2
            split at h
            · rename_i f l hf hl
              cases h
              cases es with
              | nil => exact (hne2 rfl).elim
              | cons e es => exact blt hf hl hg.2
            · cases h
        · cases h
    · cases h
  · rename_i hne
    split at h
    · rename_i hg
      obtain ⟨gx, ox⟩ := O.gl hg.1
      obtain ⟨o1, o2, o3⟩ := okN_at ox
      split at h
      · rename_i f ks hf hks
        obtain ⟨fa, fd, ps, k, F, hr, hm, hk, hb, hkw⟩ := O.fns x f hf
        split at h
        · rename_i q hq
          have h1 := List.find?_some hq
          have h2 := List.mem_of_find?_eq_some hq
          rw [Bool.and_eq_true, Bool.and_eq_true] at h1
          obtain ⟨n1, n2, n3, n4⟩ := q
          have e1 : n1 = x := of_decide_eq_true h1.1.1
          have e2 : n2 = es.length := of_decide_eq_true h1.1.2
          have e3 : n3 = ks := of_decide_eq_true h1.2
          subst e1 e2 e3
          split at h
          · cases h
          · rename_i hp
            split at h
            · rename_i l m hl hm2
              cases h
              have kb := hkw _ _ _ h2
              refine Good.mk' rfl ?_ (fun i q => by cases q) fun ev => rfl
              have hlk : m.length = kws.length := by
                rw [mapL_len hm2]
                have : ∀ k : List Keyword, (kwE k).length = k.length := fun k => by
                  induction k with
                  | nil => rfl
                  | cons a r ih => obtain ⟨n, v, p⟩ := a; exact congrArg Nat.succ ih
                exact this kws
              have e4 : evE cf (.callk f n4 l m) = callkR cf f n4 es.length kws.length (fun ev => evA cf l ev) (fun ev => evA cf m ev) := by
                funext ev
                show ((evA cf l ev).bind fun o1 e => (evA cf m e).bind fun o2 e => if o1.length = l.length ∧ o2.length = m.length then callR cf f n4 (o1 ++ o2) e else .er) = _
                rw [mapL_len hl, hlk]
                rfl
              rw [e4]
              cases es with
              | nil =>
                cases hl
                exact pe_callkD0 F hr O.gd gx hm hk kb O.tk (goodK g hm2) hks hp o1
              | cons e es => exact pe_callkD F hr O.gd gx hm hk kb O.tk (goodA g hg.2 hl) (goodK g hm2) hks hp o1 hg.2
            · cases h
        · cases h
      · cases h
    · cases h
end
end Cr
set_option Elab.async false
set_option linter.all false
set_option maxRecDepth 100000
set_option maxHeartbeats 4000000
namespace Cr
open PySem PySem.Spec PyProof.Rows L2
section
variable {X : Cx} {W : WX} {cf : Nat → List Sl → Cr.CR} {cv : Nat → Value} {c : Cc} {rec : Cc → Expr → Option CE}
def condO (cf : Nat → List Sl → Cr.CR) (q : Option CE) : Ev → Rs Bool :=
  match q with
  | some q => fun e => tst q (evE cf q) e
  | none => fun e => .ok true e
abbrev compCx (X : Cx) (s : Shared) (H : Hp) (scope : Scope) (C : Addr) (cl : List (Str × Addr)) (fp : List Addr) : Cx := X.blk s H scope (compEnvC scope cl C X.env) fp
theorem Okc.blk (O : Okc X W cf cv c) {scope : Scope} {own : List (Str × Nat)} (hb : blkC c.N c.sc scope own = true) (s : Shared) (H : Hp) (C : Addr) (cl : List (Str × Addr)) (fp : List Addr) : Okc (compCx X s H scope C cl fp) WF cf cv { c with sc := relS scope c.sc, raw := scope } := by
  have hk : scope.kind = .function := (blkOk_by hb).kind
  refine ⟨⟨O.N, O.nd, O.calm, O.gd, O.un, O.sys, O.fns, O.cst, O.bl, O.exs⟩, ?_, hk, fun x h => ?_, fun x h => ⟨?_, ?_⟩, ?_⟩
  · show relS scope X.env.scope = relS scope c.sc
    rw [O.sc]
  · exact lookup_relS_keep (by decide) h
  · exact lookup_relS_keep (by decide) h
  · show (scope.names.lookup x == some NameKind.cell) = true
    have h' : scope.names.lookup x = some .cell := h
    rw [h']
    rfl
  · intro u s' ⟨_, _, _, _, _, _, _, _, _, _, _, _, _, _, _, _, w⟩
    exact w.elim
theorem attrBase {o : Expr} {m : Str} {env : Env} {w : Sem Value} (h : ∀ f as ks p, o ≠ .Call f as ks p) : attributeBase o m env w = w := by
  cases o <;> first | rfl | exact absurd rfl (h _ _ _ _)
theorem wipe_ok_own {own : List (Str × Nat)} {t : Tg} (h : (tgs t).all (fun j => decide (j ∈ own.map (·.2))) = true) : ∀ j ∈ tgs t, j ∈ own.map (·.2) := fun j hj => of_decide_eq_true (List.all_eq_true.mp h j hj)
/-- a comprehension's reading, for a value and for a name's store -/
theorem comp_red (O : Okc X W cf cv c) {it : Cr.It} {t : Tg} {q : Option CE} {f : CE} {own : List (Str × Nat)} (ht : ∀ j ∈ tgs t, j ∈ own.map (·.2)) {σ : L2.St} {H : Hp} {Q : VK} (w : tE X.K W cv (evE cf (.comp (own.map (·.2)) t it q f)) σ H Q) :
    tLc (tI X.K W cv fun ev => evI cf it ev) (tA X.K WF cv (own.map (·.2)) fun r ev => evAsg cf t r ev) (tT X.K WF cv (condO cf q)) (tE X.K WF cv (evE cf f)) (own.map (·.2)) σ H Q :=
  by cases q <;> exact lc_red (fun j hj => hj) w
abbrev GoodAll (cf : Nat → List Sl → Cr.CR) (cv : Nat → Value) (rec : Cc → Expr → Option CE) : Prop := ∀ (X : Cx) (W : WX) (c : Cc) (e : Expr) (ce : CE), Okc X W cf cv c → rec c e = some ce → Good X W cf cv e ce
structure CompOk (X : Cx) (W : WX) (cf : Nat → List Sl → Cr.CR) (cv : Nat → Value) (elt tg iter : Expr) (ifs : List Expr) (scope : Scope) (own : List (Str × Nat)) (t : Tg) (it : Cr.It) (q : Option CE) (f : CE) : Prop where
  blk : BlkOk X.N X.env.scope scope own
  pi : PI X tg iter (tI X.K W cv fun ev => evI cf it ev)
  pg : ∀ (s : Shared) (H : Hp) (C : Addr) (cl : List (Str × Addr)) (fp : List Addr), PG (compCx X s H scope C cl fp) tg (tA X.K WF cv (own.map (·.2)) fun r ev => evAsg cf t r ev)
  pt : ∀ (s : Shared) (H : Hp) (C : Addr) (cl : List (Str × Addr)) (fp : List Addr), PTs (compCx X s H scope C cl fp) ifs (tT X.K WF cv (condO cf q))
  pe : ∀ (s : Shared) (H : Hp) (C : Addr) (cl : List (Str × Addr)) (fp : List Addr), PE (compCx X s H scope C cl fp) elt (tE X.K WF cv (evE cf f))
  own : ∀ j ∈ tgs t, j ∈ own.map (·.2)
  pl : isPl iter = true
theorem comp_ok (O : Okc X W cf cv c) (G : GoodAll cf cv rec) {elt tg iter : Expr} {ifs : List Expr} {scope : Scope} {pos : Pos} {ce : CE} (h : stepE rec c (.ListComp elt [⟨tg, iter, ifs, 0⟩] scope pos) = some ce) :
    ∃ own t it q f, ce = .comp (own.map (·.2)) t it q f ∧ CompOk X W cf cv elt tg iter ifs scope own t it q f := by
  have h00 : cComp1 rec c elt tg iter ifs scope = some ce := h
  have h' : (if blkC c.N c.sc scope (ownOf c.N scope) = true ∧ isPl iter = true then
      (match cI rec c tg iter, cT rec { c with sc := relS scope c.sc, raw := scope } 8 tg, rec { c with sc := relS scope c.sc, raw := scope } elt with
      | some it, some t, some f => if (tgs t).all (fun j => decide (j ∈ (ownOf c.N scope).map (·.2))) = true then (match ifs with
        | [] => some (CE.comp ((ownOf c.N scope).map (·.2)) t it none f)
        | [q] => if tOk q = true then (rec { c with sc := relS scope c.sc, raw := scope } q).map fun q => .comp ((ownOf c.N scope).map (·.2)) t it (some q) f else none
        | _ => none) else none
      | _, _, _ => none) else none) = some ce := h00
  split at h'
  · rename_i hb
    split at h'
    · rename_i it t f h1 h2 h3
      split at h'
      · rename_i ht
        have hown := wipe_ok_own ht
        have hbk : BlkOk X.N X.env.scope scope (ownOf c.N scope) := by
          rw [O.N, O.sc]
          exact blkOk_by hb.1
        have pg : ∀ (s : Shared) (H : Hp) (C : Addr) (cl : List (Str × Addr)) (fp : List Addr), PG (compCx X s H scope C cl fp) tg (tA X.K WF cv ((ownOf c.N scope).map (·.2)) fun r ev => evAsg cf t r ev) := fun s H C cl fp =>
          (cT_ok (O.blk hb.1 s H C cl fp) (fun e ce => G _ _ _ e ce (O.blk hb.1 s H C cl fp)) 8 tg t h2 hown).1
        have pe : ∀ (s : Shared) (H : Hp) (C : Addr) (cl : List (Str × Addr)) (fp : List Addr), PE (compCx X s H scope C cl fp) elt (tE X.K WF cv (evE cf f)) := fun s H C cl fp =>
          (G _ _ _ elt f (O.blk hb.1 s H C cl fp) h3).pe
        have pi := cI_ok O (fun e ce => G X W c e ce O) h1
        split at h'
        · cases h'
          refine ⟨ownOf c.N scope, t, it, none, f, rfl, hbk, pi, pg, fun s H C cl fp => ⟨fun pins s σ H Q I ⟨F, e, Z, R, p⟩ => pts_nil.run pins s σ H Q I (p true H Z R .refl rfl)⟩, pe, hown, hb.2⟩
        · rename_i q
          split at h'
          · rename_i hq
            cases w : rec { c with sc := relS scope c.sc, raw := scope } q with
            | none => rw [w] at h'; cases h'
            | some cq =>
              rw [w] at h'
              cases h'
              exact ⟨ownOf c.N scope, t, it, some cq, f, rfl, hbk, pi, pg, fun s H C cl fp => pts_one ((G _ _ _ q cq (O.blk hb.1 s H C cl fp) w).pt hq), pe, hown, hb.2⟩
          · cases h'
        · cases h'
      · cases h'
    · cases h'
  · cases h'
theorem comp_shape {elt : Expr} {gens : List Comprehension} {scope : Scope} {p : Pos} {e : CE} (h : stepE rec c (.ListComp elt gens scope p) = some e) : ∃ tg iter ifs, gens = [⟨tg, iter, ifs, 0⟩] := by
  have h' : cComp rec c elt gens scope = some e := h
  unfold cComp at h'
  split at h'
  · rename_i tg iter ifs a
    split at h'
    · rename_i ha
      subst ha
      exact ⟨_, _, _, rfl⟩
    · cases h'
  · cases h'
theorem CompOk.val (O : Okc X W cf cv c) {elt tg iter : Expr} {ifs : List Expr} {scope : Scope} {own : List (Str × Nat)} {t : Tg} {it : Cr.It} {q : Option CE} {f : CE} {pos : Pos} (h : CompOk X W cf cv elt tg iter ifs scope own t it q f) :
    PE X (.ListComp elt [⟨tg, iter, ifs, 0⟩] scope pos) (tE X.K W cv (evE cf (.comp (own.map (·.2)) t it q f))) :=
  (pe_lc O.calm (by rw [O.N]; exact O.nd) h.pi h.blk h.pg h.pt h.pe (plSet h.pl _)).imp fun σ H Q w => comp_red O h.own w
theorem stepE_ok (G : GoodAll cf cv rec) {e : Expr} {ce : CE} (O : Okc X W cf cv c) (h : stepE rec c e = some ce) : Good X W cf cv e ce := by
  have g : GoodF X W cf cv (rec c) := fun e ce => G X W c e ce O
  have h0 := h
  unfold stepE at h
  split at h
  · cases h; exact Good.mk' rfl (pe_const pe_int fun _ => .int _) (fun i q => (by cases q)) fun ev => rfl
  · cases h; exact Good.mk' rfl (pe_const pe_bl fun _ => .bl _) (fun i q => (by cases q)) fun ev => rfl
  · cases h; exact Good.mk' rfl (pe_const pe_non fun _ => .non) (fun i q => (by cases q)) fun ev => rfl
  · cases h; exact Good.mk' rfl (pe_const pe_str fun _ => .str _) (fun i q => (by cases q)) fun ev => rfl
  · rename_i x p
    split at h
    · rename_i hv
      cases w : ixOf c.N x with
      | none => rw [w] at h; cases h
      | some i =>
        rw [w] at h
        cases h
        have pv := O.var (p := p) hv w
        exact Good.mk' rfl (pe_rd pv) (fun j q => by cases q; exact pv) fun ev => rfl
    · split at h
      · rename_i hg
        obtain ⟨gx, ox⟩ := O.gl hg
        obtain ⟨o1, o2, o3⟩ := okN_at ox
        cases w : c.cst.lookup x with
        | none => rw [w] at h; cases h
        | some d =>
          rw [w] at h
          cases h
          obtain ⟨v, u, h1, h2, h3⟩ := O.cst x d w
          exact Good.mk' rfl (pe_const (pe_glob gx h1 h2 o1) fun _ => h3 _) (fun i q => (by cases q)) fun ev => rfl
      · cases h
  · rename_i es k p
    split at h
    · rename_i hp
      cases w : mapL (rec c) es with
      | none => rw [w] at h; cases h
      | some l =>
        rw [w] at h
        cases h
        exact Good.mk' rfl (pe_tupD (goodD g hp w)) (fun i q => (by cases q)) fun ev => rfl
    · cases h
  · rename_i es p
    split at h
    · rename_i hp
      cases w : mapL (rec c) es with
      | none => rw [w] at h; cases h
      | some l =>
        rw [w] at h
        cases h
        exact Good.mk' rfl (pe_lstD (goodD g hp w)) (fun i q => (by cases q)) fun ev => rfl
    · cases h
  · cases h; exact Good.mk' rfl pe_dictD (fun i q => (by cases q)) fun ev => rfl
  · rename_i a o b p
    split at h
    · rename_i hb
      split at h
      · rename_i x y h1 h2
        cases h
        exact Good.mk' rfl ((pe_op (bin_ok hb) (g a x h1).op (g b y h2).op).imp fun σ H Q w => bin_red w) (fun i q => (by cases q)) fun ev => rfl
      · cases h
    · cases h
  · rename_i a p
    cases w : rec c a with
    | none => rw [w] at h; cases h
    | some x =>
      rw [w] at h
      cases h
      exact Good.mk' rfl ((pe_un un_negD (g a x w).op).imp fun σ H Q w => un_red w) (fun i q => (by cases q)) fun ev => rfl
  · rename_i a p
    split at h
    · rename_i ht
      cases w : rec c a with
      | none => rw [w] at h; cases h
      | some x =>
        rw [w] at h
        cases h
        exact ⟨pe_notD (g a x w).pe, (fun i q => by cases q), fun _ => pt_notD ((g a x w).ptB ht), fun _ => pt_notD ((g a x w).ptB ht)⟩
    · cases h
  · rename_i op a b r p
    have gb := cB_ok g h
    obtain ⟨x, y, hxy⟩ := cB_head h
    refine ⟨gb.pe p, fun i q => ?_, fun _ => (gb.pw p).pt, fun _ => ?_⟩
    · rcases hxy with rfl | rfl <;> cases q
    · rcases hxy with rfl | rfl <;> exact (gb.pw p).pt
  · rename_i t a b p
    split at h
    · rename_i ht
      split at h
      · rename_i x y z h1 h2 h3
        cases h
        exact ⟨pe_ifD ((g t x h1).pt ht) (g a y h2).pe (g b z h3).pe, (fun i q => by cases q), (fun q => by cases q), (fun q => by cases q)⟩
      · cases h
    · cases h
  · rename_i a o b p
    split at h
    · rename_i hp
      split at h
      · rename_i x y h1 h2
        cases h
        have pt := pt_cmpD (pos := p) (cmp_ok O.un o) (g a x h1).op (g b y h2).op hp
        exact ⟨pe_cmpD (cmp_ok O.un o) (g a x h1).op (g b y h2).op hp, (fun i q => by cases q), fun _ => pt, fun _ => pt⟩
      · cases h
    · cases h
  · rename_i a o o2 b d p
    split at h
    · rename_i hp
      split at h
      · rename_i x y z h1 h2 h3
        cases h
        have pt := pt_chainD (pos := p) (cmp_ok O.un o) (cmp_ok O.un o2) (g a x h1).op (g b y h2).op (g d z h3).op hp.1 hp.2
        exact ⟨pe_chainD (cmp_ok O.un o) (cmp_ok O.un o2) (g a x h1).op (g b y h2).op (g d z h3).op hp.1 hp.2, (fun i q => by cases q), fun _ => pt, fun _ => pt⟩
      · cases h
    · cases h
  · rename_i a k1 p1 p2 p3 p4
    cases w : rec c a with
    | none => rw [w] at h; cases h
    | some x =>
      rw [w] at h
      cases h
      exact Good.mk' rfl ((pe_revD (g a x w).op).imp fun σ H Q w => un_red w) (fun i q => (by cases q)) fun ev => rfl
  · rename_i a p1 p2
    cases w : rec c a with
    | none => rw [w] at h; cases h
    | some x =>
      rw [w] at h
      cases h
      exact Good.mk' rfl (pe_slcD (g a x w).op po_D0 po_D0) (fun i q => (by cases q)) fun ev => rfl
  · rename_i a l p1 p2
    split at h
    · rename_i x y h1 h2
      cases h
      exact Good.mk' rfl (pe_slcD (g a x h1).op (po_D1 (g l y h2).op) po_D0) (fun i q => (by cases q)) fun ev => rfl
    · cases h
  · rename_i a l p1 p2
    split at h
    · rename_i x y h1 h2
      cases h
      exact Good.mk' rfl (pe_slcD (g a x h1).op po_D0 (po_D1 (g l y h2).op)) (fun i q => (by cases q)) fun ev => rfl
    · cases h
  · rename_i a l l2 p1 p2
    split at h
    · rename_i x y z h1 h2 h3
      cases h
      exact Good.mk' rfl (pe_slcD (g a x h1).op (po_D1 (g l y h2).op) (po_D1 (g l2 z h3).op)) (fun i q => (by cases q)) fun ev => rfl
    · cases h
  · rename_i a i p _ _ _ _ _
    split at h
    · rename_i hp
      split at h
      · rename_i x y h1 h2
        cases h
        exact Good.mk' rfl ((pe_ix ix_D (g a x h1).op (g i y h2).op (plIx hp)).imp fun σ H Q w => bin_red w) (fun i q => (by cases q)) fun ev => rfl
      · cases h
    · cases h
  · exact call_ok O g h
  · rename_i x p m ap es pos
    split at h
    · rename_i hc
      obtain ⟨hv, hp, hl, hline⟩ := hc
      split at h
      · rename_i i mm l h1 h2 h3
        cases h
        have hn := mm_ok h2
        subst hn
        have pv := O.var (p := p) hv h1
        have hb : attributeBase (.Name x p) mm.nm X.env (eval (.Name x p) X.env) = eval (.Name x p) X.env := rfl
        have hln : (ap.endLine == pos.line) = true := by simp [hline]
        refine Good.mk' rfl ?_ (fun i q => (by cases q)) fun ev => rfl
        cases es with
        | nil =>
          cases h3
          exact pe_mmD0 pv hb hln
        | cons e es =>
          refine pe_mmD pv (goodD g hp h3) hp hb ?_ hln
          have a1 : (backTo pos (starEach (e :: es) X.env)).any (·.1) = false := backTo_any _ _ (starAll _ _ hp)
          have a2 : (backTo pos (starEach (e :: es) X.env)).all (fun x => !x.1) = true := by
            rw [List.all_eq_not_any_not]
            simp only [Bool.not_not]
            rw [a1]
            rfl
          rw [a2]
          have a3 : (backToKw pos (keywordEach [] X.env)).all (fun x => x.1.isSome) = true := rfl
          rw [a3]
          simpa using hl
      · cases h
    · cases h
  · rename_i elt gens scope p
    obtain ⟨tg, iter, ifs, rfl⟩ := comp_shape h0
    obtain ⟨own, t, it, q, f, rfl, C⟩ := comp_ok O G h0
    exact Good.mk' rfl (C.val O) (fun i q => (by cases q)) fun ev => rfl
  · cases h
theorem cE_ok (n : Nat) : GoodAll cf cv (cE n) := by
  induction n with
  | zero => intro X W c e ce O h; cases h
  | succ n ih => intro X W c e ce O h; exact stepE_ok ih O h
end
end Cr
set_option Elab.async false
set_option linter.all false
set_option maxRecDepth 100000
set_option maxHeartbeats 4000000
namespace Cr
open PySem PySem.Spec PyProof.Rows L2
section
variable {X : Cx} {W : WX} {cf : Nat → List Sl → Cr.CR} {cv : Nat → Value} {c : Cc}
theorem swP_ok {ts vs : List Expr} {k k2 : Nat} {p p2 : Pos} {env : Env} {r : Option (List Str)} (hk : env.scope.kind = .function) (h : swP ts vs env.scope = some r) : swappedStores [.Tuple ts k p] (.Tuple vs k2 p2) env = pure r := by
  have hb : env.blockKind = env.scope.kind := by unfold Env.blockKind; rw [hk]; rfl
  have ek : ∀ x, env.kindOf x = env.scope.names.lookup x := fun _ => rfl
  unfold swP at h
  unfold swappedStores
  simp only [hb, ek]
  split at h
  · rename_i h1
    cases h
    simp only [h1, if_true]
  · rename_i h1
    refine (if_neg h1).trans ?_
    split at h
    · rename_i h2
      cases h
      exact if_pos h2
    · rename_i h2
      refine (if_neg h2).trans ?_
      split at h
      · rename_i h3
        cases h
        exact if_pos h3
      · rename_i h3
        refine (if_neg h3).trans ?_
        split at h
        · rename_i h4
          cases h
          exact if_pos h4
        · rename_i h4
          refine (if_neg h4).trans ?_
          split at h
          · cases h
          · rename_i h5
            cases h
            exact if_neg h5
theorem sw_plain {v : Expr} {t : Option Expr} {l : Nat} {env : Env} (h : isComp v = false) : swapsWith v t l env = pure false := by
  cases v <;> first | rfl | cases h
theorem sws_plain {v t : Expr} {l : Nat} {env : Env} (h : isComp v = false) : swapsWithSole [t] v l env = pure false := sw_plain h
theorem bindOk (m : Rs Unit) : (m.bind fun _ e => Rs.ok () e) = m := by
  cases m <;> rfl
/-- a name's own comprehension -/
theorem setComp (O : Okc X W cf cv c) (n : Nat) {x : Str} {p pos : Pos} {elt tg iter : Expr} {ifs : List Expr} {scope : Scope} {cpos : Pos} {i : Nat} {ce : CE} (hs : c.sto x = true) (hi : ixOf c.N x = some i) (h : cE n c (.ListComp elt [⟨tg, iter, ifs, 0⟩] scope cpos) = some ce) :
    PS X (.Assign [.Name x p] (.ListComp elt [⟨tg, iter, ifs, 0⟩] scope cpos) pos) (tS X.K W cv fun e => (evE cf ce e).bind fun r e => (store i r.sl e).bind fun _ e => .ok .nx e) := by
  obtain ⟨q1, q2, q3⟩ := O.sto hs
  have hN : X.N.Nodup := by rw [O.N]; exact O.nd
  have hx : X.N[i]? = some x := by rw [O.N]; exact ixOf_at hi
  have hk : X.env.scope.kind = .function := by rw [O.sc]; exact O.kind
  have hb : X.env.blockKind = .function := by unfold Env.blockKind; rw [hk]; rfl
  have pg : PG X (.Name x p) (tA X.K W cv [i] fun r e => store i r.sl e) := pg_nameD (pg_name hN hx q1 q2) (List.mem_singleton.mpr rfl)
  by_cases sw : (X.env.kindOf x == some .local && p.line == cpos.line && !(scope.names.any fun (n, k) => n == x && (k == .local || k == .cell))) = true
  · have hsw : swapsWith (.ListComp elt [⟨tg, iter, ifs, 0⟩] scope cpos) (some (.Name x p)) pos.line X.env = pure true := by
      unfold swapsWith
      have : (X.env.blockKind == .function && X.env.kindOf x == some .local && p.line == cpos.line && !(scope.names.any fun (n, k) => n == x && (k == .local || k == .cell))) = true := by
        rw [hb]
        simpa using sw
      show (pure _ : Sem Bool) = pure true
      rw [show (Expr.pos (.ListComp elt [⟨tg, iter, ifs, 0⟩] scope cpos)) = cpos from rfl]
      rw [this]
    have hl : X.env.scope.names.lookup x = some .local := by
      rw [Bool.and_eq_true, Bool.and_eq_true] at sw
      have := sw.1.1
      have w : X.env.kindOf x = some .local := by simpa using this
      exact w
    cases n with
    | zero => cases h
    | succ n =>
      obtain ⟨own, t, it, q, f, rfl, C⟩ := comp_ok O (cE_ok n) h
      refine (ps_setLc O.calm hN hx hl hsw C.pi C.blk C.pg C.pt C.pe (plSet C.pl _)).imp fun D σ H w => ?_
      have w2 := asg_red (S := [i]) w
      have w3 := comp_red O C.own w2
      -- the store's reading
      exact (show ∀ {Q Q' : VK}, (∀ v H, Q v H → Q' v H) → tLc _ _ _ _ _ σ H Q → tLc _ _ _ _ _ σ H Q' from fun {Q Q'} hq => by
        rintro ⟨F, e, Z, R, p⟩
        refine ⟨F, e, Z, R, p.mono fun J H1 z => ?_⟩
        intro D hD
        obtain ⟨Wt, h0, turn⟩ := z D hD
        refine ⟨Wt, h0, fun i m H w => ?_⟩
        rcases turn i m H w with ⟨a, b⟩ | b
        · exact .inl ⟨a, hq _ _ b⟩
        · exact .inr b) (fun v H1 z => gName_red (List.mem_singleton.mpr rfl) z) w3
  · have hsw : swapsWithSole [.Name x p] (.ListComp elt [⟨tg, iter, ifs, 0⟩] scope cpos) pos.line X.env = pure false := by
      show swapsWith (.ListComp elt [⟨tg, iter, ifs, 0⟩] scope cpos) (some (.Name x p)) pos.line X.env = pure false
      unfold swapsWith
      have : (X.env.blockKind == .function && X.env.kindOf x == some .local && p.line == cpos.line && !(scope.names.any fun (n, k) => n == x && (k == .local || k == .cell))) = false := by
        rw [hb]
        have sw' := Bool.eq_false_iff.mpr sw
        show (true && _ && _ && _) = false
        rw [Bool.true_and]
        exact sw'
      show (pure _ : Sem Bool) = pure false
      rw [show (Expr.pos (.ListComp elt [⟨tg, iter, ifs, 0⟩] scope cpos)) = cpos from rfl]
      rw [this]
    exact ps_asgD ((cE_ok n X W c _ ce O h).pe) pg hsw rfl rfl
theorem cAsg_ok (O : Okc X W cf cv c) {n fuel : Nat} {tg v : Expr} {pos : Pos} {s : CS} (h : cAsg n c tg v = some s) : PS X (.Assign [tg] v pos) (tS X.K W cv (evS cf fuel s)) := by
  have g : GoodF X W cf cv (cE n c) := fun e ce => cE_ok n X W c e ce O
  have hN : X.N.Nodup := by rw [O.N]; exact O.nd
  unfold cAsg at h
  split at h
  · rename_i ts k p vs k2 p2
    split at h
    · rename_i hp
      split at h
      · rename_i l m h1 h2 h3
        cases h
        have hk : X.env.scope.kind = .function := by rw [O.sc]; exact O.kind
        have hw := swP_ok (k := k) (k2 := k2) (p := p) (p2 := p2) hk (by rw [O.sc]; exact h1)
        -- the targets
        have hT : cT (cE n) c 9 (.Tuple ts k p) = some (.tup l) := by
          show (mapL (cT (cE n) c 8) ts).map Tg.tup = _
          rw [h2]
          rfl
        have parts : ∀ (es : List Expr) (l : List Tg) (S : List Nat), mapL (cT (cE n) c 8) es = some l → (∀ j ∈ tgsL l, j ∈ S) → PGs X es (tAs X.K W cv S fun rs ev => evAsgs cf l rs ev) ∧ (assignEach es X.env).length = l.length ∧ (assignEach es X.env).findIdx? (·.1) = none := by
          intro es
          induction es with
          | nil =>
            intro l S h _
            cases h
            refine ⟨?_, rfl, rfl⟩
            have := pgs_nilD (X := X) (K := X.K) (W := W) (cv := cv) (S := S)
            have e1 : (fun (rs : List Rv) (ev : Ev) => evAsgs cf [] rs ev) = fun rs e => match rs with | [] => .ok () e | _ => .er := by
              funext rs ev
              cases rs <;> rfl
            rw [e1]
            exact this
          | cons e es ih =>
            intro l S h hS
            obtain ⟨b, m, h1, h2, rfl⟩ := mapL_cons h
            obtain ⟨p1, p2⟩ := cT_ok O g 8 e b h1 fun j hj => hS j (List.mem_append_left _ hj)
            obtain ⟨q1, q2, q3⟩ := ih m S h2 fun j hj => hS j (List.mem_append_right _ hj)
            refine ⟨?_, by rw [tgtE p2]; exact congrArg Nat.succ q2, ?_⟩
            · have := pgs_consD p1 q1 (by rw [tgtE p2]; rfl)
              have e1 : (fun (rs : List Rv) (ev : Ev) => evAsgs cf (b :: m) rs ev) = fun rs e => match rs with | r :: rs => (evAsg cf b r e).bind fun _ e => evAsgs cf m rs e | _ => .er := by
                funext rs ev
                cases rs <;> rfl
              rw [e1]
              exact this
            · rw [tgtE p2, List.findIdx?_cons, q3]
              rfl
        obtain ⟨q1, q2, q3⟩ := parts ts l (tgsL l) h2 fun j hj => hj
        exact ps_parT O.calm (goodR g hp h3) q1 q2 q3 hw
      · rename_i nm l m h1 h2 h3
        have hk : X.env.scope.kind = .function := by rw [O.sc]; exact O.kind
        have h1' : swP ts vs X.env.scope = some (some nm) := by rw [O.sc]; exact h1
        have hw := swP_ok (k := k) (k2 := k2) (p := p) (p2 := p2) hk h1'
        -- a name's own facts
        have nmT : ∀ {x : Str} {px : Pos} {t : Tg}, cT (cE n) c 8 (.Name x px) = some t → ∃ i, t = .name i ∧ c.sto x = true ∧ ixOf c.N x = some i := fun {x px t} h => by
          have h' : (if c.sto x = true then (ixOf c.N x).map Tg.name else none) = some t := h
          split at h'
          · rename_i hs
            cases w : ixOf c.N x with
            | none => rw [w] at h'; cases h'
            | some i => rw [w] at h'; cases h'; exact ⟨i, rfl, hs, rfl⟩
          · cases h'
        split at h
        · rename_i x px y py a b i j
          split at h
          · rename_i hij
            cases h
            obtain ⟨b1, m1, w1, w2, e1⟩ := mapL_cons h2
            obtain ⟨b2, m2, w3, w4, e2⟩ := mapL_cons w2
            have e3 := mapL_nil w4
            subst e3 e2
            cases e1
            obtain ⟨i', e4, s1, x1⟩ := nmT w1
            obtain ⟨j', e5, s2, x2⟩ := nmT w3
            cases e4
            cases e5
            -- the names are locals, both
            have loc : X.env.scope.names.lookup x = some .local ∧ X.env.scope.names.lookup y = some .local ∧ nm = [x, y] := by
              unfold swP at h1'
              split at h1'
              · cases h1'
              · split at h1'
                · cases h1'
                · split at h1'
                  · cases h1'
                  · rename_i hl
                    split at h1'
                    · cases h1'
                    · split at h1'
                      · cases h1'
                      · cases h1'
                        by_cases c1 : (X.env.scope.names.lookup x == some .local && px.line == ((some (px.line))).getD 0) = true
                        · by_cases c2 : (X.env.scope.names.lookup y == some .local && py.line == ((some (px.line))).getD 0) = true
                          · have d1 : X.env.scope.names.lookup x = some .local := by rw [Bool.and_eq_true] at c1; simpa using c1.1
                            have d2 : X.env.scope.names.lookup y = some .local := by rw [Bool.and_eq_true] at c2; simpa using c2.1
                            refine ⟨d1, d2, ?_⟩
                            simp only [List.filterMap_cons, List.filterMap_nil, List.head?_cons, Option.map_some, Expr.pos]
                            simp only [c1, c2, if_true]
                          · exfalso
                            apply hl
                            simp only [List.filterMap_cons, List.filterMap_nil, List.head?_cons, Option.map_some, Expr.pos]
                            simp only [c1, c2, if_true, if_false]
                            rfl
                        · exfalso
                          apply hl
                          simp only [List.filterMap_cons, List.filterMap_nil, List.head?_cons, Option.map_some, Expr.pos]
                          by_cases c2 : (X.env.scope.names.lookup y == some .local && py.line == ((some (px.line))).getD 0) = true
                          · simp only [c1, c2, if_true, if_false]
                            rfl
                          · simp only [c1, c2, if_false]
                            rfl
            obtain ⟨l1, l2, rfl⟩ := loc
            have := ps_par2D (pos := pos) O.calm hN (by rw [O.N]; exact ixOf_at x1) (by rw [O.N]; exact ixOf_at x2) hij l1 l2 (goodR g hp h3) hw
            have e6 : evS cf fuel (.par [.name i, .name j] m) = parS 2 (fun ev => evR cf m ev) (fun rs e => match rs with | [r, s] => (store i r.sl e).bind fun _ e => store j s.sl e | _ => .er) := by
              funext e
              unfold parS
              show (evR cf m e).bind _ = (evR cf m e).bind _
              congr 1
              funext rs e
              show (if rs.length = 2 ∧ 2 ≤ 1000 then (evAsgs cf [.name i, .name j] rs e).bind fun _ e => Rs.ok Fl.nx e else .er) = _
              cases rs with
              | nil => rfl
              | cons r rs =>
                cases rs with
                | nil => rfl
                | cons r2 rs =>
                  cases rs with
                  | cons _ _ => simp
                  | nil =>
                    show (if _ then ((store i r.sl e).bind fun _ e => (store j r2.sl e).bind fun _ e => Rs.ok () e).bind _ else _) = _
                    have : (fun (_ : Unit) (e : Ev) => (store j r2.sl e).bind fun _ e => Rs.ok () e) = fun _ e => store j r2.sl e := by funext _ e; exact bindOk _
                    rw [this]
            rw [e6]
            exact this
          · cases h
        · rename_i x px y py z pz a b d i j l'
          split at h
          · rename_i hij
            cases h
            obtain ⟨b1, m1, w1, w2, e1⟩ := mapL_cons h2
            obtain ⟨b2, m2, w3, w4, e2⟩ := mapL_cons w2
            obtain ⟨b3, m3, w5, w6, e3⟩ := mapL_cons w4
            have e4 := mapL_nil w6
            subst e4 e3 e2
            cases e1
            obtain ⟨i', e5, s1, x1⟩ := nmT w1
            obtain ⟨j', e6, s2, x2⟩ := nmT w3
            obtain ⟨k', e7, s3, x3⟩ := nmT w5
            cases e5
            cases e6
            cases e7
            have loc : X.env.scope.names.lookup x = some .local ∧ X.env.scope.names.lookup y = some .local ∧ X.env.scope.names.lookup z = some .local ∧ nm = [x, y, z] := by
              unfold swP at h1'
              split at h1'
              · cases h1'
              · split at h1'
                · cases h1'
                · split at h1'
                  · cases h1'
                  · rename_i hl
                    split at h1'
                    · cases h1'
                    · split at h1'
                      · cases h1'
                      · cases h1'
                        by_cases c1 : (X.env.scope.names.lookup x == some .local && px.line == ((some (px.line))).getD 0) = true <;> by_cases c2 : (X.env.scope.names.lookup y == some .local && py.line == ((some (px.line))).getD 0) = true <;> by_cases c3 : (X.env.scope.names.lookup z == some .local && pz.line == ((some (px.line))).getD 0) = true
                        · have d1 : X.env.scope.names.lookup x = some .local := by rw [Bool.and_eq_true] at c1; simpa using c1.1
                          have d2 : X.env.scope.names.lookup y = some .local := by rw [Bool.and_eq_true] at c2; simpa using c2.1
                          have d3 : X.env.scope.names.lookup z = some .local := by rw [Bool.and_eq_true] at c3; simpa using c3.1
                          refine ⟨d1, d2, d3, ?_⟩
                          simp only [List.filterMap_cons, List.filterMap_nil, List.head?_cons, Option.map_some, Expr.pos]
                          simp only [c1, c2, c3, if_true]
                        all_goals
                          exfalso
                          apply hl
                          simp only [List.filterMap_cons, List.filterMap_nil, List.head?_cons, Option.map_some, Expr.pos]
                          simp only [c1, c2, c3, if_true, if_false]
                          rfl
            obtain ⟨l1, l2, l3, rfl⟩ := loc
            have := ps_par3D (pos := pos) O.calm hN (by rw [O.N]; exact ixOf_at x1) (by rw [O.N]; exact ixOf_at x2) (by rw [O.N]; exact ixOf_at x3) hij.1 hij.2.1 hij.2.2 l1 l2 l3 (goodR g hp h3) hw
            have e8 : evS cf fuel (.par [.name i, .name j, .name l'] m) = parS 3 (fun ev => evR cf m ev) (fun rs e => match rs with | [r, s, t] => (store i r.sl e).bind fun _ e => (store j s.sl e).bind fun _ e => store l' t.sl e | _ => .er) := by
              funext e
              unfold parS
              show (evR cf m e).bind _ = (evR cf m e).bind _
              congr 1
              funext rs e
              show (if rs.length = 3 ∧ 3 ≤ 1000 then (evAsgs cf [.name i, .name j, .name l'] rs e).bind fun _ e => Rs.ok Fl.nx e else .er) = _
              cases rs with
              | nil => rfl
              | cons r rs =>
                cases rs with
                | nil => rfl
                | cons r2 rs =>
                  cases rs with
                  | nil => rfl
                  | cons r3 rs =>
                    cases rs with
                    | cons _ _ => simp
                    | nil =>
                      show (if _ then ((store i r.sl e).bind fun _ e => (store j r2.sl e).bind fun _ e => (store l' r3.sl e).bind fun _ e => Rs.ok () e).bind _ else _) = _
                      have : (fun (_ : Unit) (e : Ev) => (store l' r3.sl e).bind fun _ e => Rs.ok () e) = fun _ e => store l' r3.sl e := by funext _ e; exact bindOk _
                      rw [this]
            rw [e8]
            exact this
          · cases h
        · cases h
      · cases h
    · cases h
  · rename_i x p
    split at h
    · rename_i t e h1 h2
      cases h
      have h' : (if c.sto x = true then (ixOf c.N x).map Tg.name else none) = some t := h1
      split at h'
      · rename_i hs
        cases w : ixOf c.N x with
        | none => rw [w] at h'; cases h'
        | some i =>
          rw [w] at h'
          cases h'
          by_cases hc : isComp v = true
          · cases n with
            | zero => cases h2
            | succ n =>
              cases v with
              | ListComp elt gens scope cpos =>
                obtain ⟨tg, iter, ifs, rfl⟩ := comp_shape (rec := cE n) h2
                exact setComp O (n + 1) hs w h2
              | SetComp elt gens scope cpos => cases h2
              | DictComp kx vx gens scope cpos => cases h2
              | _ => cases hc
          · have hc' : isComp v = false := by simpa using hc
            obtain ⟨q1, q2, q3⟩ := O.sto hs
            exact ps_asgD (S := [i]) (g v e h2).pe (pg_nameD (pg_name hN (by rw [O.N]; exact ixOf_at w) q1 q2) (List.mem_singleton.mpr rfl)) (sws_plain hc') rfl rfl
      · cases h'
    · cases h
  · rename_i hn1 hn2
    split at h
    · cases h
    · rename_i hc
      have hc' : isComp v = false := by simpa using hc
      split at h
      · rename_i t e h1 h2
        cases h
        obtain ⟨p1, p2⟩ := cT_ok O g 8 tg t h1 fun j hj => hj
        refine ps_asgD (S := tgs t) (g v e h2).pe p1 (sws_plain hc') ?_ (by rw [tgtE p2]; rfl)
        cases tg with
        | Tuple ts k p =>
          cases v with
          | Tuple vs k2 p2 => exact absurd hn2 (by simp)
          | _ => rfl
        | Name x p => rfl
        | Subscript a i p => rfl
        | _ => cases h1
      · cases h
theorem evSs_cons {cf : Nat → List Sl → Cr.CR} {fuel : Nat} {s : CS} {r : List CS} : evSs cf fuel (s :: r) = fun e => (evS cf fuel s e).bind fun f e => match f with
    | .nx => evSs cf fuel r e
    | f => .ok f e := by
  funext e
  rfl
theorem stepS_ok (O : Okc X W cf cv c) (hp : PassesOwn (model X.prog X.w) X.A X.env X.xe) {n fuel : Nat} {rec : List Stmt → Option (List CS)} (hr : ∀ ss ir, rec ss = some ir → PSs X ss (tS X.K W cv (evSs cf fuel ir))) {s : Stmt} {ir : CS} (h : stepS n c rec s = some ir) : PS X s (tS X.K W cv (evS cf fuel ir)) := by
  have g : GoodF X W cf cv (cE n c) := fun e ce => cE_ok n X W c e ce O
  have hN : X.N.Nodup := by rw [O.N]; exact O.nd
  unfold stepS at h
  split at h
  · exact cAsg_ok O h
  · rename_i x p o e pos
    split at h
    · rename_i hc
      split at h
      · rename_i i ce h1 h2
        cases h
        obtain ⟨q1, q2, q3⟩ := O.sto hc.1
        have ho : o = .Add ∨ o = .Sub := by
          cases o <;> first | exact .inl rfl | exact .inr rfl | cases hc.2
        have := ps_augD (W := W) (cv := cv) (p := p) (pos := pos) ho hN (by rw [O.N]; exact ixOf_at h1) q1 (g e ce h2).op q2
        exact this
      · cases h
    · cases h
  · cases h; exact ps_docD
  · rename_i e pos _
    split at h
    · cases h
    · rename_i hc
      have hc' : isComp e = false := by simpa using hc
      cases w : cE n c e with
      | none => rw [w] at h; cases h
      | some ce =>
        rw [w] at h
        cases h
        exact ps_exD (g e ce w).pe (sw_plain hc')
  · cases h; exact ps_retND
  · rename_i e pos
    cases w : cE n c e with
    | none => rw [w] at h; cases h
    | some ce =>
      rw [w] at h
      cases h
      have ge := g e ce w
      cases ce with
      | var i => exact ps_retV (ge.var i rfl)
      | _ => exact ps_retD ge.pe
  · rename_i t a b pos
    split at h
    · rename_i ht
      split at h
      · rename_i ct ca cb h1 h2 h3
        cases h
        exact ps_ifD ((g t ct h1).pt ht) (hr a ca h2) (hr b cb h3)
      · cases h
    · cases h
  · rename_i t b pos
    split at h
    · rename_i ht
      split at h
      · rename_i ct cb h1 h2
        cases h
        exact ps_whileD (n := fuel) hp ((g t ct h1).pt ht) (hr b cb h2)
      · cases h
    · cases h
  · rename_i tg iter b pos
    split at h
    · rename_i hpl
      split at h
      · rename_i it t cb h1 h2 h3
        cases h
        exact ps_forD hp O.calm (cI_ok O g h1) (cT_ok O g 8 tg t h2 fun j hj => hj).1 (hr b cb h3) hpl
      · cases h
    · cases h
  · cases h; exact ps_passD
  · cases h; exact ps_brkD
  · cases h; exact ps_contD
  · rename_i x p m k p2 p3 pos
    split at h
    · rename_i hg
      obtain ⟨gx, ox⟩ := O.gl hg
      obtain ⟨o1, o2, o3⟩ := okN_at ox
      cases w : c.exs.lookup x with
      | none => rw [w] at h; cases h
      | some j =>
        rw [w] at h
        cases h
        obtain ⟨C, bmB, B, newId, initId, e1, F, q, gC, kC, r⟩ := O.exs x j w
        refine ps_raiseD O.calm O.tk ?_
        rw [e1]
        exact pmk_own F q gC kC r gx o1
    · cases h
  · cases h
theorem cSs_ok (O : Okc X W cf cv c) (hp : PassesOwn (model X.prog X.w) X.A X.env X.xe) {n fuel : Nat} : ∀ (m : Nat) (ss : List Stmt) (ir : List CS), cSs n c m ss = some ir → PSs X ss (tS X.K W cv (evSs cf fuel ir))
  | 0, ss, ir, h => by cases h
  | m + 1, ss, ir, h => by
    have h' : mapL (stepS n c (cSs n c m)) ss = some ir := h
    have : ∀ (ss : List Stmt) (ir : List CS), mapL (stepS n c (cSs n c m)) ss = some ir → PSs X ss (tS X.K W cv (evSs cf fuel ir)) := by
      intro ss
      induction ss with
      | nil => intro ir h; cases h; exact pss_nilD
      | cons s ss ih =>
        intro ir h
        obtain ⟨b, l, h1, h2, rfl⟩ := mapL_cons h
        rw [evSs_cons]
        exact pss_consD (stepS_ok O hp (fun ss ir => cSs_ok O hp m ss ir) h1) (ih l h2)
    exact this ss ir h'
end
end Cr
set_option Elab.async false
set_option linter.all false
set_option maxRecDepth 100000
set_option maxHeartbeats 4000000
namespace Cr
open PySem PySem.Spec PyProof.Rows L2
/-! ### a def's body -/
theorem outOk_at : ∀ {as e : List Sl}, outOk as e = true → as.length ≤ e.length → ∀ {i : Nat} {b : Bool} {d : D}, as[i]? = some (Sl.mu b d) → (∃ d', e[i]? = some (Sl.mu true d')) ∨ ∃ d', e[i]? = some (Sl.frz d')
  | [], _, _, _, i, b, d, h => by simp at h
  | _ :: _, [], _, hl, _, _, _, _ => by simp at hl
  | a :: as, s :: e, ho, hl, 0, b, d, h => by
    simp at h
    subst h
    cases s with
    | mu c d' =>
      cases c with
      | true => exact .inl ⟨d', by simp⟩
      | false => cases ho
    | frz d' => exact .inr ⟨d', by simp⟩
    | un => cases ho
    | val _ => cases ho
  | a :: as, s :: e, ho, hl, i + 1, b, d, h => by
    have ho' : outOk as e = true := by
      cases a with
      | mu c d' =>
        cases s with
        | mu c2 _ =>
          cases c2 with
          | true => exact ho
          | false => cases ho
        | frz _ => exact ho
        | un => cases ho
        | val _ => cases ho
      | un => cases s <;> exact ho
      | val _ => cases s <;> exact ho
      | frz _ => cases s <;> exact ho
    have := outOk_at ho' (by simpa using hl) (i := i) (by simpa using h)
    simpa using this
section
variable {K : PySem.W.Frag} {cv : Nat → Value}
theorem start_rel {as : List Sl} {vs : List V} {H : Hp} {Z : Addr → Prop} {la : Nat → Option Addr} {N : List Str} {m : Nat} (A : ArgR K as vs H Z la) (hm : N.length = as.length + m) : Rel K ⟨H, Z, la⟩ (as ++ List.replicate m .un) (L2.start N vs) H Z := by
  have e1 : as.length = vs.length := A.len
  have lo : ∀ {i : Nat} {s : Sl}, (as ++ List.replicate m .un)[i]? = some s → (i < as.length ∧ as[i]? = some s ∧ ∃ v, vs[i]? = some v ∧ (L2.start N vs)[i]? = some (some v)) ∨ s = .un := fun {i s} h => by
    by_cases hi : i < as.length
    · rw [List.getElem?_append_left hi] at h
      have hv : vs[i]? = some vs[i] := List.getElem?_eq_getElem (by omega)
      refine .inl ⟨hi, h, vs[i], hv, ?_⟩
      unfold L2.start
      rw [List.getElem?_append_left (by rw [List.length_map]; omega), List.getElem?_map, hv]
      rfl
    · rw [List.getElem?_append_right (by omega), List.getElem?_replicate] at h
      split at h <;> cases h
      exact .inr rfl
  refine ⟨?_, fun i s h => ?_, fun i j b d b' d' a h1 h2 h3 h4 => ?_, A.zs, fun a h _ => h, fun a h => .inl h, fun a o h _ => h, fun i a h => ?_, fun a h => h, A.zs⟩
  · unfold L2.start
    rw [List.length_append, List.length_replicate, List.length_append, List.length_map, List.length_replicate]
    omega
  · rcases lo h with ⟨hi, h1, v, h2, h3⟩ | rfl
    · rw [h3]
      rcases A.no i s h1 with ⟨d, rfl⟩ | ⟨b, d, rfl⟩
      · obtain ⟨v', w1, w2⟩ := A.val i d h1
        rw [h2] at w1
        cases w1
        exact ⟨v, rfl, w2⟩
      · obtain ⟨hb, a, w1, w2, w3, w4⟩ := A.mu i b d h1
        rw [h2] at w1
        cases w1
        subst hb
        exact ⟨a, rfl, w3, w4, fun _ => w2, fun q => by cases q⟩
    · trivial
  · rcases lo h1 with ⟨p1, p2, v, p3, p4⟩ | q
    · rcases lo h2 with ⟨q1, q2, w, q3, q4⟩ | q
      · obtain ⟨_, a1, r1, r2, _⟩ := A.mu i b d p2
        obtain ⟨_, a2, s1, s2, _⟩ := A.mu j b' d' q2
        rw [p4] at h3
        rw [q4] at h4
        cases h3
        cases h4
        rw [p3] at r1
        rw [q3] at s1
        cases r1
        cases s1
        exact A.inj i j _ r2 s2
      · cases q
    · cases q
  · obtain ⟨b, d, h1⟩ := A.lam i a h
    obtain ⟨_, a', r1, r2, r3, r4⟩ := A.mu i b d h1
    have h' : la i = some a := h
    rw [h'] at r2
    cases r2
    exact A.zs a r3
theorem end_bk {as e' : List Sl} {vs : List V} {H H' : Hp} {Z Z' : Addr → Prop} {la : Nat → Option Addr} {σ' : L2.St} {n : Nat} (A : ArgR K as vs H Z la) (R : Rel K ⟨H, Z, la⟩ e' σ' H' Z') (ho : outOk as e' = true) (hn : as.length = n) (hl : as.length ≤ e'.length) : Bk K la (e'.take n) H Z H' Z' := by
  refine ⟨fun a u h1 h2 => R.fr a u h1 h2, fun a h1 h2 => R.kz a h1 h2, R.zn, R.zs, R.th, fun i a h => ?_⟩
  obtain ⟨b, d, h1⟩ := A.lam i a h
  have hi : i < n := by rw [← hn]; exact (List.getElem?_eq_some_iff.mp h1).1
  rcases outOk_at ho hl h1 with ⟨d', q⟩ | ⟨d', q⟩
  · left
    obtain ⟨a', e1, z, c, f1, _⟩ := R.sl i _ q
    have := f1 rfl
    have h' : la i = some a' := this
    rw [h] at h'
    cases h'
    exact ⟨true, d', by rw [List.getElem?_take_of_lt hi]; exact q, z, c⟩
  · right
    obtain ⟨a', e1, f1, c⟩ := R.sl i _ q
    have h' : la i = some a' := f1
    rw [h] at h'
    cases h'
    exact ⟨d', by rw [List.getElem?_take_of_lt hi]; exact q, c⟩
theorem runD_red {cf : Nat → List Sl → Cr.CR} {fuel : Nat} {fd : FD} {N : List Str} {vs : List V} {H : Hp} {Q : VK} {E : XK} (hN : N.length = fd.nl) (hp : fd.np ≤ fd.nl) (h : spC K cv (runD cf fuel fd) vs H Q E) :
    vs.length = fd.np ∧ tS K (fun cls d _ H' => E cls d H') cv (evSs cf fuel fd.body) { nx := fun _ H' => Q .non H', rt := Q } (L2.start N vs) H := by
  obtain ⟨as, Z, la, A, h⟩ := h
  unfold runD at h
  split at h
  · rename_i hl
    refine ⟨A.len.symm.trans hl, ⟨H, Z, la⟩, as ++ List.replicate (fd.nl - fd.np) .un, Z, start_rel A (by omega), ?_⟩
    have len : ∀ {e' : Ev} {σ' : L2.St} {H' : Hp} {Z' : Addr → Prop}, Rel K ⟨H, Z, la⟩ e' σ' H' Z' → True := fun _ => trivial
    -- the slots' number stays
    generalize hm : evSs cf fuel fd.body (as ++ List.replicate (fd.nl - fd.np) .un) = m at h ⊢
    cases m with
    | er => exact h
    | ex x e' =>
      dsimp only at h
      split at h
      · rename_i ho
        have ho' : outOk as e' = true ∧ as.length ≤ e'.length := by
          rw [Bool.and_eq_true] at ho
          exact ⟨ho.1, of_decide_eq_true ho.2⟩
        exact fun σ' H' Z' R l => h H' Z' (end_bk A R ho'.1 hl ho'.2)
      · exact h.elim
    | ok f e' =>
      cases f with
      | bk => exact h.elim
      | ct => exact h.elim
      | nx =>
        dsimp only at h
        split at h
        · rename_i ho
          have ho' : outOk as e' = true ∧ as.length ≤ e'.length := by
            rw [Bool.and_eq_true] at ho
            exact ⟨ho.1, of_decide_eq_true ho.2⟩
          exact fun σ' H' Z' R l => h .non H' Z' (end_bk A R ho'.1 hl ho'.2) .non
        · exact h.elim
      | rt r =>
        dsimp only at h
        split at h
        · rename_i ho
          have ho' : outOk as e' = true ∧ as.length ≤ e'.length := by
            rw [Bool.and_eq_true] at ho
            exact ⟨ho.1, of_decide_eq_true ho.2⟩
          refine fun v σ' H' Z' R l rv => h v H' Z' (end_bk A R ho'.1 hl ho'.2) ?_
          cases r with
          | fz d => exact rv
          | fr d =>
            obtain ⟨a, e1, z, c, _, f⟩ := rv
            exact ⟨a, e1, z, c, f⟩
        · exact h.elim
  · exact h.elim
end
/-! ### THE RULE for a def -/
section
variable {P : Program} {w : World} {K : PySem.W.Frag} {mg : Str → Option Value} {base : Heap} {x qual : Str} {params : Arguments} {body : List Stmt} {scope : Scope} {f : Addr} {fd : FuncData} {cv : Nat → Value}
theorem fnG_of {N ps : List Str} {k : Nat} {sp : Sp} (F : FunD K x qual params body scope [] [] f fd) (S : FnScope N ps scope) (len : ∀ vs H Q E, sp vs H Q E → vs.length = ps.length)
    (hbody : ∀ (cdv : Value) (A : Around) (outer : List Env) (s : Shared) (H : Hp) (vs : List V) (Q : VK) (E : XK), Room k (A.deeper (envOfC qual scope s.heap.objs.size f cdv)) → (A.deeper (envOfC qual scope s.heap.objs.size f cdv)).guards = some [] → sp vs H Q E →
      ∃ t, PSs (cxOf (L2.CX P w) P w K mg base N qual scope f cdv A outer s H E) body t ∧ t { nx := fun _ H' => Q .non H', rt := Q } (L2.start N vs) H) : FnG P w K mg base (k + 1) f fd ps sp := by
  obtain ⟨oc, od, dV, kV, doc, pm, an, cdv, ct, osl, rfl, lk, hcd, _, _⟩ := F.ex
  refine ⟨len, fun A outer s H args us vs Q E hr hgd e0 hb r hsp => ?_⟩
  have hl := len _ _ _ _ hsp
  have KX : K.In s.heap := e0.mod.kin.keeps fun b o e => (e0.bs b o e).1
  have lim : s.heap.NoLimit := e0.mod.nolimit.keeps fun b o e => (e0.bs b o e).1
  have hkind : ∀ y ∈ ps.zip us, scope.names.lookup y.1 = some .local ∨ (scope.names.lookup y.1 = some .cell ∧ ((cellsFrom (s.heap.objs.size + 1) scope.names []).lookup y.1).isSome = true) := fun ⟨n, v⟩ hy => by
    rcases S.par n (List.of_mem_zip hy).1 with q | q
    · exact .inl q
    · exact .inr ⟨q, PySem.W.cellsFrom_some _ _ _ (.inl q)⟩
  refine codeAny_call_function hr.depth (KX _ _ lk) rfl S.co S.gen rfl (PySem.W.codeRec_of KX hcd) (hb _ _ _ _ ?_)
  refine wpAny_newFunctionEnv_cells S.kind hkind fun env he s1 x => ?_
  subst he
  refine ⟨lim.keeps x.toInCall.keep, codeAny_func ?_⟩
  obtain ⟨t, ht, hq⟩ := hbody cdv A outer s H vs Q E (hr.deeper _) hgd hsp
  have I : Inv (cxOf (L2.CX P w) P w K mg base N qual scope f cdv A outer s H E) [] (L2.start N vs) H s1 := inv_start S hr.hd e0 hl r x
  refine wpAny_mono (ht.run [] s1 (L2.start N vs) H _ I hq) (fun fl s' hs => ?_) fun e s' hs => hs
  cases fl with
  | ret u =>
    obtain ⟨v, σ', H', J, rv, q⟩ := hs
    exact ⟨v, H', J.os, J.bare, J.base, J.hok, rv, q⟩
  | next =>
    obtain ⟨σ', H', J, q⟩ := hs
    exact ⟨.non, H', J.os, J.bare, J.base, J.hok, rfl, q⟩
  | brk =>
    obtain ⟨_, _, _, q⟩ := hs
    exact False.elim q
  | cont =>
    obtain ⟨_, _, _, q⟩ := hs
    exact False.elim q
end
/-! ### a text's table of defs -/
/-- what all defs of a text share -/
structure Gt where
  fns : List (Str × Nat)
  kw : List (Str × Nat × List Str × List Nat)
  cst : List (Str × D)
  bl : List Str
  exs : List (Str × Nat)
structure Ent where
  x : Str
  qual : Str
  params : Arguments
  body : List Stmt
  scope : Scope
  ps : List Str
  N : List Str
  kw : List (Nat × List Str × List Nat)
  ir : List CS
/-- of all things in a list -/
def AllP {α : Type} (P : α → Prop) : List α → Prop
  | [] => True
  | a :: r => P a ∧ AllP P r
theorem AllP.at {α : Type} {P : α → Prop} : ∀ {l : List α}, AllP P l → ∀ a ∈ l, P a
  | a :: r, h, b, hb => by
    rcases List.mem_cons.mp hb with e | hb
    · rw [e]; exact h.1
    · exact AllP.at h.2 b hb
theorem lk_mem {α : Type} : ∀ {l : List (Str × α)} {x : Str} {v : α}, l.lookup x = some v → (x, v) ∈ l
  | [], x, v, h => by cases h
  | (y, u) :: r, x, v, h => by
    rw [List.lookup_cons] at h
    cases q : x == y with
    | true =>
      rw [q] at h
      have e : x = y := by simpa using q
      subst e
      cases h
      exact List.mem_cons_self
    | false =>
      rw [q] at h
      exact List.mem_cons_of_mem _ (lk_mem h)
def ccOf (G : Gt) (e : Ent) : Cc := ⟨e.N, e.scope, e.scope, G.fns, G.kw, G.cst, G.bl, G.exs⟩
def Ent.fd (e : Ent) : FD := ⟨e.ps.length, e.N.length, e.ir⟩
def entC (e : Ent) (G : Gt) : Bool := (match cSs 40 (ccOf G e) 40 e.body with | some _ => true | none => false)
/-- what is shown of an entry by looking at the text -/
structure EntT (G : Gt) (e : Ent) : Prop where
  sc : FnScope e.N e.ps e.scope
  ir : cSs 40 (ccOf G e) 40 e.body = some e.ir
  np : e.ps.length ≤ e.N.length
  binds : ∀ (kV doc pm : Value) (an : Option Addr) (cdv ct : Value) (us : List Value), us.length = e.ps.length → bindArgs (PySem.W.fnOf e.x e.qual e.params e.body e.scope .none kV doc pm an cdv ct) ⟨us, []⟩ = pure (e.ps.zip us)
  kwc : (G.kw.all fun p => !decide (p.1 = e.x) || decide (p.2 ∈ e.kw)) = true
  kw : AllP (fun q => ∀ (kV doc pm : Value) (an : Option Addr) (cdv ct : Value) (us ws : List Value), us.length = q.1 → ws.length = q.2.1.length → bindArgs (PySem.W.fnOf e.x e.qual e.params e.body e.scope .none kV doc pm an cdv ct) ⟨us, q.2.1.zip ws⟩ = pure (e.ps.zip (permV q.2.2 (us ++ ws)))) e.kw
theorem EntT.kwAt {G : Gt} {e : Ent} (T : EntT G e) {n : Nat} {ks : List Str} {perm : List Nat} (h : (e.x, n, ks, perm) ∈ G.kw) (kV doc pm : Value) (an : Option Addr) (cdv ct : Value) (us ws : List Value) (h1 : us.length = n) (h2 : ws.length = ks.length) : bindArgs (PySem.W.fnOf e.x e.qual e.params e.body e.scope .none kV doc pm an cdv ct) ⟨us, ks.zip ws⟩ = pure (e.ps.zip (permV perm (us ++ ws))) := by
  have c := List.all_eq_true.mp T.kwc _ h
  have m : (n, ks, perm) ∈ e.kw := by simpa using c
  exact T.kw.at _ m kV doc pm an cdv ct us ws h1 h2
/-- what is shown of the module behind the top -/
structure GtOk (K : PySem.W.Frag) (mg : Str → Option Value) (cv : Nat → Value) (G : Gt) (tab : List Ent) : Prop where
  fns : ∀ x i, G.fns.lookup x = some i → ∃ e fa fd, tab[i]? = some e ∧ e.x = x ∧ EntT G e ∧ FunD K e.x e.qual e.params e.body e.scope [] [] fa fd ∧ mg x = some (.ref fa)
  cst : ∀ x d, G.cst.lookup x = some d → ∃ v u, mg x = some u ∧ RelV v u ∧ ∀ H, Dv K H v d
  bl : ∀ x ∈ G.bl, mg x = none
  exs : ∀ x j, G.exs.lookup x = some j → ∃ C, cv j = .ref C ∧ PySem.W.excIn K C He.veBase "ValueError.__new__" = true ∧ mg x = some (.ref C) ∧ PySem.W.keepIn K (.ref C) = true ∧ PySem.W.subIn K (.ref C) (.type "BaseException") = some true ∧ PySem.W.typeIn K (.ref C) = some (.type "type")
  sys : ∃ o, K.lookup sysModules = some o
theorem GtOk.mk' {K : PySem.W.Frag} {mg : Str → Option Value} {cv : Nat → Value} {G : Gt} {tab : List Ent}
    (fns : AllP (fun p => ∃ e fa fd, tab[p.2]? = some e ∧ e.x = p.1 ∧ EntT G e ∧ FunD K e.x e.qual e.params e.body e.scope [] [] fa fd ∧ mg p.1 = some (.ref fa)) G.fns)
    (cst : AllP (fun p => ∃ v u, mg p.1 = some u ∧ RelV v u ∧ ∀ H, Dv K H v p.2) G.cst) (bl : AllP (fun x => mg x = none) G.bl)
    (exs : AllP (fun p => ∃ C, cv p.2 = .ref C ∧ PySem.W.excIn K C He.veBase "ValueError.__new__" = true ∧ mg p.1 = some (.ref C) ∧ PySem.W.keepIn K (.ref C) = true ∧ PySem.W.subIn K (.ref C) (.type "BaseException") = some true ∧ PySem.W.typeIn K (.ref C) = some (.type "type")) G.exs)
    (sys : ∃ o, K.lookup sysModules = some o) : GtOk K mg cv G tab :=
  ⟨fun x i h => fns.at _ (lk_mem h), fun x d h => cst.at _ (lk_mem h), fun x h => bl.at x h, fun x j h => exs.at _ (lk_mem h), sys⟩
theorem room_un {k : Nat} {A : Around} (r : Room k A) : A.units + 65 < cLine := by
  have := r.un
  omega
section
variable {P : Program} {w : World} {K : PySem.W.Frag} {mg : Str → Option Value} {base : Heap} {cv : Nat → Value} {G : Gt} {tab : List Ent} {fuel : Nat}
def ftOf (tab : List Ent) : Nat → Option FD := fun i => (tab[i]?).map Ent.fd
theorem binds_of {e : Ent} {f : Addr} {fd : FuncData} (T : EntT G e) (F : FunD K e.x e.qual e.params e.body e.scope [] [] f fd) : Binds K fd e.ps [] := F.bindsN T.binds
theorem kwb_of {e : Ent} {f : Addr} {fd : FuncData} (T : EntT G e) (F : FunD K e.x e.qual e.params e.body e.scope [] [] f fd) {n : Nat} {ks : List Str} {perm : List Nat} (h : (e.x, n, ks, perm) ∈ G.kw) : KwB K fd e.ps n ks perm := by
  obtain ⟨oc, od, dV, kV, doc, pm, an, cdv, ct, osl, rfl, lk, hcd, hD, hK⟩ := F.ex
  rcases hD with ⟨_, rfl⟩ | ⟨e, _⟩
  · exact fun s us ws _ h1 h2 => .of_eq (T.kwAt h kV doc pm an cdv ct us ws h1 h2)
  · exact absurd rfl e
theorem tab_ok (B : ExcBaseFacts "ValueError" "ValueError.__new__" "ValueError.__init__" He.veBase ∨ ∀ x, G.exs.lookup x = none) (ok : GtOk K mg cv G tab) : ∀ (n : Nat) (x : Str) (i : Nat) (e : Ent) (f : Addr) (fd : FuncData), G.fns.lookup x = some i → tab[i]? = some e → EntT G e → FunD K e.x e.qual e.params e.body e.scope [] [] f fd → FnG P w K mg base n f fd e.ps (spC K cv (callN (ftOf tab) fuel n i))
  | 0, x, i, e, f, fd, _, _, _, _ => ⟨fun vs H Q E ⟨as, Z, la, A, h⟩ => h.elim, fun A outer s H args us vs Q E _ _ _ _ _ ⟨as, Z, la, _, h⟩ => h.elim⟩
  | n + 1, x, i, e, f, fd, hx, hi, T, F => by
    have e1 : callN (ftOf tab) fuel (n + 1) i = runD (callN (ftOf tab) fuel n) fuel e.fd := by
      funext as
      show (match ftOf tab i with | some fd => runD (callN (ftOf tab) fuel n) fuel fd as | none => .er) = _
      unfold ftOf
      rw [hi]
      rfl
    rw [e1]
    refine fnG_of F T.sc (fun vs H Q E h => (runD_red (N := e.N) rfl T.np h).1) fun cdv A outer s H vs Q E hr hgd h => ⟨_, ?_, (runD_red (N := e.N) rfl T.np h).2⟩
    have O : Okc (cxOf (L2.CX P w) P w K mg base e.N e.qual e.scope f cdv A outer s H E) (fun cls d _ H' => E cls d H') (callN (ftOf tab) fuel n) cv (ccOf G e) := by
      refine ⟨⟨rfl, T.sc.nd, rfl, hgd, room_un hr, ok.sys, fun x i h => ?_, ok.cst, ok.bl, fun x j h => ?_⟩, rfl, T.sc.kind, fun x h => h, fun x h => ⟨h, rfl⟩, takes_of rfl rfl rfl rfl⟩
      · obtain ⟨e', fa, fd', h1, h2, h3, h4, h5⟩ := ok.fns x i h
        exact ⟨fa, fd', e'.ps, n, tab_ok B ok n x i e' fa fd' h h1 h3 h4, hr, h5, h4.kp, binds_of h3 h4, fun m ks perm hm => kwb_of h3 h4 (by rw [h2]; exact hm)⟩
      · obtain ⟨C, h1, h2, h3, h4, h5, h6⟩ := ok.exs x j h
        rcases B with B | B
        · exact ⟨C, He.veBase, _, _, _, h1, B, h2, h3, h4, raises_own h5 h6⟩
        · have h' : G.exs.lookup x = some j := h
          rw [B x] at h'
          cases h'
    exact cSs_ok O (passes_of rfl) 40 e.body e.ir T.ir
end
end Cr
set_option Elab.async false
set_option linter.all false
set_option maxRecDepth 100000
set_option maxHeartbeats 4000000
namespace Cr
open PySem PySem.Spec PyProof.Rows L2
/-! ### the head -/
def isLo (o : Obj) : Bool := match o.cls with
  | .type c => c == "list"
  | _ => false
/-- a part of the heap without its lists -/
def frL (g : Addr → Option Obj) (as : List Addr) : PySem.W.Frag := as.filterMap fun a => match g a with
  | some o => if isLo o = true then none else some (a, o)
  | none => none
theorem mem_lk : ∀ {l : List (Addr × Obj)} {a : Addr} {o : Obj}, l.lookup a = some o → (a, o) ∈ l
  | [], a, o, h => by cases h
  | (b, u) :: r, a, o, h => by
    rw [List.lookup_cons] at h
    cases q : a == b with
    | true =>
      rw [q] at h
      have e : a = b := beq_iff_eq.mp q
      subst e
      cases h
      exact List.mem_cons_self
    | false =>
      rw [q] at h
      exact List.mem_cons_of_mem _ (mem_lk h)
theorem frL_mem {g : Addr → Option Obj} {as : List Addr} {p : Addr × Obj} (h : p ∈ frL g as) : g p.1 = some p.2 ∧ isLo p.2 = false := by
  unfold frL at h
  obtain ⟨a, _, e⟩ := List.mem_filterMap.mp h
  cases w : g a with
  | none => rw [w] at e; cases e
  | some o =>
    rw [w] at e
    dsimp only at e
    split at e
    · cases e
    · rename_i hl
      cases e
      exact ⟨w, by simpa using hl⟩
theorem frL_at {g : Addr → Option Obj} {as : List Addr} {a : Addr} {o : Obj} (h : (frL g as).lookup a = some o) : g a = some o ∧ isLo o = false := frL_mem (p := (a, o)) (mem_lk h)
theorem frL_in {as : List Addr} {h : Heap} : (frL h.get? as).In h := fun _ _ e => (frL_at e).1
abbrev AlS : Type := Bool × He.AlD
def obsS (fa : List He.Fa) (fn : List He.DefD) (K : PySem.W.Frag) : AlS := ((K.lookup sysModules).isSome && K.all fun p => !isLo p.2, He.obsD fa fn K)
def valS (fn : List He.DefD) : AlS := (true, He.valD fn)
def SaysS (fa : List He.Fa) (fn : List He.DefD) (K : PySem.W.Frag) : Prop := obsS fa fn K = valS fn
def obsSG (n : Nat) (fa : List He.Fa) (fn : List He.DefD) (g : Addr → Option Obj) : AlS := obsS fa fn (frL g (sysModules :: He.asD g n))
def hookS (n : Nat) (fa : List He.Fa) (fn : List He.DefD) : PySem.W.Hook where
  α := AlS
  obs := fun s => obsSG n fa fn s.heap.get?
  val := fun _ => valS fn
  says := fun _ h => ∃ K : PySem.W.Frag, K.In h ∧ SaysS fa fn K
  of := fun _ _ e => ⟨_, frL_in, e⟩
  keeps := fun _ _ _ ⟨K, hK, c⟩ k => ⟨K, PySem.W.Frag.In.keeps hK k, c⟩
theorem obsSG_eq {n : Nat} {fa : List He.Fa} {fn : List He.DefD} {g : Addr → Option Obj} {s : Shared} (h : ∀ a, g a = s.heap.get? a) : obsSG n fa fn g = (hookS n fa fn).obs s := by
  have e : g = s.heap.get? := funext h
  rw [e] <;> rfl
section
variable {fa : List He.Fa} {fn : List He.DefD} {K : PySem.W.Frag}
theorem SaysS.d (c : SaysS fa fn K) : He.SaysD fa fn K := congrArg (fun z : AlS => z.2) c
theorem SaysS.sys (c : SaysS fa fn K) : ∃ o, K.lookup sysModules = some o := by
  have h := (Bool.and_eq_true_iff.mp (congrArg (fun z : AlS => z.1) c)).1
  exact Option.isSome_iff_exists.mp h
theorem SaysS.nol (c : SaysS fa fn K) {a : Addr} {o : Obj} (h : K.lookup a = some o) : isLo o = false := by
  have h1 := (Bool.and_eq_true_iff.mp (congrArg (fun z : AlS => z.1) c)).2
  have := List.all_eq_true.mp h1 (a, o) (mem_lk h)
  simpa using this
end
/-! ### the law's call -/
theorem law_callG {P : Program} {w : World} {K : PySem.W.Frag} {mg mb : Str → Option Value} {k : Nat} {fa a : Addr} {fd : FuncData} {x : Str} {sp : Sp} {s₁ : Shared} {vs : List Value} {ns : List Int}
    (KX : K.In s₁.heap) (nol : ∀ a o, K.lookup a = some o → isLo o = false) (hns : s₁.heap.Ns mainGlobals mg) (hb : s₁.heap.Ns builtinsNs mb) (hbb : ∀ x : Str, x ≠ "__name__" → mb x = bootBuiltins x) (hlim : s₁.heap.NoLimit) (hg : s₁.gens = #[])
    (ha : s₁.heap.get? a = some { cls := .type "list", data := .seq vs.toArray }) (hi : IntsAre vs ns) (hl : ns.length ≤ sizeLine) (hr : Room k callerA)
    (F : ∀ base : Heap, K.In base → base.Ns mainGlobals mg → FnG P w K mg base k fa fd [x] sp) (hbind : ∀ (s : Shared) (u : Value), BindsTo s fd ⟨[u], []⟩ [(x, u)])
    (hsp : ∀ H : Hp, Rd H a (.lst (ns.map V.int)) → sp [.ref a] H (fun v _ => v = .bl true) fun _ _ _ => False)
    (hCX : ∀ H e s', L2.CX P w [] H s₁ (fun _ _ _ => False) e s' → False) :
    codeAny (model P w) callerA (.call (.ref fa) ⟨[.ref a], []⟩) (fun r s' => r = .ok (.ret (.bool true)) ∧ OldK s₁.heap s'.heap ∧ s'.os = s₁.os ∧ AllBare s'.gens) s₁ := by
  have rv := vals_ints hi
  have hk : K.lookup a = none := by
    cases q : K.lookup a with
    | none => rfl
    | some o =>
      have e1 := KX a o q
      have e2 := nol a o q
      rw [ha] at e1
      cases e1
      cases e2
  let H : Hp := fun b => if b = a then some (.frz { cls := .type "list", data := .seq vs.toArray } (.lst (ns.map V.int))) else none
  have hHa : H a = some (.frz { cls := .type "list", data := .seq vs.toArray } (.lst (ns.map V.int))) := if_pos rfl
  have hHn : ∀ b, b ≠ a → H b = none := fun b q => if_neg q
  have hok : HOk P w H s₁.heap := fun b u z => by
    by_cases q : b = a
    · subst q
      rw [hHa] at z
      cases z
      exact ⟨ha, by rw [List.length_map]; exact hl, vs, _, rv, ha⟩
    · rw [hHn b q] at z
      cases z
  have off : ∀ {b : Addr} {o : Obj}, s₁.heap.get? b = some o → b ≠ a → (hidT s₁.heap H).get? b = some o := fun {b o} e q => hidT_get e (hHn b q)
  have noA : ∀ {b : Addr} {o : Obj} {es : Array DictEntry} {ep : Nat}, s₁.heap.get? b = some o → o.data = .dict es ep → b ≠ a := fun {b o es ep} e d q => by
    subst q
    rw [ha] at e
    cases e
    cases d
  have nsK : ∀ {b : Addr} {m : Str → Option Value}, s₁.heap.Ns b m → (hidT s₁.heap H).Ns b m := fun {b m} ⟨o, es, ep, e, d, r⟩ => ⟨o, es, ep, off e (noA e d), d, r⟩
  have hKb : K.In (hidT s₁.heap H) := fun b o e => off (KX b o e) fun q => by rw [q, hk] at e; cases e
  have hM : Mod K mg (hidT s₁.heap H) := ⟨hKb, nsK hns, ⟨mb, nsK hb, hbb⟩, let ⟨mc, h1, h2⟩ := hlim; ⟨mc, nsK h1, h2⟩⟩
  have e0 : Env0 P w K mg (hidT s₁.heap H) callerA [] s₁ H := ⟨rfl, hM, fun b o e => of_hidT e, Nat.le_of_eq (hidT_size _ _), trivial, fun b hb => absurd (show b ∈ ([] : List Addr) from hb) (by simp), hok, .of_eq hg⟩
  refine codeAny_mono ((F _ hKb (nsK hns)).run callerA [] s₁ H ⟨[.ref a], []⟩ [.ref a] [.ref a] _ _ hr rfl e0 (hbind s₁ (.ref a)) (.cons rfl .nil) (hsp H (.inr ⟨_, hHa⟩))) fun r s' h => ?_
  cases r with
  | error e => exact (hCX H e s' h).elim
  | ok fl =>
    cases fl with
    | next => exact False.elim h
    | brk => exact False.elim h
    | cont => exact False.elim h
    | ret u =>
      obtain ⟨v, H', os, bare, un, hok', r', q⟩ := h
      have q' : v = .bl true := q
      subst q'
      obtain rfl : u = Value.bool true := r'
      refine ⟨rfl, OldK.of_keep fun b o e => ?_, os, bare⟩
      by_cases q : b = a
      · subst q
        have z2 := un.frzs b _ _ hHa
        obtain ⟨e2, _⟩ := hok' b _ z2
        rw [ha] at e
        cases e
        exact e2
      · exact un.keep b o e (hHn b q) (fun z => absurd (show b ∈ ([] : List Addr) from z) (by simp)) (by simp)
theorem noCX {P : Program} {w : World} {H : Hp} {s : Shared} {e : Value} {s' : Shared} (h : L2.CX P w [] H s (fun _ _ _ => False) e s') : False := by
  obtain ⟨_, _, _, _, _, _, _, _, _, _, _, _, q⟩ := h
  exact q
/-! ### a text and its law -/
def Ent.dd (e : Ent) : He.DefD := ⟨(e.x, none), e.x, e.qual, e.params, e.body, e.scope, [], []⟩
theorem walkG {l : PySem.W.OpenLaw} {n k : Nat} {q : Program} {loose : List Str} {XP : (Str → Option Value) → Heap → Prop} {YP : World → Heap → Prop} {d : DefRec} {x : Str}
    (hn : l.most = some n) (hn2 : n ≤ sizeLine) (hdf : d.params.defaults = []) (hr : Room k callerA)
    (F : ∀ (w : World) (mg : Str → Option Value) (fa : Addr) (h : Heap), YP w h → h.Ns mainGlobals mg → mg d.name = some (.ref fa) →
      ∃ (K : PySem.W.Frag) (fd : FuncData) (sp : Sp), K.In h ∧ (∀ a o, K.lookup a = some o → isLo o = false) ∧ (∀ (s : Shared) (u : Value), BindsTo s fd ⟨[u], []⟩ [(x, u)]) ∧
        (∀ (H : Hp) (a : Addr) (ns : List Int), ns.length ≤ n → Rd H a (.lst (ns.map V.int)) → sp [.ref a] H (fun v _ => v = .bl true) fun _ _ _ => False) ∧
        ∀ base : Heap, K.In base → base.Ns mainGlobals mg → FnG l.prog w K mg base k fa fd [x] sp) :
    PySem.W.WalkO q loose XP YP l.row.toRowW d [] (fun f vs => PySem.call f vs) := by
  refine Att.attach_call hn hdf fun w s₀ s₁ mg mb fa o pm cd doc a vs ns G Y ho hd hcd hmg hobj hints hlen hg => ?_
  obtain ⟨K, fd, sp, KX, nol, hb, hsp, hF⟩ := F w mg fa _ Y G.T.g hmg
  exact law_callG KX nol G.T.g G.T.b G.T.builtins G.T.nolimit hg hobj hints (Nat.le_trans hlen hn2) hr hF hb (fun H hS => hsp H a ns hlen hS) fun H e s' h => noCX h
theorem sp_law {K : PySem.W.Frag} {cv : Nat → Value} {H : Hp} {a : Addr} {ns : List Int} {f : List Sl → Cr.CR} (hS : Rd H a (.lst (ns.map V.int))) (h : ∃ o, f [.val (.list (ns.map .int))] = .ret (.fz (.bool true)) o) : spC K cv f [.ref a] H (fun v _ => v = .bl true) fun _ _ _ => False := by
  obtain ⟨o, h⟩ := h
  have e : hid (fun _ => False) H = H := by
    funext b
    unfold hid
    simp
  refine ⟨[.val (.list (ns.map .int))], fun _ => False, fun _ => none, ⟨rfl, fun i d g => ?_, fun i b d g => ?_, fun i s g => ?_, fun i a w => (by cases w), fun i j a w => (by cases w), fun a w => w.elim⟩, ?_⟩
  · cases i with
    | zero =>
      cases g
      exact ⟨_, rfl, by rw [e]; exact .lst hS (ints_map ns)⟩
    | succ i => cases g
  · cases i with
    | zero => cases g
    | succ i => cases g
  · cases i with
    | zero => cases g; exact .inl ⟨_, rfl⟩
    | succ i => cases g
  · rw [h]
    intro v H' Z' _ rv
    cases rv
    rfl
end Cr
set_option Elab.async false
set_option linter.all false
set_option maxRecDepth 100000
set_option maxHeartbeats 4000000
namespace Cr
open PySem
/-! ### running the core by simp -/
section
variable {cf : Nat → List Sl → CR} {fuel : Nat} {e : Ev} {α β : Type}
@[simp] theorem bind_ok (a : α) (e : Ev) (f : α → Ev → Rs β) : (Rs.ok a e).bind f = f a e := rfl
@[simp] theorem bind_ex (x : Nat) (e : Ev) (f : α → Ev → Rs β) : (Rs.ex x e : Rs α).bind f = .ex x e := rfl
@[simp] theorem bind_er (f : α → Ev → Rs β) : (Rs.er : Rs α).bind f = .er := rfl
@[simp] theorem Rv.d_fz (d : D) : (Rv.fz d).d = d := rfl
@[simp] theorem Rv.d_fr (d : D) : (Rv.fr d).d = d := rfl
@[simp] theorem Rv.sl_fz (d : D) : (Rv.fz d).sl = .val d := rfl
@[simp] theorem Rv.sl_fr (d : D) : (Rv.fr d).sl = .mu false d := rfl
@[simp] theorem evE_k (d : D) : evE cf (.k d) e = .ok (.fz d) e := rfl
@[simp] theorem evE_edict : evE cf .edict e = .ok (.fz (.dict [])) e := rfl
@[simp] theorem evE_glob (d : D) : evE cf (.glob d) e = .ok (.fz d) e := rfl
@[simp] theorem evE_var (i : Nat) : evE cf (.var i) e = rdA i e := rfl
@[simp] theorem evE_tup (es : List CE) : evE cf (.tup es) e = (evL cf es e).bind fun ds e => if ds.length ≤ sizeLine then .ok (.fz (.tuple ds)) e else .er := rfl
@[simp] theorem evE_lst (es : List CE) : evE cf (.lst es) e = (evL cf es e).bind fun ds e => if ds.length ≤ sizeLine then .ok (.fr (.list ds)) e else .er := rfl
@[simp] theorem evE_bin (o : Operator) (a b : CE) : evE cf (.bin o a b) e = (opd a (evE cf a) e).bind fun x e => (opd b (evE cf b) e).bind fun y e => two x y e (binD o) := rfl
@[simp] theorem evE_neg (a : CE) : evE cf (.neg a) e = (opd a (evE cf a) e).bind fun x e => one x e fun d => match d with | .int i => some (.fz (.int (-i))) | _ => none := rfl
@[simp] theorem evE_cmp (o : CmpOp) (a b : CE) : evE cf (.cmp o a b) e = (opd a (evE cf a) e).bind fun x e => (opd b (evE cf b) e).bind fun y e => two x y e fun p q => (cmpD o p q).map fun b => .fz (.bool b) := rfl
@[simp] theorem evE_chain (o p : CmpOp) (a b c : CE) : evE cf (.chain o p a b c) e = (opd a (evE cf a) e).bind fun x e => (opd b (evE cf b) e).bind fun y e => (tstR (two x y e fun p q => (cmpD o p q).map fun b => .fz (.bool b))).bind fun t e =>
      if t = true then (opd c (evE cf c) e).bind fun z e => two y z e fun u v => (cmpD p u v).map fun b => .fz (.bool b) else .ok (.fz (.bool false)) e := rfl
@[simp] theorem evE_and (a b : CE) : evE cf (.and_ a b) e = (tstR (evE cf a e)).bind fun t e => if t = true then evE cf b e else .ok (.fz (.bool false)) e := rfl
@[simp] theorem evE_or (a b : CE) : evE cf (.or_ a b) e = (tstR (evE cf a e)).bind fun t e => if t = true then .ok (.fz (.bool true)) e else evE cf b e := rfl
@[simp] theorem evE_not (a : CE) : evE cf (.not_ a) e = (tstR (evE cf a e)).bind fun t e => .ok (.fz (.bool (!t))) e := rfl
@[simp] theorem evE_ife (c a b : CE) : evE cf (.ife c a b) e = (tst c (evE cf c) e).bind fun t e => if t = true then evE cf a e else evE cf b e := rfl
@[simp] theorem evE_idx (a i : CE) : evE cf (.idx a i) e = (opd a (evE cf a) e).bind fun x e => (opd i (evE cf i) e).bind fun y e => two x y e fun p q => (idxD p q).map .fz := rfl
@[simp] theorem evE_slc (a : CE) (l h : Option CE) : evE cf (.slc a l h) e = (opd a (evE cf a) e).bind fun x e => (evOpt cf l e).bind fun l e => (evOpt cf h e).bind fun h e => one x e fun d => slcD d l h := rfl
@[simp] theorem evE_rev (a : CE) : evE cf (.rev a) e = (opd a (evE cf a) e).bind fun x e => one x e revD := rfl
@[simp] theorem evE_call (f : Nat) (es : List CE) : evE cf (.call f es) e = (evA cf es e).bind fun os e => callR cf f [] os e := rfl
@[simp] theorem evE_callk (f : Nat) (perm : List Nat) (es ks : List CE) : evE cf (.callk f perm es ks) e = (evA cf es e).bind fun o1 e => (evA cf ks e).bind fun o2 e => if o1.length = es.length ∧ o2.length = ks.length then callR cf f perm (o1 ++ o2) e else .er := rfl
@[simp] theorem evE_isi (a : CE) (t : Ty) : evE cf (.isi a t) e = (opd a (evE cf a) e).bind fun x e => one x e fun d => some (.fz (.bool (isD d t))) := rfl
@[simp] theorem evE_blt (f : Bt) (es : List CE) : evE cf (.blt f es) e = (evO cf es e).bind fun os e => many os e (bltD f) := rfl
@[simp] theorem evE_mm (m : Mm) (i : Nat) (es : List CE) : evE cf (.mm m i es) e = (match e[i]? with | some (.mu _ (.list _)) => (evL cf es e).bind fun ds e => mmAt m i ds e | _ => .er) := rfl
@[simp] theorem evL_nil : evL cf [] e = .ok [] e := rfl
@[simp] theorem evL_cons (a : CE) (r : List CE) : evL cf (a :: r) e = (evE cf a e).bind fun v e => (evL cf r e).bind fun ds e => .ok (v.d :: ds) e := rfl
@[simp] theorem evR_nil : evR cf [] e = .ok [] e := rfl
@[simp] theorem evR_cons (a : CE) (r : List CE) : evR cf (a :: r) e = (evE cf a e).bind fun v e => (evR cf r e).bind fun ds e => .ok (v :: ds) e := rfl
@[simp] theorem evO_nil : evO cf [] e = .ok [] e := rfl
@[simp] theorem evO_cons (a : CE) (r : List CE) : evO cf (a :: r) e = (opd a (evE cf a) e).bind fun o e => (evO cf r e).bind fun os e => .ok (o :: os) e := rfl
@[simp] theorem evA_nil : evA cf [] e = .ok [] e := rfl
@[simp] theorem evA_cons (a : CE) (r : List CE) : evA cf (a :: r) e = (argd a (evE cf a) e).bind fun o e => (evA cf r e).bind fun os e => .ok (o :: os) e := rfl
@[simp] theorem evOpt_none : evOpt cf none e = .ok none e := rfl
@[simp] theorem evOpt_some (a : CE) : evOpt cf (some a) e = (opd a (evE cf a) e).bind fun x e => match x.get e with | some (.int i) => .ok (some i) e | _ => .er := rfl
@[simp] theorem evI_over (a : CE) : evI cf (.over a) e = (evE cf a e).bind fun r e => match itD r.d with | some l => .ok l e | none => .er := rfl
@[simp] theorem evI_range1 (a : CE) : evI cf (.range1 a) e = (opd a (evE cf a) e).bind fun x e => oneI x e fun d => match d with | .int b => if ok63 b = true then some (rangeD 0 b) else none | _ => none := rfl
@[simp] theorem evI_range2 (a b : CE) : evI cf (.range2 a b) e = (opd a (evE cf a) e).bind fun x e => (opd b (evE cf b) e).bind fun y e => match x.get e, y.get e with
    | some (.int i), some (.int j) => if ok63 i = true ∧ ok63 j = true then .ok (rangeD i j) e else .er
    | _, _ => .er := rfl
@[simp] theorem evI_enum (a : CE) : evI cf (.enum a) e = (evE cf a e).bind fun r e => match itD r.d with | some l => .ok (enumD l) e | none => .er := rfl
@[simp] theorem evI_zip (a b : CE) : evI cf (.zip a b) e = (evE cf a e).bind fun r e => (evE cf b e).bind fun s e => match itD r.d, itD s.d with | some l, some m => .ok (zipD l m) e | _, _ => .er := rfl
@[simp] theorem evAsg_name (i : Nat) (r : Rv) : evAsg cf (.name i) r e = store i r.sl e := rfl
@[simp] theorem evAsg_tup (ts : List Tg) (r : Rv) : evAsg cf (.tup ts) r e = (match r.d with
    | .tuple ds => if ds.length = ts.length then evAsgs cf ts (ds.map .fz) e else .er
    | _ => .er) := rfl
@[simp] theorem evAsg_sub (i : Nat) (a : CE) (r : Rv) : evAsg cf (.sub i a) r e = subE i (opd a (evE cf a)) r e := rfl
@[simp] theorem evAsgs_nil : evAsgs cf [] [] e = .ok () e := rfl
@[simp] theorem evAsgs_cons (t : Tg) (ts : List Tg) (r : Rv) (rs : List Rv) : evAsgs cf (t :: ts) (r :: rs) e = (evAsg cf t r e).bind fun _ e => evAsgs cf ts rs e := rfl
@[simp] theorem evS_asg (t : Tg) (a : CE) : evS cf fuel (.asg t a) e = (evE cf a e).bind fun r e => (evAsg cf t r e).bind fun _ e => .ok .nx e := rfl
@[simp] theorem evS_par (ts : List Tg) (es : List CE) : evS cf fuel (.par ts es) e = (evR cf es e).bind fun rs e => if rs.length = ts.length ∧ ts.length ≤ 1000 then (evAsgs cf ts rs e).bind fun _ e => .ok .nx e else .er := rfl
@[simp] theorem evS_ex (a : CE) : evS cf fuel (.ex a) e = (evE cf a e).bind fun _ e => .ok .nx e := rfl
@[simp] theorem evS_ret (a : CE) : evS cf fuel (.ret a) e = (evRet a (evE cf a) e).bind fun r e => .ok (.rt r) e := rfl
@[simp] theorem evS_ife (c : CE) (a b : List CS) : evS cf fuel (.ife c a b) e = (tst c (evE cf c) e).bind fun t e => if t = true then evSs cf fuel a e else evSs cf fuel b e := rfl
@[simp] theorem evS_while (c : CE) (b : List CS) : evS cf fuel (.while_ c b) e = whileL (fun e => tst c (evE cf c) e) (fun e => evSs cf fuel b e) fuel e := rfl
@[simp] theorem evS_for (t : Tg) (it : It) (b : List CS) : evS cf fuel (.for_ t it b) e = (evI cf it e).bind fun items e => forL (fun d e => evAsg cf t (.fz d) e) (fun e => evSs cf fuel b e) items e := rfl
@[simp] theorem evS_pass : evS cf fuel .pass e = .ok .nx e := rfl
@[simp] theorem evS_brk : evS cf fuel .brk e = .ok .bk e := rfl
@[simp] theorem evS_cont : evS cf fuel .cont e = .ok .ct e := rfl
@[simp] theorem evS_raise (x : Nat) : evS cf fuel (.raise x) e = .ex x e := rfl
@[simp] theorem evSs_nil : evSs cf fuel [] e = .ok .nx e := rfl
@[simp] theorem evSs_cons' (s : CS) (r : List CS) : evSs cf fuel (s :: r) e = (evS cf fuel s e).bind fun f e => match f with
    | .nx => evSs cf fuel r e
    | f => .ok f e := rfl
@[simp] theorem look_cons0 (s : Sl) (r : Ev) : look (s :: r) 0 = (match s with | .val d => some d | .mu _ d => some d | .frz d => some d | .un => none) := by cases s <;> rfl
@[simp] theorem look_consS (s : Sl) (r : Ev) (i : Nat) : look (s :: r) (i + 1) = look r i := rfl
@[simp] theorem get_pl (i : Nat) : (Op.pl i).get e = look e i := rfl
@[simp] theorem get_vl (d : D) : (Op.vl d).get e = some d := rfl
@[simp] theorem opd_var (i : Nat) (ff : Ev → Rs Rv) : opd (.var i) ff e = (match look e i with | some _ => .ok (.pl i) e | none => .er) := rfl
@[simp] theorem two_mk (x y : Op) (f : D → D → Option Rv) : two x y e f = (match x.get e, y.get e with
  | some a, some b => (match f a b with | some r => .ok r e | none => .er)
  | _, _ => .er) := rfl
@[simp] theorem one_mk (x : Op) (f : D → Option Rv) : one x e f = (match x.get e with
  | some a => (match f a with | some r => .ok r e | none => .er)
  | _ => .er) := rfl
@[simp] theorem gets_nil : gets [] e = some [] := rfl
@[simp] theorem gets_cons (x : Op) (r : List Op) : gets (x :: r) e = (match x.get e, gets r e with
    | some d, some ds => some (d :: ds)
    | _, _ => none) := rfl
@[simp] theorem many_mk (xs : List Op) (f : List D → Option Rv) : many xs e f = (match gets xs e with
  | some ds => (match f ds with | some r => .ok r e | none => .er)
  | none => .er) := rfl
@[simp] theorem tstR_ok' (r : Rv) : tstR (.ok r e) = (match r.d with | .bool b => .ok b e | _ => .er) := rfl
@[simp] theorem opd_k (d : D) (ff : Ev → Rs Rv) : opd (.k d) ff e = (ff e).bind fun r e => .ok (.vl r.d) e := rfl
@[simp] theorem argd_k (d : D) (ff : Ev → Rs Rv) : argd (.k d) ff e = (ff e).bind fun r e => .ok (.vl r.d) e := rfl
@[simp] theorem evRet_k (d : D) (ff : Ev → Rs Rv) : evRet (.k d) ff e = ff e := rfl
@[simp] theorem tst_k (d : D) (ff : Ev → Rs Rv) : tst (.k d) ff e = (opd (.k d) ff e).bind fun o e => match o.get e with | some d => (match truD d with | some b => .ok b e | none => .er) | none => .er := rfl
@[simp] theorem opd_edict  (ff : Ev → Rs Rv) : opd .edict ff e = (ff e).bind fun r e => .ok (.vl r.d) e := rfl
@[simp] theorem argd_edict  (ff : Ev → Rs Rv) : argd .edict ff e = (ff e).bind fun r e => .ok (.vl r.d) e := rfl
@[simp] theorem evRet_edict  (ff : Ev → Rs Rv) : evRet .edict ff e = ff e := rfl
@[simp] theorem tst_edict  (ff : Ev → Rs Rv) : tst .edict ff e = (opd .edict ff e).bind fun o e => match o.get e with | some d => (match truD d with | some b => .ok b e | none => .er) | none => .er := rfl
@[simp] theorem opd_glob (d : D) (ff : Ev → Rs Rv) : opd (.glob d) ff e = (ff e).bind fun r e => .ok (.vl r.d) e := rfl
@[simp] theorem argd_glob (d : D) (ff : Ev → Rs Rv) : argd (.glob d) ff e = (ff e).bind fun r e => .ok (.vl r.d) e := rfl
@[simp] theorem evRet_glob (d : D) (ff : Ev → Rs Rv) : evRet (.glob d) ff e = ff e := rfl
@[simp] theorem tst_glob (d : D) (ff : Ev → Rs Rv) : tst (.glob d) ff e = (opd (.glob d) ff e).bind fun o e => match o.get e with | some d => (match truD d with | some b => .ok b e | none => .er) | none => .er := rfl
@[simp] theorem opd_tup (es : List CE) (ff : Ev → Rs Rv) : opd (.tup es) ff e = (ff e).bind fun r e => .ok (.vl r.d) e := rfl
@[simp] theorem argd_tup (es : List CE) (ff : Ev → Rs Rv) : argd (.tup es) ff e = (ff e).bind fun r e => .ok (.vl r.d) e := rfl
@[simp] theorem evRet_tup (es : List CE) (ff : Ev → Rs Rv) : evRet (.tup es) ff e = ff e := rfl
@[simp] theorem tst_tup (es : List CE) (ff : Ev → Rs Rv) : tst (.tup es) ff e = (opd (.tup es) ff e).bind fun o e => match o.get e with | some d => (match truD d with | some b => .ok b e | none => .er) | none => .er := rfl
@[simp] theorem opd_lst (es : List CE) (ff : Ev → Rs Rv) : opd (.lst es) ff e = (ff e).bind fun r e => .ok (.vl r.d) e := rfl
@[simp] theorem argd_lst (es : List CE) (ff : Ev → Rs Rv) : argd (.lst es) ff e = (ff e).bind fun r e => .ok (.vl r.d) e := rfl
@[simp] theorem evRet_lst (es : List CE) (ff : Ev → Rs Rv) : evRet (.lst es) ff e = ff e := rfl
@[simp] theorem tst_lst (es : List CE) (ff : Ev → Rs Rv) : tst (.lst es) ff e = (opd (.lst es) ff e).bind fun o e => match o.get e with | some d => (match truD d with | some b => .ok b e | none => .er) | none => .er := rfl
@[simp] theorem opd_bin (o : Operator) (a b : CE) (ff : Ev → Rs Rv) : opd (.bin o a b) ff e = (ff e).bind fun r e => .ok (.vl r.d) e := rfl
@[simp] theorem argd_bin (o : Operator) (a b : CE) (ff : Ev → Rs Rv) : argd (.bin o a b) ff e = (ff e).bind fun r e => .ok (.vl r.d) e := rfl
@[simp] theorem evRet_bin (o : Operator) (a b : CE) (ff : Ev → Rs Rv) : evRet (.bin o a b) ff e = ff e := rfl
@[simp] theorem tst_bin (o : Operator) (a b : CE) (ff : Ev → Rs Rv) : tst (.bin o a b) ff e = (opd (.bin o a b) ff e).bind fun o e => match o.get e with | some d => (match truD d with | some b => .ok b e | none => .er) | none => .er := rfl
@[simp] theorem opd_neg (a : CE) (ff : Ev → Rs Rv) : opd (.neg a) ff e = (ff e).bind fun r e => .ok (.vl r.d) e := rfl
@[simp] theorem argd_neg (a : CE) (ff : Ev → Rs Rv) : argd (.neg a) ff e = (ff e).bind fun r e => .ok (.vl r.d) e := rfl
@[simp] theorem evRet_neg (a : CE) (ff : Ev → Rs Rv) : evRet (.neg a) ff e = ff e := rfl
@[simp] theorem tst_neg (a : CE) (ff : Ev → Rs Rv) : tst (.neg a) ff e = (opd (.neg a) ff e).bind fun o e => match o.get e with | some d => (match truD d with | some b => .ok b e | none => .er) | none => .er := rfl
@[simp] theorem opd_cmp (o : CmpOp) (a b : CE) (ff : Ev → Rs Rv) : opd (.cmp o a b) ff e = (ff e).bind fun r e => .ok (.vl r.d) e := rfl
@[simp] theorem argd_cmp (o : CmpOp) (a b : CE) (ff : Ev → Rs Rv) : argd (.cmp o a b) ff e = (ff e).bind fun r e => .ok (.vl r.d) e := rfl
@[simp] theorem evRet_cmp (o : CmpOp) (a b : CE) (ff : Ev → Rs Rv) : evRet (.cmp o a b) ff e = ff e := rfl
@[simp] theorem tst_cmp (o : CmpOp) (a b : CE) (ff : Ev → Rs Rv) : tst (.cmp o a b) ff e = tstR (ff e) := rfl
@[simp] theorem opd_chain (o p : CmpOp) (a b c : CE) (ff : Ev → Rs Rv) : opd (.chain o p a b c) ff e = (ff e).bind fun r e => .ok (.vl r.d) e := rfl
@[simp] theorem argd_chain (o p : CmpOp) (a b c : CE) (ff : Ev → Rs Rv) : argd (.chain o p a b c) ff e = (ff e).bind fun r e => .ok (.vl r.d) e := rfl
@[simp] theorem evRet_chain (o p : CmpOp) (a b c : CE) (ff : Ev → Rs Rv) : evRet (.chain o p a b c) ff e = ff e := rfl
@[simp] theorem tst_chain (o p : CmpOp) (a b c : CE) (ff : Ev → Rs Rv) : tst (.chain o p a b c) ff e = tstR (ff e) := rfl
@[simp] theorem opd_and (a b : CE) (ff : Ev → Rs Rv) : opd (.and_ a b) ff e = (ff e).bind fun r e => .ok (.vl r.d) e := rfl
@[simp] theorem argd_and (a b : CE) (ff : Ev → Rs Rv) : argd (.and_ a b) ff e = (ff e).bind fun r e => .ok (.vl r.d) e := rfl
@[simp] theorem evRet_and (a b : CE) (ff : Ev → Rs Rv) : evRet (.and_ a b) ff e = ff e := rfl
@[simp] theorem tst_and (a b : CE) (ff : Ev → Rs Rv) : tst (.and_ a b) ff e = tstR (ff e) := rfl
@[simp] theorem opd_or (a b : CE) (ff : Ev → Rs Rv) : opd (.or_ a b) ff e = (ff e).bind fun r e => .ok (.vl r.d) e := rfl
@[simp] theorem argd_or (a b : CE) (ff : Ev → Rs Rv) : argd (.or_ a b) ff e = (ff e).bind fun r e => .ok (.vl r.d) e := rfl
@[simp] theorem evRet_or (a b : CE) (ff : Ev → Rs Rv) : evRet (.or_ a b) ff e = ff e := rfl
@[simp] theorem tst_or (a b : CE) (ff : Ev → Rs Rv) : tst (.or_ a b) ff e = tstR (ff e) := rfl
@[simp] theorem opd_not (a : CE) (ff : Ev → Rs Rv) : opd (.not_ a) ff e = (ff e).bind fun r e => .ok (.vl r.d) e := rfl
@[simp] theorem argd_not (a : CE) (ff : Ev → Rs Rv) : argd (.not_ a) ff e = (ff e).bind fun r e => .ok (.vl r.d) e := rfl
@[simp] theorem evRet_not (a : CE) (ff : Ev → Rs Rv) : evRet (.not_ a) ff e = ff e := rfl
@[simp] theorem tst_not (a : CE) (ff : Ev → Rs Rv) : tst (.not_ a) ff e = tstR (ff e) := rfl
@[simp] theorem opd_ife (c a b : CE) (ff : Ev → Rs Rv) : opd (.ife c a b) ff e = (ff e).bind fun r e => .ok (.vl r.d) e := rfl
@[simp] theorem argd_ife (c a b : CE) (ff : Ev → Rs Rv) : argd (.ife c a b) ff e = (ff e).bind fun r e => .ok (.vl r.d) e := rfl
@[simp] theorem evRet_ife (c a b : CE) (ff : Ev → Rs Rv) : evRet (.ife c a b) ff e = ff e := rfl
@[simp] theorem tst_ife (c a b : CE) (ff : Ev → Rs Rv) : tst (.ife c a b) ff e = (opd (.ife c a b) ff e).bind fun o e => match o.get e with | some d => (match truD d with | some b => .ok b e | none => .er) | none => .er := rfl
@[simp] theorem opd_idx (a i : CE) (ff : Ev → Rs Rv) : opd (.idx a i) ff e = (ff e).bind fun r e => .ok (.vl r.d) e := rfl
@[simp] theorem argd_idx (a i : CE) (ff : Ev → Rs Rv) : argd (.idx a i) ff e = (ff e).bind fun r e => .ok (.vl r.d) e := rfl
@[simp] theorem evRet_idx (a i : CE) (ff : Ev → Rs Rv) : evRet (.idx a i) ff e = ff e := rfl
@[simp] theorem tst_idx (a i : CE) (ff : Ev → Rs Rv) : tst (.idx a i) ff e = (opd (.idx a i) ff e).bind fun o e => match o.get e with | some d => (match truD d with | some b => .ok b e | none => .er) | none => .er := rfl
@[simp] theorem opd_slc (a : CE) (l h : Option CE) (ff : Ev → Rs Rv) : opd (.slc a l h) ff e = (ff e).bind fun r e => .ok (.vl r.d) e := rfl
@[simp] theorem argd_slc (a : CE) (l h : Option CE) (ff : Ev → Rs Rv) : argd (.slc a l h) ff e = (ff e).bind fun r e => .ok (.vl r.d) e := rfl
@[simp] theorem evRet_slc (a : CE) (l h : Option CE) (ff : Ev → Rs Rv) : evRet (.slc a l h) ff e = ff e := rfl
@[simp] theorem tst_slc (a : CE) (l h : Option CE) (ff : Ev → Rs Rv) : tst (.slc a l h) ff e = (opd (.slc a l h) ff e).bind fun o e => match o.get e with | some d => (match truD d with | some b => .ok b e | none => .er) | none => .er := rfl
@[simp] theorem opd_rev (a : CE) (ff : Ev → Rs Rv) : opd (.rev a) ff e = (ff e).bind fun r e => .ok (.vl r.d) e := rfl
@[simp] theorem argd_rev (a : CE) (ff : Ev → Rs Rv) : argd (.rev a) ff e = (ff e).bind fun r e => .ok (.vl r.d) e := rfl
@[simp] theorem evRet_rev (a : CE) (ff : Ev → Rs Rv) : evRet (.rev a) ff e = ff e := rfl
@[simp] theorem tst_rev (a : CE) (ff : Ev → Rs Rv) : tst (.rev a) ff e = (opd (.rev a) ff e).bind fun o e => match o.get e with | some d => (match truD d with | some b => .ok b e | none => .er) | none => .er := rfl
@[simp] theorem opd_call (f : Nat) (es : List CE) (ff : Ev → Rs Rv) : opd (.call f es) ff e = (ff e).bind fun r e => .ok (.vl r.d) e := rfl
@[simp] theorem argd_call (f : Nat) (es : List CE) (ff : Ev → Rs Rv) : argd (.call f es) ff e = (ff e).bind fun r e => .ok (.vl r.d) e := rfl
@[simp] theorem evRet_call (f : Nat) (es : List CE) (ff : Ev → Rs Rv) : evRet (.call f es) ff e = ff e := rfl
@[simp] theorem tst_call (f : Nat) (es : List CE) (ff : Ev → Rs Rv) : tst (.call f es) ff e = (opd (.call f es) ff e).bind fun o e => match o.get e with | some d => (match truD d with | some b => .ok b e | none => .er) | none => .er := rfl
@[simp] theorem opd_callk (f : Nat) (p : List Nat) (es ks : List CE) (ff : Ev → Rs Rv) : opd (.callk f p es ks) ff e = (ff e).bind fun r e => .ok (.vl r.d) e := rfl
@[simp] theorem argd_callk (f : Nat) (p : List Nat) (es ks : List CE) (ff : Ev → Rs Rv) : argd (.callk f p es ks) ff e = (ff e).bind fun r e => .ok (.vl r.d) e := rfl
@[simp] theorem evRet_callk (f : Nat) (p : List Nat) (es ks : List CE) (ff : Ev → Rs Rv) : evRet (.callk f p es ks) ff e = ff e := rfl
@[simp] theorem tst_callk (f : Nat) (p : List Nat) (es ks : List CE) (ff : Ev → Rs Rv) : tst (.callk f p es ks) ff e = (opd (.callk f p es ks) ff e).bind fun o e => match o.get e with | some d => (match truD d with | some b => .ok b e | none => .er) | none => .er := rfl
@[simp] theorem opd_isi (a : CE) (t : Ty) (ff : Ev → Rs Rv) : opd (.isi a t) ff e = (ff e).bind fun r e => .ok (.vl r.d) e := rfl
@[simp] theorem argd_isi (a : CE) (t : Ty) (ff : Ev → Rs Rv) : argd (.isi a t) ff e = (ff e).bind fun r e => .ok (.vl r.d) e := rfl
@[simp] theorem evRet_isi (a : CE) (t : Ty) (ff : Ev → Rs Rv) : evRet (.isi a t) ff e = ff e := rfl
@[simp] theorem tst_isi (a : CE) (t : Ty) (ff : Ev → Rs Rv) : tst (.isi a t) ff e = (opd (.isi a t) ff e).bind fun o e => match o.get e with | some d => (match truD d with | some b => .ok b e | none => .er) | none => .er := rfl
@[simp] theorem opd_blt (f : Bt) (es : List CE) (ff : Ev → Rs Rv) : opd (.blt f es) ff e = (ff e).bind fun r e => .ok (.vl r.d) e := rfl
@[simp] theorem argd_blt (f : Bt) (es : List CE) (ff : Ev → Rs Rv) : argd (.blt f es) ff e = (ff e).bind fun r e => .ok (.vl r.d) e := rfl
@[simp] theorem evRet_blt (f : Bt) (es : List CE) (ff : Ev → Rs Rv) : evRet (.blt f es) ff e = ff e := rfl
@[simp] theorem tst_blt (f : Bt) (es : List CE) (ff : Ev → Rs Rv) : tst (.blt f es) ff e = (opd (.blt f es) ff e).bind fun o e => match o.get e with | some d => (match truD d with | some b => .ok b e | none => .er) | none => .er := rfl
@[simp] theorem opd_vm (m : Vm) (a : CE) (es : List CE) (ff : Ev → Rs Rv) : opd (.vm m a es) ff e = (ff e).bind fun r e => .ok (.vl r.d) e := rfl
@[simp] theorem argd_vm (m : Vm) (a : CE) (es : List CE) (ff : Ev → Rs Rv) : argd (.vm m a es) ff e = (ff e).bind fun r e => .ok (.vl r.d) e := rfl
@[simp] theorem evRet_vm (m : Vm) (a : CE) (es : List CE) (ff : Ev → Rs Rv) : evRet (.vm m a es) ff e = ff e := rfl
@[simp] theorem tst_vm (m : Vm) (a : CE) (es : List CE) (ff : Ev → Rs Rv) : tst (.vm m a es) ff e = (opd (.vm m a es) ff e).bind fun o e => match o.get e with | some d => (match truD d with | some b => .ok b e | none => .er) | none => .er := rfl
@[simp] theorem opd_mm (m : Mm) (i : Nat) (es : List CE) (ff : Ev → Rs Rv) : opd (.mm m i es) ff e = (ff e).bind fun r e => .ok (.vl r.d) e := rfl
@[simp] theorem argd_mm (m : Mm) (i : Nat) (es : List CE) (ff : Ev → Rs Rv) : argd (.mm m i es) ff e = (ff e).bind fun r e => .ok (.vl r.d) e := rfl
@[simp] theorem evRet_mm (m : Mm) (i : Nat) (es : List CE) (ff : Ev → Rs Rv) : evRet (.mm m i es) ff e = ff e := rfl
@[simp] theorem tst_mm (m : Mm) (i : Nat) (es : List CE) (ff : Ev → Rs Rv) : tst (.mm m i es) ff e = (opd (.mm m i es) ff e).bind fun o e => match o.get e with | some d => (match truD d with | some b => .ok b e | none => .er) | none => .er := rfl
@[simp] theorem opd_comp (own : List Nat) (t : Tg) (it : It) (c : Option CE) (e1 : CE) (ff : Ev → Rs Rv) : opd (.comp own t it c e1) ff e = (ff e).bind fun r e => .ok (.vl r.d) e := rfl
@[simp] theorem argd_comp (own : List Nat) (t : Tg) (it : It) (c : Option CE) (e1 : CE) (ff : Ev → Rs Rv) : argd (.comp own t it c e1) ff e = (ff e).bind fun r e => .ok (.vl r.d) e := rfl
@[simp] theorem evRet_comp (own : List Nat) (t : Tg) (it : It) (c : Option CE) (e1 : CE) (ff : Ev → Rs Rv) : evRet (.comp own t it c e1) ff e = ff e := rfl
@[simp] theorem tst_comp (own : List Nat) (t : Tg) (it : It) (c : Option CE) (e1 : CE) (ff : Ev → Rs Rv) : tst (.comp own t it c e1) ff e = (opd (.comp own t it c e1) ff e).bind fun o e => match o.get e with | some d => (match truD d with | some b => .ok b e | none => .er) | none => .er := rfl
@[simp] theorem tst_var (i : Nat) (ff : Ev → Rs Rv) : tst (.var i) ff e = (opd (.var i) ff e).bind fun o e => match o.get e with | some d => (match truD d with | some b => .ok b e | none => .er) | none => .er := rfl
/-! slots -/
@[simp] theorem rdA_0 (s : Sl) (r : Ev) : rdA 0 (s :: r) = (match s with
  | .val d => .ok (.fz d) (s :: r)
  | .mu b d => .ok (.fz d) ((if b = true then .frz d else .val d) :: r)
  | .frz d => .ok (.fz d) (s :: r)
  | .un => .er) := by cases s <;> rfl
def shS {α : Type} (s : Sl) : Rs α → Rs α
  | .ok a e => .ok a (s :: e)
  | .ex x e => .ex x (s :: e)
  | .er => .er
@[simp] theorem shS_ok {α : Type} (s : Sl) (a : α) (e : Ev) : shS s (.ok a e) = .ok a (s :: e) := rfl
@[simp] theorem shS_er {α : Type} (s : Sl) : shS s (.er : Rs α) = .er := rfl
@[simp] theorem rdA_S (s : Sl) (r : Ev) (i : Nat) : rdA (i + 1) (s :: r) = shS s (rdA i r) := by
  unfold rdA
  rw [List.getElem?_cons_succ]
  cases r[i]? with
  | none => rfl
  | some t => cases t <;> rfl
@[simp] theorem store_0 (t s : Sl) (r : Ev) : store 0 t (s :: r) = (match s with
  | .mu true _ => .er
  | .frz _ => .er
  | _ => .ok () (t :: r)) := by
  cases s with
  | mu b d => cases b <;> rfl
  | _ => rfl
@[simp] theorem store_S (t s : Sl) (r : Ev) (i : Nat) : store (i + 1) t (s :: r) = shS s (store i t r) := by
  unfold store
  rw [List.getElem?_cons_succ]
  cases r[i]? with
  | none => rfl
  | some u =>
    cases u with
    | mu b d => cases b <;> rfl
    | _ => rfl
@[simp] theorem evRet_0 (s : Sl) (r : Ev) (f : Ev → Rs Rv) : evRet (.var 0) f (s :: r) = (match s with | .mu false d => .ok (.fr d) (.un :: r) | _ => f (s :: r)) := by
  cases s with
  | mu b d => cases b <;> rfl
  | _ => rfl
theorem evRet_var (i : Nat) (ff : Ev → Rs Rv) : evRet (.var i) ff e = (match e[i]? with | some (.mu false d) => .ok (.fr d) (e.set i .un) | _ => ff e) := rfl
@[simp] theorem argd_var (i : Nat) (ff : Ev → Rs Rv) : argd (.var i) ff e = (match e[i]? with
    | some (.mu _ _) => .ok (.pl i) e
    | some (.val d) => .ok (.vl d) e
    | some (.frz d) => .ok (.vl d) e
    | _ => .er) := rfl
/-! values -/
@[simp] theorem binD_add (i j : Int) : binD .Add (.int i) (.int j) = some (.fz (.int (i + j))) := rfl
@[simp] theorem binD_sub (i j : Int) : binD .Sub (.int i) (.int j) = some (.fz (.int (i - j))) := rfl
@[simp] theorem binD_mult (i j : Int) : binD .Mult (.int i) (.int j) = if mulOk i j = true then some (.fz (.int (i * j))) else none := rfl
@[simp] theorem binD_fdiv (i j : Int) : binD .FloorDiv (.int i) (.int j) = if 0 < j ∧ j.natAbs.log2 < 9000 then some (.fz (.int (i / j))) else none := rfl
@[simp] theorem binD_mod (i j : Int) : binD .Mod (.int i) (.int j) = if 0 < j then some (.fz (.int (i % j))) else none := rfl
@[simp] theorem binD_pow (i j : Int) : binD .Pow (.int i) (.int j) = if 0 ≤ j ∧ j ≤ 1000 ∧ i.natAbs < 2 ^ 64 then some (.fz (.int (i ^ j.toNat))) else none := rfl
@[simp] theorem binD_addS (i j : Str) : binD .Add (.str i) (.str j) = if i.length + j.length ≤ sizeLine then some (.fz (.str (i ++ j))) else none := rfl
@[simp] theorem binD_addT (i j : List D) : binD .Add (.tuple i) (.tuple j) = if i.length + j.length ≤ sizeLine then some (.fz (.tuple (i ++ j))) else none := rfl
@[simp] theorem binD_addL (i j : List D) : binD .Add (.list i) (.list j) = if i.length + j.length ≤ sizeLine then some (.fr (.list (i ++ j))) else none := rfl
@[simp] theorem binD_mulT (xs : List D) (k : Int) : binD .Mult (.tuple xs) (.int k) = if k < 1000000 ∧ -1000000 < k ∧ xs.length * k.toNat ≤ sizeLine then some (.fz (.tuple (repD xs k.toNat))) else none := rfl
@[simp] theorem binD_mulL (xs : List D) (k : Int) : binD .Mult (.list xs) (.int k) = if k < 1000000 ∧ -1000000 < k ∧ xs.length * k.toNat ≤ sizeLine then some (.fr (.list (repD xs k.toNat))) else none := rfl
theorem c_eqI {i j : Int} : (cmpD .Eq (.int i) (.int j)).map (fun b => Rv.fz (.bool b)) = some (.fz (.bool (decide (i = j)))) := by
  have e1 : SeqAt.shaped (.int i) = true := by rfl
  have e2 : SeqAt.shaped (.int j) = true := by rfl
  show Option.map _ (eqD (.int i) (.int j)) = _
  unfold eqD twoS
  dsimp only
  rw [if_pos ⟨e1, e2⟩]
  simp only [PyData.eqv, Option.map_some]
  congr 3
theorem c_neI {i j : Int} : (cmpD .NotEq (.int i) (.int j)).map (fun b => Rv.fz (.bool b)) = some (.fz (.bool (!decide (i = j)))) := by
  have e1 : SeqAt.shaped (.int i) = true := by rfl
  have e2 : SeqAt.shaped (.int j) = true := by rfl
  show Option.map _ ((eqD (.int i) (.int j)).map _) = _
  unfold eqD twoS
  dsimp only
  rw [if_pos ⟨e1, e2⟩]
  simp only [PyData.eqv, Option.map_some]
  congr 3
theorem c_eqS {i j : Str} : (cmpD .Eq (.str i) (.str j)).map (fun b => Rv.fz (.bool b)) = some (.fz (.bool (decide (i = j)))) := rfl
theorem c_neS {i j : Str} : (cmpD .NotEq (.str i) (.str j)).map (fun b => Rv.fz (.bool b)) = some (.fz (.bool (!decide (i = j)))) := rfl
@[simp] theorem cmpD_lt (i j : Int) : cmpD .Lt (.int i) (.int j) = some (decide (i < j)) := rfl
@[simp] theorem cmpD_le (i j : Int) : cmpD .LtE (.int i) (.int j) = some (decide (i ≤ j)) := rfl
@[simp] theorem cmpD_gt (i j : Int) : cmpD .Gt (.int i) (.int j) = some (decide (j < i)) := rfl
@[simp] theorem cmpD_ge (i j : Int) : cmpD .GtE (.int i) (.int j) = some (decide (j ≤ i)) := rfl
@[simp] theorem truD_bool (b : Bool) : truD (.bool b) = some b := rfl
@[simp] theorem truD_list (xs : List D) : truD (.list xs) = some (!xs.isEmpty) := rfl
@[simp] theorem truD_tuple (xs : List D) : truD (.tuple xs) = some (!xs.isEmpty) := rfl
@[simp] theorem truD_int (i : Int) : truD (.int i) = some (i != 0) := rfl
@[simp] theorem idxD_list (xs : List D) (k : Int) : idxD (.list xs) (.int k) = L2.atI xs k := rfl
@[simp] theorem idxD_tuple (xs : List D) (k : Int) : idxD (.tuple xs) (.int k) = L2.atI xs k := rfl
@[simp] theorem slcD_list (xs : List D) (lo hi : Option Int) : slcD (.list xs) lo hi = some (.fr (.list (cutD xs lo hi))) := rfl
@[simp] theorem slcD_tuple (xs : List D) (lo hi : Option Int) : slcD (.tuple xs) lo hi = some (.fz (.tuple (cutD xs lo hi))) := rfl
@[simp] theorem revD_list (xs : List D) : revD (.list xs) = some (.fr (.list xs.reverse)) := rfl
@[simp] theorem revD_tuple (xs : List D) : revD (.tuple xs) = some (.fz (.tuple xs.reverse)) := rfl
@[simp] theorem itD_list (xs : List D) : itD (.list xs) = some xs := rfl
@[simp] theorem itD_tuple (xs : List D) : itD (.tuple xs) = some xs := rfl
@[simp] theorem blt_lenL (xs : List D) : bltD .len [.list xs] = some (.fz (.int xs.length)) := rfl
@[simp] theorem blt_lenT (xs : List D) : bltD .len [.tuple xs] = some (.fz (.int xs.length)) := rfl
@[simp] theorem blt_sum (xs : List D) : bltD .sum [.list xs] = (intsD xs).map fun l => .fz (.int l.sum) := rfl
@[simp] theorem blt_minL (xs : List D) : bltD .min [.list xs] = (intsD xs).bind fun l => (minI l).map fun m => .fz (.int m) := rfl
@[simp] theorem blt_minT (xs : List D) : bltD .min [.tuple xs] = (intsD xs).bind fun l => (minI l).map fun m => .fz (.int m) := rfl
@[simp] theorem blt_maxL (xs : List D) : bltD .max [.list xs] = (intsD xs).bind fun l => (maxI l).map fun m => .fz (.int m) := rfl
@[simp] theorem blt_maxT (xs : List D) : bltD .max [.tuple xs] = (intsD xs).bind fun l => (maxI l).map fun m => .fz (.int m) := rfl
@[simp] theorem blt_min2 (i j : Int) : bltD .min2 [.int i, .int j] = some (.fz (.int (if j < i then j else i))) := rfl
@[simp] theorem blt_max2 (i j : Int) : bltD .max2 [.int i, .int j] = some (.fz (.int (if j > i then j else i))) := rfl
@[simp] theorem blt_all (xs : List D) : bltD .all [.list xs] = (boolsD xs).map fun l => .fz (.bool (l.all id)) := rfl
@[simp] theorem blt_any (xs : List D) : bltD .any [.list xs] = (boolsD xs).map fun l => .fz (.bool (l.any id)) := rfl
@[simp] theorem blt_tupL (xs : List D) : bltD .tuple [.list xs] = some (.fz (.tuple xs)) := rfl
@[simp] theorem blt_tupT (xs : List D) : bltD .tuple [.tuple xs] = some (.fz (.tuple xs)) := rfl
@[simp] theorem blt_listL (xs : List D) : bltD .list [.list xs] = some (.fr (.list xs)) := rfl
@[simp] theorem blt_listT (xs : List D) : bltD .list [.tuple xs] = some (.fr (.list xs)) := rfl
@[simp] theorem blt_int (i : Int) : bltD .int [.int i] = some (.fz (.int i)) := rfl
@[simp] theorem blt_abs (i : Int) : bltD .abs [.int i] = some (.fz (.int (if i < 0 then -i else i))) := rfl
@[simp] theorem blt_repr (d : D) : bltD .repr [d] = if d.showable = true ∧ d.shown.length ≤ sizeLine ∧ d.depth ≤ 60 then some (.fz (.str d.shown)) else none := rfl
@[simp] theorem blt_sorted (xs : List D) : bltD .sorted [.list xs] = (intsD xs).bind fun l => if l.length < 64 then some (.fr (.list ((sortI l).map .int))) else none := rfl
@[simp] theorem mmD_app (xs : List D) (y : D) : mmD .append (.list xs) [y] = if xs.length < sizeLine then some (.list (xs ++ [y]), .none) else none := rfl
@[simp] theorem mmD_ext (xs ys : List D) : mmD .extend (.list xs) [.list ys] = if xs.length + ys.length ≤ sizeLine then some (.list (xs ++ ys), .none) else none := rfl
@[simp] theorem putD_list (xs : List D) (i : Int) (v : D) : putD (.list xs) (.int i) v = (L2.ixN xs.length i).map fun j => .list (xs.set j v) := rfl
end
/-! a run that ends well -/
def Wp {α : Type} (m : Rs α) (P : α → Ev → Prop) : Prop := ∃ a e, m = .ok a e ∧ P a e
theorem Wp.ok {α : Type} {a : α} {e : Ev} {P : α → Ev → Prop} (h : P a e) : Wp (.ok a e) P := ⟨a, e, rfl, h⟩
theorem Wp.bind {α β : Type} {m : Rs α} {f : α → Ev → Rs β} {P : β → Ev → Prop} (h : Wp m fun a e => Wp (f a e) P) : Wp (m.bind f) P := by
  obtain ⟨a, e, rfl, b, e', h1, h2⟩ := h
  exact ⟨b, e', h1, h2⟩
theorem Wp.mono {α : Type} {m : Rs α} {P P' : α → Ev → Prop} (h : Wp m P) (i : ∀ a e, P a e → P' a e) : Wp m P' := by
  obtain ⟨a, e, h1, h2⟩ := h
  exact ⟨a, e, h1, i a e h2⟩

/-! rules of runs -/
section
variable {cf : Nat → List Sl → CR} {fuel : Nat} {e : Ev}
theorem Wp.eq {α : Type} {m : Rs α} {a : α} {e' : Ev} {P : α → Ev → Prop} (h : m = .ok a e') (p : P a e') : Wp m P := ⟨a, e', h, p⟩
variable {P : Rv → Ev → Prop}
theorem w_k {d : D} (h : P (.fz d) e) : Wp (evE cf (.k d) e) P := Wp.ok h
theorem w_edict (h : P (.fz (.dict [])) e) : Wp (evE cf .edict e) P := Wp.ok h
theorem w_glob {d : D} (h : P (.fz d) e) : Wp (evE cf (.glob d) e) P := Wp.ok h
theorem w_var {i : Nat} {r : Rv} {e' : Ev} (h : rdA i e = .ok r e') (p : P r e') : Wp (evE cf (.var i) e) P := ⟨r, e', h, p⟩
theorem w_tup {es : List CE} (h : Wp (evL cf es e) fun ds e => ds.length ≤ sizeLine ∧ P (.fz (.tuple ds)) e) : Wp (evE cf (.tup es) e) P := Wp.bind (h.mono fun ds e ⟨h1, h2⟩ => by rw [if_pos h1]; exact .ok h2)
theorem w_lst {es : List CE} (h : Wp (evL cf es e) fun ds e => ds.length ≤ sizeLine ∧ P (.fr (.list ds)) e) : Wp (evE cf (.lst es) e) P := Wp.bind (h.mono fun ds e ⟨h1, h2⟩ => by rw [if_pos h1]; exact .ok h2)
theorem w_bin {o : Operator} {a b : CE} (h : Wp (opd a (evE cf a) e) fun x e => Wp (opd b (evE cf b) e) fun y e => Wp (two x y e (binD o)) P) : Wp (evE cf (.bin o a b) e) P := Wp.bind (h.mono fun _ _ h => .bind h)
theorem w_neg {a : CE} (h : Wp (opd a (evE cf a) e) fun x e => Wp (one x e fun d => match d with | .int i => some (.fz (.int (-i))) | _ => none) P) : Wp (evE cf (.neg a) e) P := Wp.bind h
theorem w_cmp {o : CmpOp} {a b : CE} (h : Wp (opd a (evE cf a) e) fun x e => Wp (opd b (evE cf b) e) fun y e => Wp (two x y e fun p q => (cmpD o p q).map fun b => .fz (.bool b)) P) : Wp (evE cf (.cmp o a b) e) P := Wp.bind (h.mono fun _ _ h => .bind h)
theorem w_chain {o p : CmpOp} {a b c : CE} (h : Wp (opd a (evE cf a) e) fun x e => Wp (opd b (evE cf b) e) fun y e => Wp (tstR (two x y e fun p q => (cmpD o p q).map fun b => .fz (.bool b))) fun t e => if t = true then Wp (opd c (evE cf c) e) fun z e => Wp (two y z e fun u v => (cmpD p u v).map fun b => .fz (.bool b)) P else P (.fz (.bool false)) e) : Wp (evE cf (.chain o p a b c) e) P :=
  Wp.bind (h.mono fun _ _ h => .bind (h.mono fun _ _ h => .bind (h.mono fun t _ h => by
    cases t with
    | true => exact .bind h
    | false => exact .ok h)))
theorem w_and {a b : CE} (h : Wp (tstR (evE cf a e)) fun t e => if t = true then Wp (evE cf b e) P else P (.fz (.bool false)) e) : Wp (evE cf (.and_ a b) e) P := Wp.bind (h.mono fun t _ h => by
  cases t with
  | true => exact h
  | false => exact .ok h)
theorem w_or {a b : CE} (h : Wp (tstR (evE cf a e)) fun t e => if t = true then P (.fz (.bool true)) e else Wp (evE cf b e) P) : Wp (evE cf (.or_ a b) e) P := Wp.bind (h.mono fun t _ h => by
  cases t with
  | false => exact h
  | true => exact .ok h)
theorem w_not {a : CE} (h : Wp (tstR (evE cf a e)) fun t e => P (.fz (.bool (!t))) e) : Wp (evE cf (.not_ a) e) P := Wp.bind (h.mono fun _ _ h => .ok h)
theorem w_ife {c a b : CE} (h : Wp (tst c (evE cf c) e) fun t e => if t = true then Wp (evE cf a e) P else Wp (evE cf b e) P) : Wp (evE cf (.ife c a b) e) P := Wp.bind (h.mono fun t _ h => by
  cases t with
  | true => exact h
  | false => exact h)
theorem w_idx {a b : CE} (h : Wp (opd a (evE cf a) e) fun x e => Wp (opd b (evE cf b) e) fun y e => Wp (two x y e fun p q => (idxD p q).map .fz) P) : Wp (evE cf (.idx a b) e) P := Wp.bind (h.mono fun _ _ h => .bind h)
theorem w_slc {a : CE} {l u : Option CE} (h : Wp (opd a (evE cf a) e) fun x e => Wp (evOpt cf l e) fun l e => Wp (evOpt cf u e) fun u e => Wp (one x e fun d => slcD d l u) P) : Wp (evE cf (.slc a l u) e) P := Wp.bind (h.mono fun _ _ h => .bind (h.mono fun _ _ h => .bind h))
theorem w_rev {a : CE} (h : Wp (opd a (evE cf a) e) fun x e => Wp (one x e revD) P) : Wp (evE cf (.rev a) e) P := Wp.bind h
theorem w_call {f : Nat} {es : List CE} (h : Wp (evA cf es e) fun os e => Wp (callR cf f [] os e) P) : Wp (evE cf (.call f es) e) P := Wp.bind h
theorem w_callk {f : Nat} {p : List Nat} {es ks : List CE} (h : Wp (evA cf es e) fun o1 e => Wp (evA cf ks e) fun o2 e => (o1.length = es.length ∧ o2.length = ks.length) ∧ Wp (callR cf f p (o1 ++ o2) e) P) : Wp (evE cf (.callk f p es ks) e) P := Wp.bind (h.mono fun _ _ h => .bind (h.mono fun _ _ ⟨h1, h2⟩ => by rw [if_pos h1]; exact h2))
theorem w_isi {a : CE} {t : Ty} (h : Wp (opd a (evE cf a) e) fun x e => Wp (one x e fun d => some (.fz (.bool (isD d t)))) P) : Wp (evE cf (.isi a t) e) P := Wp.bind h
theorem w_blt {f : Bt} {es : List CE} (h : Wp (evO cf es e) fun os e => Wp (many os e (bltD f)) P) : Wp (evE cf (.blt f es) e) P := Wp.bind h
theorem w_mm {m : Mm} {i : Nat} {es : List CE} {b : Bool} {l : List D} (h0 : e[i]? = some (.mu b (.list l))) (h : Wp (evL cf es e) fun ds e => Wp (mmAt m i ds e) P) : Wp (evE cf (.mm m i es) e) P := by
  have e1 : evE cf (.mm m i es) e = (evL cf es e).bind fun ds e => mmAt m i ds e := by rw [evE_mm]; simp only [h0]
  rw [e1]
  exact Wp.bind h
def condW (cf : Nat → List Sl → CR) (q : Option CE) : Ev → Rs Bool :=
  match q with
  | some q => fun e => tst q (evE cf q) e
  | none => fun e => .ok true e
theorem w_comp {own : List Nat} {t : Tg} {it : It} {c : Option CE} {f : CE} (h : Wp (evI cf it e) fun items e0 => ∃ e1, wipeE e0 own = some e1 ∧ Wp (compL own (fun d e => evAsg cf t (.fz d) e) (condW cf c) (evE cf f) items [] e1) fun acc e2 => P (.fr (.list acc)) (unwipe e0 e2 own)) : Wp (evE cf (.comp own t it c f) e) P := by
  have e1 : evE cf (.comp own t it c f) e = (evI cf it e).bind fun items e => wipeK own e fun e1 =>
      (noEx (compL own (fun d e => evAsg cf t (.fz d) e) (condW cf c) (evE cf f) items [] e1)).bind fun acc e2 => .ok (.fr (.list acc)) (unwipe e e2 own) := by cases c <;> rfl
  rw [e1]
  refine Wp.bind (h.mono fun items e0 ⟨e1, h1, acc, e2, h2, h3⟩ => ?_)
  unfold wipeK
  rw [h1]
  dsimp only
  rw [h2]
  exact .ok h3
theorem w_L0 {P : List D → Ev → Prop} (h : P [] e) : Wp (evL cf [] e) P := .ok h
theorem w_L1 {P : List D → Ev → Prop} {a : CE} {r : List CE} (h : Wp (evE cf a e) fun v e => Wp (evL cf r e) fun ds e => P (v.d :: ds) e) : Wp (evL cf (a :: r) e) P := Wp.bind (h.mono fun _ _ h => .bind (h.mono fun _ _ h => .ok h))
theorem w_R0 {P : List Rv → Ev → Prop} (h : P [] e) : Wp (evR cf [] e) P := .ok h
theorem w_R1 {P : List Rv → Ev → Prop} {a : CE} {r : List CE} (h : Wp (evE cf a e) fun v e => Wp (evR cf r e) fun ds e => P (v :: ds) e) : Wp (evR cf (a :: r) e) P := Wp.bind (h.mono fun _ _ h => .bind (h.mono fun _ _ h => .ok h))
theorem w_O0 {P : List Op → Ev → Prop} (h : P [] e) : Wp (evO cf [] e) P := .ok h
theorem w_O1 {P : List Op → Ev → Prop} {a : CE} {r : List CE} (h : Wp (opd a (evE cf a) e) fun v e => Wp (evO cf r e) fun ds e => P (v :: ds) e) : Wp (evO cf (a :: r) e) P := Wp.bind (h.mono fun _ _ h => .bind (h.mono fun _ _ h => .ok h))
theorem w_A0 {P : List Op → Ev → Prop} (h : P [] e) : Wp (evA cf [] e) P := .ok h
theorem w_A1 {P : List Op → Ev → Prop} {a : CE} {r : List CE} (h : Wp (argd a (evE cf a) e) fun v e => Wp (evA cf r e) fun ds e => P (v :: ds) e) : Wp (evA cf (a :: r) e) P := Wp.bind (h.mono fun _ _ h => .bind (h.mono fun _ _ h => .ok h))
theorem w_P0 {P : Option Int → Ev → Prop} (h : P none e) : Wp (evOpt cf none e) P := .ok h
theorem w_P1 {P : Option Int → Ev → Prop} {a : CE} (h : Wp (opd a (evE cf a) e) fun x e => ∃ i, x.get e = some (.int i) ∧ P (some i) e) : Wp (evOpt cf (some a) e) P := Wp.bind (h.mono fun x e ⟨i, h1, h2⟩ => by simp only [h1]; exact .ok h2)
theorem w_opV {P : Op → Ev → Prop} {i : Nat} {d : D} {f : Ev → Rs Rv} (h : look e i = some d) (p : P (.pl i) e) : Wp (opd (.var i) f e) P := by rw [opd_var, h]; exact .ok p
theorem w_op {P : Op → Ev → Prop} {a : CE} {f : Ev → Rs Rv} (ha : opd a f e = (f e).bind fun r e => .ok (.vl r.d) e) (h : Wp (f e) fun r e => P (.vl r.d) e) : Wp (opd a f e) P := by rw [ha]; exact Wp.bind (h.mono fun _ _ h => .ok h)
theorem w_arM {P : Op → Ev → Prop} {i : Nat} {b : Bool} {d : D} {f : Ev → Rs Rv} (h : e[i]? = some (.mu b d)) (p : P (.pl i) e) : Wp (argd (.var i) f e) P := by rw [argd_var, h]; exact .ok p
theorem w_arV {P : Op → Ev → Prop} {i : Nat} {d : D} {f : Ev → Rs Rv} (h : e[i]? = some (.val d)) (p : P (.vl d) e) : Wp (argd (.var i) f e) P := by rw [argd_var, h]; exact .ok p
theorem w_arF {P : Op → Ev → Prop} {i : Nat} {d : D} {f : Ev → Rs Rv} (h : e[i]? = some (.frz d)) (p : P (.vl d) e) : Wp (argd (.var i) f e) P := by rw [argd_var, h]; exact .ok p
theorem w_ar {P : Op → Ev → Prop} {a : CE} {f : Ev → Rs Rv} (ha : argd a f e = (f e).bind fun r e => .ok (.vl r.d) e) (h : Wp (f e) fun r e => P (.vl r.d) e) : Wp (argd a f e) P := by rw [ha]; exact Wp.bind (h.mono fun _ _ h => .ok h)
theorem w_two {x y : Op} {f : D → D → Option Rv} {a b : D} {r : Rv} (h1 : x.get e = some a) (h2 : y.get e = some b) (h3 : f a b = some r) (p : P r e) : Wp (two x y e f) P := by
  unfold two
  rw [h1, h2]
  dsimp only
  rw [h3]
  exact .ok p
theorem w_one {x : Op} {f : D → Option Rv} {a : D} {r : Rv} (h1 : x.get e = some a) (h3 : f a = some r) (p : P r e) : Wp (one x e f) P := by
  unfold one
  rw [h1]
  dsimp only
  rw [h3]
  exact .ok p
theorem w_many {xs : List Op} {f : List D → Option Rv} {a : List D} {r : Rv} (h1 : gets xs e = some a) (h3 : f a = some r) (p : P r e) : Wp (many xs e f) P := by
  unfold many
  rw [h1]
  dsimp only
  rw [h3]
  exact .ok p
theorem w_tstR {m : Rs Rv} {P : Bool → Ev → Prop} (h : Wp m fun r e => ∃ b, r.d = .bool b ∧ P b e) : Wp (tstR m) P := Wp.bind (h.mono fun r e ⟨b, h1, h2⟩ => by simp only [h1]; exact .ok h2)
theorem w_tstB {a : CE} {f : Ev → Rs Rv} {P : Bool → Ev → Prop} (ha : tst a f e = tstR (f e)) (h : Wp (f e) fun r e => ∃ b, r.d = .bool b ∧ P b e) : Wp (tst a f e) P := by rw [ha]; exact w_tstR h
theorem w_tstO {a : CE} {f : Ev → Rs Rv} {P : Bool → Ev → Prop} (ha : tst a f e = (opd a f e).bind fun o e => match o.get e with | some d => (match truD d with | some b => .ok b e | none => .er) | none => .er) (h : Wp (opd a f e) fun o e => ∃ d b, o.get e = some d ∧ truD d = some b ∧ P b e) : Wp (tst a f e) P := by
  rw [ha]
  exact Wp.bind (h.mono fun o e ⟨d, b, h1, h2, h3⟩ => by simp only [h1, h2]; exact .ok h3)
theorem w_over {P : List D → Ev → Prop} {a : CE} (h : Wp (evE cf a e) fun r e => ∃ l, itD r.d = some l ∧ P l e) : Wp (evI cf (.over a) e) P := Wp.bind (h.mono fun r e ⟨l, h1, h2⟩ => by simp only [h1]; exact .ok h2)
theorem w_rng1 {P : List D → Ev → Prop} {a : CE} (h : Wp (opd a (evE cf a) e) fun x e => ∃ b, x.get e = some (.int b) ∧ ok63 b = true ∧ P (rangeD 0 b) e) : Wp (evI cf (.range1 a) e) P := Wp.bind (h.mono fun x e ⟨b, h1, h2, h3⟩ => by unfold oneI; simp only [h1, h2, if_true]; exact .ok h3)
theorem w_rng2 {P : List D → Ev → Prop} {a b : CE} (h : Wp (opd a (evE cf a) e) fun x e => Wp (opd b (evE cf b) e) fun y e => ∃ i j, x.get e = some (.int i) ∧ y.get e = some (.int j) ∧ (ok63 i = true ∧ ok63 j = true) ∧ P (rangeD i j) e) : Wp (evI cf (.range2 a b) e) P :=
  Wp.bind (h.mono fun x e h => .bind (h.mono fun y e ⟨i, j, h1, h2, h3, h4⟩ => by simp only [h1, h2, h3, and_self, if_true]; exact .ok h4))
theorem w_enum {P : List D → Ev → Prop} {a : CE} (h : Wp (evE cf a e) fun r e => ∃ l, itD r.d = some l ∧ P (enumD l) e) : Wp (evI cf (.enum a) e) P := Wp.bind (h.mono fun r e ⟨l, h1, h2⟩ => by simp only [h1]; exact .ok h2)
theorem w_zip {P : List D → Ev → Prop} {a b : CE} (h : Wp (evE cf a e) fun r e => Wp (evE cf b e) fun s e => ∃ l m, itD r.d = some l ∧ itD s.d = some m ∧ P (zipD l m) e) : Wp (evI cf (.zip a b) e) P :=
  Wp.bind (h.mono fun r e h => .bind (h.mono fun s e ⟨l, m, h1, h2, h3⟩ => by simp only [h1, h2]; exact .ok h3))
theorem w_gN {P : Unit → Ev → Prop} {i : Nat} {r : Rv} {e' : Ev} (h : store i r.sl e = .ok () e') (p : P () e') : Wp (evAsg cf (.name i) r e) P := ⟨(), e', h, p⟩
theorem w_gT {P : Unit → Ev → Prop} {ts : List Tg} {r : Rv} {ds : List D} (h : r.d = .tuple ds) (hl : ds.length = ts.length) (p : Wp (evAsgs cf ts (ds.map .fz) e) P) : Wp (evAsg cf (.tup ts) r e) P := by
  rw [evAsg_tup, h]
  dsimp only
  rw [if_pos hl]
  exact p
theorem w_gS {P : Unit → Ev → Prop} {i : Nat} {a : CE} {r : Rv} {b : Bool} {l : List D} (h0 : e[i]? = some (.mu b (.list l))) (h : Wp (opd a (evE cf a) e) fun x e => ∃ k b d d', x.get e = some k ∧ e[i]? = some (.mu b d) ∧ putD d k r.d = some d' ∧ P () (e.set i (.mu b d'))) : Wp (evAsg cf (.sub i a) r e) P := by
  have e1 : evAsg cf (.sub i a) r e = (opd a (evE cf a) e).bind fun x e => match x.get e with | some k => setAt i (fun d => putD d k r.d) e | none => .er := by
    rw [evAsg_sub]
    unfold subE
    simp only [h0]
    all_goals rfl
  rw [e1]
  refine Wp.bind (h.mono fun x e ⟨k, b, d, d', h1, h2, h3, h4⟩ => ?_)
  simp only [h1]
  unfold setAt
  simp only [h2, h3]
  exact .ok h4
theorem w_g0 {P : Unit → Ev → Prop} (p : P () e) : Wp (evAsgs cf [] [] e) P := .ok p
theorem w_g1 {P : Unit → Ev → Prop} {t : Tg} {ts : List Tg} {r : Rv} {rs : List Rv} (h : Wp (evAsg cf t r e) fun _ e => Wp (evAsgs cf ts rs e) P) : Wp (evAsgs cf (t :: ts) (r :: rs) e) P := Wp.bind h
theorem w_mmA {m : Mm} {i : Nat} {ds : List D} {b : Bool} {d d' r : D} (h : e[i]? = some (.mu b d)) (h2 : mmD m d ds = some (d', r)) (p : P (.fz r) (e.set i (.mu b d'))) : Wp (mmAt m i ds e) P := by
  unfold mmAt
  simp only [h, h2]
  exact .ok p
variable {P : Fl → Ev → Prop}
theorem w_asg {t : Tg} {a : CE} (h : Wp (evE cf a e) fun r e => Wp (evAsg cf t r e) fun _ e => P .nx e) : Wp (evS cf fuel (.asg t a) e) P := Wp.bind (h.mono fun _ _ h => .bind (h.mono fun _ _ h => .ok h))
theorem w_par {ts : List Tg} {es : List CE} (h : Wp (evR cf es e) fun rs e => (rs.length = ts.length ∧ ts.length ≤ 1000) ∧ Wp (evAsgs cf ts rs e) fun _ e => P .nx e) : Wp (evS cf fuel (.par ts es) e) P := Wp.bind (h.mono fun _ _ ⟨h1, h⟩ => by rw [if_pos h1]; exact .bind (h.mono fun _ _ h => .ok h))
theorem w_ex {a : CE} (h : Wp (evE cf a e) fun _ e => P .nx e) : Wp (evS cf fuel (.ex a) e) P := Wp.bind (h.mono fun _ _ h => .ok h)
theorem w_ret {a : CE} (h : Wp (evRet a (evE cf a) e) fun r e => P (.rt r) e) : Wp (evS cf fuel (.ret a) e) P := Wp.bind (h.mono fun _ _ h => .ok h)
theorem w_ifS {c : CE} {a b : List CS} (h : Wp (tst c (evE cf c) e) fun t e => if t = true then Wp (evSs cf fuel a e) P else Wp (evSs cf fuel b e) P) : Wp (evS cf fuel (.ife c a b) e) P := Wp.bind (h.mono fun t _ h => by
  cases t with
  | true => exact h
  | false => exact h)
theorem w_for {t : Tg} {it : It} {b : List CS} (h : Wp (evI cf it e) fun items e => Wp (forL (fun d e => evAsg cf t (.fz d) e) (fun e => evSs cf fuel b e) items e) P) : Wp (evS cf fuel (.for_ t it b) e) P := Wp.bind h
theorem w_pass (h : P .nx e) : Wp (evS cf fuel .pass e) P := .ok h
theorem w_brk (h : P .bk e) : Wp (evS cf fuel .brk e) P := .ok h
theorem w_cont (h : P .ct e) : Wp (evS cf fuel .cont e) P := .ok h
theorem w_S0 (h : P .nx e) : Wp (evSs cf fuel [] e) P := .ok h
theorem w_S1 {s : CS} {r : List CS} (h : Wp (evS cf fuel s e) fun f e => match f with | .nx => Wp (evSs cf fuel r e) P | f => P f e) : Wp (evSs cf fuel (s :: r) e) P := Wp.bind (h.mono fun f _ h => by
  cases f with
  | nx => exact h
  | bk => exact .ok h
  | ct => exact .ok h
  | rt r => exact .ok h)
theorem w_retM {P : Rv → Ev → Prop} {i : Nat} {d : D} {f : Ev → Rs Rv} (h : e[i]? = some (.mu false d)) (p : P (.fr d) (e.set i .un)) : Wp (evRet (.var i) f e) P := by rw [evRet_var, h]; exact .ok p
theorem w_retV {P : Rv → Ev → Prop} {i : Nat} {d : D} {f : Ev → Rs Rv} (h : e[i]? = some (.val d)) (p : Wp (f e) P) : Wp (evRet (.var i) f e) P := by rw [evRet_var, h]; exact p
theorem w_retE {P : Rv → Ev → Prop} {a : CE} {f : Ev → Rs Rv} (h : evRet a f e = f e) (p : Wp (f e) P) : Wp (evRet a f e) P := by rw [h]; exact p
/-- a def's run -/
theorem run_ok {fd : FD} {as : List Sl} {P : Rv → List Sl → Prop} (hl : as.length = fd.np) (h : Wp (evSs cf fuel fd.body (as ++ List.replicate (fd.nl - fd.np) .un)) fun f e => (outOk as e && decide (as.length ≤ e.length)) = true ∧ match f with | .rt r => P r (e.take fd.np) | .nx => P (.fz .none) (e.take fd.np) | _ => False) : ∃ r o, runD cf fuel fd as = .ret r o ∧ P r o := by
  obtain ⟨f, e', h1, h2, h3⟩ := h
  unfold runD
  rw [if_pos hl, h1]
  cases f with
  | nx => exact ⟨_, _, by simp only [h2, if_true], h3⟩
  | rt r => exact ⟨_, _, by simp only [h2, if_true], h3⟩
  | bk => exact h3.elim
  | ct => exact h3.elim
theorem w_callR {P : Rv → Ev → Prop} {f : Nat} {perm : List Nat} {os : List Op} {ss : List Sl} {r : Rv} {o : List Sl} (h1 : argsS os e = some ss) (h2 : (lends os e).Nodup) (hp : perm = []) (h3 : cf f ss = .ret r o) (p : P r (back os o e)) : Wp (callR cf f perm os e) P := by
  unfold callR
  simp only [h1, h2, hp, h3, if_true]
  exact .ok p
theorem w_callRk {P : Rv → Ev → Prop} {f : Nat} {perm : List Nat} {os : List Op} {ss ps : List Sl} {r : Rv} {o : List Sl} (h1 : argsS os e = some ss) (h2 : lends os e = []) (hp : perm ≠ []) (h4 : permS perm ss = some ps) (h3 : cf f ps = .ret r o) (p : P r e) : Wp (callR cf f perm os e) P := by
  unfold callR
  simp only [h1, h2, hp, h3, h4, if_true, if_false, List.nodup_nil]
  exact .ok p
end
theorem b_add {i j : Int} : binD .Add (.int i) (.int j) = some (.fz (.int (i + j))) := rfl
theorem mulOk_l {i j : Int} (h1 : -(2 ^ 64) < i) (h2 : i < 2 ^ 64) : mulOk i j = true := by
  unfold mulOk
  rw [Bool.or_eq_true, Bool.or_eq_true]
  exact .inl (.inl (decide_eq_true ⟨h1, h2⟩))
theorem mulOk_r {i j : Int} (h1 : -(2 ^ 64) < j) (h2 : j < 2 ^ 64) : mulOk i j = true := by
  unfold mulOk
  rw [Bool.or_eq_true, Bool.or_eq_true]
  exact .inl (.inr (decide_eq_true ⟨h1, h2⟩))
theorem log2_lt' {n k : Nat} (h : n < 2 ^ k) (hk : 0 < k) : n.log2 < k := by
  by_cases h0 : n = 0
  · subst h0; simpa using hk
  · exact (Nat.log2_lt h0).mpr h
theorem mulOk_b {i j : Int} (a b : Nat) (h1 : i.natAbs < 2 ^ a) (h2 : j.natAbs < 2 ^ b) (ha : 0 < a) (hb : 0 < b) (hab : a + b < 1000000) : mulOk i j = true := by
  have e1 := log2_lt' h1 ha
  have e2 := log2_lt' h2 hb
  unfold mulOk
  rw [Bool.or_eq_true]
  right
  exact decide_eq_true (by omega)
theorem b_mul {i j : Int} (h : mulOk i j = true) : binD .Mult (.int i) (.int j) = some (.fz (.int (i * j))) := if_pos h
theorem b_div {i j : Int} (h : 0 < j) (h2 : j < 2 ^ 200) : binD .FloorDiv (.int i) (.int j) = some (.fz (.int (i / j))) := if_pos ⟨h, by
  have h3 : j.natAbs < 2 ^ 200 := by omega
  have := log2_lt' h3 (by decide)
  omega⟩
theorem b_mod {i j : Int} (h : 0 < j) : binD .Mod (.int i) (.int j) = some (.fz (.int (i % j))) := if_pos h
theorem b_pow {i j k : Int} (h1 : 0 ≤ j) (h2 : j ≤ 1000) (h3 : i.natAbs < 2 ^ 64) (h4 : i ^ j.toNat = k) : binD .Pow (.int i) (.int j) = some (.fz (.int k)) := by rw [← h4]; exact if_pos ⟨h1, h2, h3⟩
theorem b_addT {i j : List D} (h : i.length + j.length ≤ sizeLine) : binD .Add (.tuple i) (.tuple j) = some (.fz (.tuple (i ++ j))) := if_pos h
theorem w_iteT {c : Bool} {A B : Prop} (h : c = true) (a : A) : if c = true then A else B := by rw [if_pos h]; exact a
theorem w_iteF {c : Bool} {A B : Prop} (h : c = false) (b : B) : if c = true then A else B := by rw [if_neg (by rw [h]; decide)]; exact b
theorem w_iteC {c : Bool} {A B : Prop} (a : c = true → A) (b : c = false → B) : if c = true then A else B := by
  cases c with
  | true => exact a rfl
  | false => exact b rfl
theorem ok63_of {i : Int} (h1 : -(2 ^ 62) ≤ i) (h2 : i < 2 ^ 62) : ok63 i = true := decide_eq_true ⟨h1, h2⟩
theorem m_app {xs : List D} {y : D} (h : xs.length < sizeLine) : mmD .append (.list xs) [y] = some (.list (xs ++ [y]), .none) := if_pos h
theorem Wp.imp {α : Type} {m : Rs α} {P P' : α → Ev → Prop} (i : ∀ a e, P a e → P' a e) (h : Wp m P) : Wp m P' := h.mono i
end Cr
set_option Elab.async false
set_option linter.all false
set_option maxRecDepth 100000
set_option maxHeartbeats 4000000
namespace Cr
open PySem
/-! ### loops -/
theorem comp_map {α : Type} {own : List Nat} {asg : D → Ev → Rs Unit} {c : Ev → Rs Bool} {f : Ev → Rs Rv} {e : Ev} (φ ψ : α → D) : ∀ (xs : List α) (acc : List D), (∀ x ∈ xs, Wp (asg (φ x) e) fun _ e1 => Wp (c e1) fun b e2 => b = true ∧ Wp (f e2) fun v e3 => v.d = ψ x ∧ wipeE e3 own = some e) → acc.length + xs.length ≤ sizeLine →
    Wp (compL own asg c f (xs.map φ) acc e) fun r e' => r = acc ++ xs.map ψ ∧ e' = e
  | [], acc, _, _ => ⟨acc, e, rfl, by simp, rfl⟩
  | x :: xs, acc, h, hl => by
    obtain ⟨_, e1, h1, b, e2, h2, hb, v, e3, h3, hv, hw⟩ := h x (List.mem_cons_self)
    rw [List.length_cons] at hl
    have ih := comp_map (own := own) (asg := asg) (c := c) (f := f) (e := e) φ ψ xs (acc ++ [v.d]) (fun y hy => h y (List.mem_cons_of_mem _ hy)) (by rw [List.length_append, List.length_singleton]; omega)
    have e4 : compL own asg c f ((x :: xs).map φ) acc e = compL own asg c f (xs.map φ) (acc ++ [v.d]) e := by
      show ((asg (φ x) e).bind fun _ e => (c e).bind fun b e => if b = true then (f e).bind fun v e => if acc.length < sizeLine then wipeK own e fun e => compL own asg c f (xs.map φ) (acc ++ [v.d]) e else .er
        else wipeK own e fun e => compL own asg c f (xs.map φ) acc e) = _
      rw [h1, bind_ok, h2, bind_ok, hb, if_pos rfl, h3, bind_ok, if_pos (by omega)]
      unfold wipeK
      rw [hw]
    rw [e4]
    refine ih.mono fun r e' ⟨q1, q2⟩ => ⟨?_, q2⟩
    rw [q1, hv, List.map_cons, List.append_assoc]
    rfl
theorem comp_mapI {own : List Nat} {asg : D → Ev → Rs Unit} {c : Ev → Rs Bool} {f : Ev → Rs Rv} {e : Ev} (ψ : D → D) (xs : List D) (acc : List D) (h : ∀ x ∈ xs, Wp (asg x e) fun _ e1 => Wp (c e1) fun b e2 => b = true ∧ Wp (f e2) fun v e3 => v.d = ψ x ∧ wipeE e3 own = some e) (hl : acc.length + xs.length ≤ sizeLine) :
    Wp (compL own asg c f xs acc e) fun r e' => r = acc ++ xs.map ψ ∧ e' = e := by
  have := comp_map (own := own) (asg := asg) (c := c) (f := f) (e := e) id ψ xs acc h hl
  rw [List.map_id] at this
  exact this
/-- with a filter -/
theorem comp_filter {α : Type} {own : List Nat} {asg : D → Ev → Rs Unit} {c : Ev → Rs Bool} {f : Ev → Rs Rv} {e : Ev} (φ ψ : α → D) (t : α → Bool) : ∀ (xs : List α) (acc : List D), (∀ x ∈ xs, Wp (asg (φ x) e) fun _ e1 => Wp (c e1) fun b e2 => b = t x ∧ if b = true then Wp (f e2) fun v e3 => v.d = ψ x ∧ wipeE e3 own = some e else wipeE e2 own = some e) → acc.length + xs.length ≤ sizeLine →
    Wp (compL own asg c f (xs.map φ) acc e) fun r e' => r = acc ++ (xs.filter t).map ψ ∧ e' = e
  | [], acc, _, _ => ⟨acc, e, rfl, by simp, rfl⟩
  | x :: xs, acc, h, hl => by
    obtain ⟨_, e1, h1, b, e2, h2, hb, h3⟩ := h x (List.mem_cons_self)
    rw [List.length_cons] at hl
    subst hb
    have e0 : compL own asg c f ((x :: xs).map φ) acc e = ((asg (φ x) e).bind fun _ e => (c e).bind fun b e => if b = true then (f e).bind fun v e => if acc.length < sizeLine then wipeK own e fun e => compL own asg c f (xs.map φ) (acc ++ [v.d]) e else .er
        else wipeK own e fun e => compL own asg c f (xs.map φ) acc e) := rfl
    by_cases ht : t x = true
    · rw [if_pos ht] at h3
      obtain ⟨v, e3, h3, hv, hw⟩ := h3
      have ih := comp_filter (own := own) (asg := asg) (c := c) (f := f) (e := e) φ ψ t xs (acc ++ [v.d]) (fun y hy => h y (List.mem_cons_of_mem _ hy)) (by rw [List.length_append, List.length_singleton]; omega)
      have e4 : compL own asg c f ((x :: xs).map φ) acc e = compL own asg c f (xs.map φ) (acc ++ [v.d]) e := by
        rw [e0, h1, bind_ok, h2, bind_ok, if_pos ht, h3, bind_ok, if_pos (by omega)]
        unfold wipeK
        rw [hw]
      rw [e4]
      refine ih.mono fun r e' ⟨q1, q2⟩ => ⟨?_, q2⟩
      rw [q1, hv, List.filter_cons_of_pos ht, List.map_cons, List.append_assoc]
      rfl
    · rw [if_neg ht] at h3
      have ih := comp_filter (own := own) (asg := asg) (c := c) (f := f) (e := e) φ ψ t xs acc (fun y hy => h y (List.mem_cons_of_mem _ hy)) (by omega)
      have e4 : compL own asg c f ((x :: xs).map φ) acc e = compL own asg c f (xs.map φ) acc e := by
        rw [e0, h1, bind_ok, h2, bind_ok, if_neg ht]
        unfold wipeK
        rw [h3]
      rw [e4]
      refine ih.mono fun r e' ⟨q1, q2⟩ => ⟨?_, q2⟩
      rw [q1, List.filter_cons_of_neg ht]
/-- with an invariant: what is done, what came out, the slots -/
theorem comp_inv {own : List Nat} {asg : D → Ev → Rs Unit} {c : Ev → Rs Bool} {f : Ev → Rs Rv} (J : List D → List D → Ev → Prop) : ∀ (rest done acc : List D) (e : Ev), J done acc e → acc.length + rest.length ≤ sizeLine →
    (∀ done x acc e, x ∈ rest → J done acc e → Wp (asg x e) fun _ e1 => Wp (c e1) fun b e2 => b = true ∧ Wp (f e2) fun v e3 => ∃ e4, wipeE e3 own = some e4 ∧ J (done ++ [x]) (acc ++ [v.d]) e4) →
    Wp (compL own asg c f rest acc e) fun r e' => J (done ++ rest) r e'
  | [], done, acc, e, h0, _, _ => ⟨acc, e, rfl, by simpa using h0⟩
  | x :: rest, done, acc, e, h0, hl, h => by
    obtain ⟨_, e1, h1, b, e2, h2, hb, v, e3, h3, e4, hw, hJ⟩ := h done x acc e (List.mem_cons_self) h0
    rw [List.length_cons] at hl
    have ih := comp_inv (own := own) (asg := asg) (c := c) (f := f) J rest (done ++ [x]) (acc ++ [v.d]) e4 hJ (by rw [List.length_append, List.length_singleton]; omega) fun d y a e hy => h d y a e (List.mem_cons_of_mem _ hy)
    have e5 : compL own asg c f (x :: rest) acc e = compL own asg c f rest (acc ++ [v.d]) e4 := by
      show ((asg x e).bind fun _ e => (c e).bind fun b e => if b = true then (f e).bind fun v e => if acc.length < sizeLine then wipeK own e fun e => compL own asg c f rest (acc ++ [v.d]) e else .er
        else wipeK own e fun e => compL own asg c f rest acc e) = _
      rw [h1, bind_ok, h2, bind_ok, hb, if_pos rfl, h3, bind_ok, if_pos (by omega)]
      unfold wipeK
      rw [hw]
    rw [e5]
    refine ih.mono fun r e' q => ?_
    rw [List.append_assoc] at q
    exact q
theorem for_inv {asg : D → Ev → Rs Unit} {body : Ev → Rs Fl} {Q : Fl → Ev → Prop} (J : List D → Ev → Prop) : ∀ (rest done : List D) (e : Ev), J done e →
    (∀ done x r e, done ++ x :: r = done ++ x :: r → J done e → x ∈ rest → Wp (asg x e) fun _ e1 => Wp (body e1) fun f e2 => match f with
      | .nx => J (done ++ [x]) e2
      | .ct => J (done ++ [x]) e2
      | .bk => Q .nx e2
      | .rt v => Q (.rt v) e2) → (∀ e, J (done ++ rest) e → Q .nx e) → Wp (forL asg body rest e) Q
  | [], done, e, h0, _, hd => ⟨.nx, e, rfl, hd e (by simpa using h0)⟩
  | x :: rest, done, e, h0, h, hd => by
    obtain ⟨_, e1, h1, f, e2, h2, h3⟩ := h done x [] e rfl h0 (List.mem_cons_self)
    have e0 : forL asg body (x :: rest) e = ((asg x e).bind fun _ e => (body e).bind fun f e => match f with
        | .nx => forL asg body rest e
        | .ct => forL asg body rest e
        | .bk => .ok .nx e
        | .rt v => .ok (.rt v) e) := rfl
    have go : J (done ++ [x]) e2 → Wp (forL asg body rest e2) Q := fun hj => for_inv J rest (done ++ [x]) e2 hj (fun d y r e hq hj hy => h d y r e hq hj (List.mem_cons_of_mem _ hy)) fun e hj => hd e (by rw [List.append_assoc] at hj; exact hj)
    rw [e0, h1, bind_ok, h2, bind_ok]
    cases f with
    | nx => exact go h3
    | ct => exact go h3
    | bk => exact ⟨.nx, e2, rfl, h3⟩
    | rt v => exact ⟨.rt v, e2, rfl, h3⟩
/-! ### what repr shows -/
structure Shw (b h : Nat) (d : D) : Prop where
  sh : d.showable = true
  ln : d.shown.length ≤ b
  dp : d.depth ≤ h
theorem Shw.mono {b h b' h' : Nat} {d : D} (s : Shw b h d) (hb : b ≤ b') (hh : h ≤ h') : Shw b' h' d := ⟨s.sh, Nat.le_trans s.ln hb, Nat.le_trans s.dp hh⟩
theorem shw_none : Shw 5 0 .none := ⟨rfl, by simp only [PyData.shown]; decide, by simp [PyData.depth]⟩
theorem shw_bool (b : Bool) : Shw 5 0 (.bool b) := ⟨rfl, by cases b <;> (simp only [PyData.shown]; decide), by simp [PyData.depth]⟩
theorem shw_int {i : Int} {k : Nat} (hk : 0 < k) (hk2 : k < 1920) (h : i.natAbs < 2 ^ k) : Shw (k + 1) 0 (.int i) := by
  have hl : i.natAbs.log2 < k := log2_lt' h hk
  refine ⟨?_, ?_, by simp [PyData.depth]⟩
  · simp only [PyData.showable]
    exact decide_eq_true (by omega)
  · simp only [PyData.shown]
    rw [ofString_length]
    exact int_text_length_le hk hl
theorem textFrom_le : ∀ (ts : List Str) (k : Nat) (acc : Str), (textFrom k acc ts).length ≤ acc.length + piled ts
  | [], k, acc => Nat.le_add_right _ _
  | t :: r, k, acc => by
    have ih := textFrom_le r (k + 1) (acc ++ (if k > 0 then ", " else "" : String) ++ t)
    have e : (acc ++ (if k > 0 then ", " else "" : String) ++ t).length = acc.length + (if k > 0 then 2 else 0) + t.length := by
      rw [strLen_append, strLen_append]
      split <;> rfl
    rw [piled_cons]
    show (textFrom (k + 1) (acc ++ (if k > 0 then ", " else "" : String) ++ t) r).length ≤ _
    have e2 : (if k > 0 then 2 else 0) ≤ 2 := by split <;> omega
    omega
theorem listText_le (ts : List Str) : (listText ts).length ≤ 2 + piled ts := by
  have h := textFrom_le ts 0 "["
  have hX : (listText ts).length = (textFrom 0 "[" ts).length + 1 := by
    show (textFrom 0 "[" ts ++ "]").length = _
    rw [strLen_append]; rfl
  have e : (("[" : Str)).length = 1 := rfl
  omega
theorem tupleText_le (ts : List Str) : (tupleText ts).length ≤ 3 + piled ts := by
  have hX : (tupleText ts).length = 1 + (Str.join ", " ts).length + (if ts.length == 1 then ",)" else ")" : String).length := by
    unfold tupleText
    rw [strLen_append, strLen_append]
    split <;> rfl
  have e2 : (if ts.length == 1 then ",)" else ")" : String).length ≤ 2 := by split <;> decide
  by_cases h : ts = []
  · subst h
    have e3 : (Str.join ", " ([] : List Str)).length = 0 := rfl
    omega
  · have := join_length_add ts h
    omega
theorem piled_shown {b h : Nat} : ∀ {ds : List D}, (∀ x ∈ ds, Shw b h x) → piled (PyData.shownAll ds) ≤ ds.length * (b + 2) ∧ PyData.showableAll ds = true ∧ PyData.depthAll ds ≤ h
  | [], _ => ⟨by simp [PyData.shownAll, piled], rfl, by simp [PyData.depthAll]⟩
  | d :: ds, hd => by
    obtain ⟨h1, h2, h3⟩ := piled_shown (ds := ds) fun x hx => hd x (List.mem_cons_of_mem _ hx)
    have h0 := hd d List.mem_cons_self
    refine ⟨?_, ?_, ?_⟩
    · simp only [PyData.shownAll]
      rw [piled_cons, List.length_cons, Nat.succ_mul]
      have := h0.ln
      omega
    · simp only [PyData.showableAll, h0.sh, h2]
      rfl
    · simp only [PyData.depthAll]
      have := h0.dp
      omega
theorem shw_tuple {b h n : Nat} {ds : List D} (hd : ∀ x ∈ ds, Shw b h x) (hn : ds.length ≤ n) : Shw (3 + n * (b + 2)) (h + 1) (.tuple ds) := by
  obtain ⟨h1, h2, h3⟩ := piled_shown hd
  refine ⟨by simp only [PyData.showable]; exact h2, ?_, ?_⟩
  · simp only [PyData.shown]
    have := tupleText_le (PyData.shownAll ds)
    have e : ds.length * (b + 2) ≤ n * (b + 2) := Nat.mul_le_mul_right _ hn
    omega
  · simp only [PyData.depth]
    omega
theorem shw_list {b h n : Nat} {ds : List D} (hd : ∀ x ∈ ds, Shw b h x) (hn : ds.length ≤ n) : Shw (3 + n * (b + 2)) (h + 1) (.list ds) := by
  obtain ⟨h1, h2, h3⟩ := piled_shown hd
  refine ⟨by simp only [PyData.showable]; exact h2, ?_, ?_⟩
  · simp only [PyData.shown]
    have := listText_le (PyData.shownAll ds)
    have e : ds.length * (b + 2) ≤ n * (b + 2) := Nat.mul_le_mul_right _ hn
    omega
  · simp only [PyData.depth]
    omega
theorem shw_dict : Shw 5 1 (.dict []) := ⟨rfl, by simp only [PyData.shown, PyData.shownKv]; decide, by simp [PyData.depth, PyData.depthKv]⟩
theorem b_repr {b h : Nat} {d : D} (s : Shw b h d) (hb : b ≤ 16000000) (hh : h ≤ 60) : bltD .repr [d] = some (.fz (.str d.shown)) := if_pos ⟨s.sh, Nat.le_trans s.ln (Nat.le_trans hb (by rw [sizeLine_eq]; decide)), Nat.le_trans s.dp hh⟩
/-! ### tables of ints -/
def rowD (r : List Int) : D := .tuple (r.map .int)
def tabD (t : List (List Int)) : D := .tuple (t.map rowD)
structure IsTab (m : Nat) (B : Int) (t : List (List Int)) : Prop where
  ne : 1 ≤ t.length
  le : t.length ≤ m
  wd : ∃ C : Nat, 1 ≤ C ∧ C ≤ m ∧ ∀ r ∈ t, r.length = C
  bd : ∀ r ∈ t, ∀ x ∈ r, -B ≤ x ∧ x ≤ B
theorem shw_row {m k : Nat} {r : List Int} (hk : 0 < k) (hk2 : k < 1920) (hm : r.length ≤ m) (h : ∀ x ∈ r, x.natAbs < 2 ^ k) : Shw (3 + m * (k + 1 + 2)) 1 (rowD r) :=
  shw_tuple (n := m) (fun x hx => by
    obtain ⟨i, hi, rfl⟩ := List.mem_map.mp hx
    exact shw_int hk hk2 (h i hi)) (by rw [List.length_map]; exact hm)
end Cr
set_option Elab.async false
set_option linter.all false
set_option maxRecDepth 100000
set_option maxHeartbeats 4000000
namespace Cr
open PySem
theorem atI_n {xs : List D} {k : Int} {x : D} (h0 : 0 ≤ k) (h : xs[k.toNat]? = some x) : L2.atI xs k = some x := by
  have hl : k.toNat < xs.length := by
    by_cases h2 : k.toNat < xs.length
    · exact h2
    · rw [List.getElem?_eq_none (by omega)] at h; cases h
  unfold L2.atI L2.ixN
  rw [if_pos h0, if_pos (by omega), Option.bind_some, h]
theorem i_T {xs : List D} {k : Int} {x : D} (h0 : 0 ≤ k) (h : xs[k.toNat]? = some x) : (idxD (.tuple xs) (.int k)).map Rv.fz = some (.fz x) := by
  show (L2.atI xs k).map Rv.fz = _
  rw [atI_n h0 h]; rfl
theorem i_L {xs : List D} {k : Int} {x : D} (h0 : 0 ≤ k) (h : xs[k.toNat]? = some x) : (idxD (.list xs) (.int k)).map Rv.fz = some (.fz x) := by
  show (L2.atI xs k).map Rv.fz = _
  rw [atI_n h0 h]; rfl
theorem i_T0 (x : D) (xs : List D) : (idxD (.tuple (x :: xs)) (.int 0)).map Rv.fz = some (.fz x) := i_T (by decide) rfl
theorem i_L0 (x : D) (xs : List D) : (idxD (.list (x :: xs)) (.int 0)).map Rv.fz = some (.fz x) := i_L (by decide) rfl
theorem sIx_p {n d : Nat} {k : Int} (h0 : 0 ≤ k) : HT.sIx n d (some k) = min k.toNat n := by
  show (if k < 0 then (k + (n : Int)).toNat else min k.toNat n) = _
  rw [if_neg (by omega)]
theorem cut_to {α : Type} {xs : List α} {k : Int} (h0 : 0 ≤ k) : cutD xs none (some k) = xs.take k.toNat := by
  unfold cutD
  rw [sIx_p h0]
  show (xs.drop 0).take (min k.toNat xs.length - 0) = _
  rw [List.drop_zero, Nat.sub_zero]
  by_cases h : k.toNat ≤ xs.length
  · rw [Nat.min_eq_left h]
  · rw [Nat.min_eq_right (by omega), List.take_length, List.take_of_length_le (by omega)]
theorem cut_from {α : Type} {xs : List α} {k : Int} (h0 : 0 ≤ k) : cutD xs (some k) none = xs.drop k.toNat := by
  unfold cutD
  rw [sIx_p h0]
  show (xs.drop (min k.toNat xs.length)).take (xs.length - min k.toNat xs.length) = _
  rw [List.take_of_length_le (by rw [List.length_drop]; omega)]
  by_cases h : k.toNat ≤ xs.length
  · rw [Nat.min_eq_left h]
  · rw [Nat.min_eq_right (by omega), List.drop_length, List.drop_of_length_le (by omega)]
theorem sz {n : Nat} (h : n ≤ 1000000) : n ≤ sizeLine := Nat.le_trans h (by rw [sizeLine_eq]; decide)
theorem nd1 {i : Nat} : [i].Nodup := List.nodup_cons.mpr ⟨fun h => (by cases h), List.nodup_nil⟩
/-- a slot that may be written anew -/
def Sl.W : Sl → Prop
  | .mu true _ => False
  | .frz _ => False
  | _ => True
theorem w_gNW {cf : Nat → List Sl → CR} {e : Ev} {P : Unit → Ev → Prop} {i : Nat} {r : Rv} {s : Sl} (h : e[i]? = some s) (w : s.W) (p : P () (e.set i r.sl)) : Wp (evAsg cf (.name i) r e) P := by
  refine w_gN (e' := e.set i r.sl) ?_ p
  unfold store
  rw [h]
  cases s with
  | mu b d => cases b <;> first | rfl | exact w.elim
  | frz d => exact w.elim
  | _ => rfl
theorem w_gM0 {cf : Nat → List Sl → CR} {e : Ev} {P : Unit → Ev → Prop} (p : P () e) : Wp (evAsgs cf [] (List.map Rv.fz []) e) P := .ok p
theorem w_gM1 {cf : Nat → List Sl → CR} {e : Ev} {P : Unit → Ev → Prop} {t : Tg} {ts : List Tg} {d : D} {ds : List D} (h : Wp (evAsg cf t (.fz d) e) fun _ e => Wp (evAsgs cf ts (ds.map .fz) e) P) : Wp (evAsgs cf (t :: ts) (List.map Rv.fz (d :: ds)) e) P := Wp.bind h
theorem w_rngA {cf : Nat → List Sl → CR} {e : Ev} {P : List D → Ev → Prop} {a : CE} (h : Wp (opd a (evE cf a) e) fun x e => ∃ b, x.get e = some (.int b) ∧ ok63 b = true ∧ ∀ l, l = rangeD 0 b → P l e) : Wp (evI cf (.range1 a) e) P := w_rng1 (h.mono fun _ _ ⟨b, h1, h2, h3⟩ => ⟨b, h1, h2, h3 _ rfl⟩)
theorem w_rngB {cf : Nat → List Sl → CR} {e : Ev} {P : List D → Ev → Prop} {a b : CE} (h : Wp (opd a (evE cf a) e) fun x e => Wp (opd b (evE cf b) e) fun y e => ∃ i j, x.get e = some (.int i) ∧ y.get e = some (.int j) ∧ (ok63 i = true ∧ ok63 j = true) ∧ ∀ l, l = rangeD i j → P l e) : Wp (evI cf (.range2 a b) e) P :=
  w_rng2 (h.mono fun _ _ h => h.mono fun _ _ ⟨b, c, h1, h2, h3, h4⟩ => ⟨b, c, h1, h2, h3, h4 _ rfl⟩)
section
variable {asg : D → Ev → Rs Unit} {body : Ev → Rs Fl} {Q : Fl → Ev → Prop} {α : Type}
def Nxt (J : Ev → Prop) (Q : Fl → Ev → Prop) (f : Fl) (e : Ev) : Prop := match f with
  | .nx => J e
  | .ct => J e
  | .bk => Q .nx e
  | .rt v => Q (.rt v) e
theorem for_ix (it : Nat → α → D) (J : List α → Ev → Prop) : ∀ (rest done : List α) (e : Ev), J done e →
    (∀ d' x r e, done ++ rest = d' ++ x :: r → J d' e → Wp (asg (it d'.length x) e) fun _ e1 => Wp (body e1) (Nxt (J (d' ++ [x])) Q)) →
    (∀ e, J (done ++ rest) e → Q .nx e) → Wp (forL asg body ((rest.zipIdx done.length).map fun p => it p.2 p.1) e) Q
  | [], done, e, h0, _, hd => ⟨.nx, e, rfl, hd e (by simpa using h0)⟩
  | x :: rest, done, e, h0, h, hd => by
    obtain ⟨_, e1, h1, f, e2, h2, h3⟩ := h done x rest e rfl h0
    have e0 : forL asg body (((x :: rest).zipIdx done.length).map fun p => it p.2 p.1) e = ((asg (it done.length x) e).bind fun _ e => (body e).bind fun f e => match f with
        | .nx => forL asg body ((rest.zipIdx (done.length + 1)).map fun p => it p.2 p.1) e
        | .ct => forL asg body ((rest.zipIdx (done.length + 1)).map fun p => it p.2 p.1) e
        | .bk => .ok .nx e
        | .rt v => .ok (.rt v) e) := rfl
    have hap : done ++ x :: rest = (done ++ [x]) ++ rest := by rw [List.append_assoc]; rfl
    have go : J (done ++ [x]) e2 → Wp (forL asg body ((rest.zipIdx (done.length + 1)).map fun p => it p.2 p.1) e2) Q := fun hj => by
      have := for_ix it J rest (done ++ [x]) e2 hj (fun d y r e hq hj => h d y r e (hap.trans hq) hj) fun e hj => hd e (by rw [hap]; exact hj)
      rw [List.length_append] at this
      exact this
    rw [e0, h1, bind_ok, h2, bind_ok]
    cases f with
    | nx => exact go h3
    | ct => exact go h3
    | bk => exact ⟨.nx, e2, rfl, h3⟩
    | rt v => exact ⟨.rt v, e2, rfl, h3⟩
theorem enumD_map (φ : α → D) (xs : List α) : enumD (xs.map φ) = (xs.zipIdx 0).map fun p => .tuple [.int (p.2 : Int), φ p.1] := by
  unfold enumD
  rw [List.zipIdx_map, List.map_map]
  rfl
theorem for_enum (φ : α → D) (J : List α → Ev → Prop) (xs : List α) (e : Ev) (h0 : J [] e) (h : ∀ d' x r e, xs = d' ++ x :: r → J d' e → Wp (asg (.tuple [.int (d'.length : Int), φ x]) e) fun _ e1 => Wp (body e1) (Nxt (J (d' ++ [x])) Q))
    (hd : ∀ e, J xs e → Q .nx e) : Wp (forL asg body (enumD (xs.map φ)) e) Q := by
  rw [enumD_map]
  exact for_ix (fun i x => .tuple [.int (i : Int), φ x]) J xs [] e h0 h hd
theorem map_zip1 (φ : α → D) : ∀ (xs : List α) (k : Nat), ((xs.zipIdx k).map fun p => φ p.1) = xs.map φ
  | [], _ => rfl
  | x :: xs, k => by
    show φ x :: ((xs.zipIdx (k + 1)).map fun p => φ p.1) = φ x :: xs.map φ
    rw [map_zip1 φ xs]
theorem for_over (φ : α → D) (J : List α → Ev → Prop) (xs : List α) (e : Ev) (h0 : J [] e) (h : ∀ d' x r e, xs = d' ++ x :: r → J d' e → Wp (asg (φ x) e) fun _ e1 => Wp (body e1) (Nxt (J (d' ++ [x])) Q))
    (hd : ∀ e, J xs e → Q .nx e) : Wp (forL asg body (xs.map φ) e) Q := by
  have := for_ix (fun _ x => φ x) J xs [] e h0 h hd
  rw [map_zip1] at this
  exact this
theorem range_at {n x : Nat} {d r : List Nat} (h : List.range n = d ++ x :: r) : x = d.length ∧ d.length < n := by
  have hl := congrArg List.length h
  rw [List.length_range, List.length_append, List.length_cons] at hl
  have hx : (List.range n)[d.length]? = some x := by rw [h]; simp
  rw [List.getElem?_range (by omega)] at hx
  exact ⟨(Option.some.inj hx).symm, by omega⟩
theorem for_rng {a b : Int} (J : Nat → Ev → Prop) (e : Ev) (h0 : J 0 e) (h : ∀ (i : Nat) e, i < (b - a).toNat → J i e → Wp (asg (.int (a + (i : Int))) e) fun _ e1 => Wp (body e1) (Nxt (J (i + 1)) Q))
    (hd : ∀ e, J (b - a).toNat e → Q .nx e) : Wp (forL asg body (rangeD a b) e) Q := by
  refine for_over (fun (i : Nat) => .int (a + (i : Int))) (fun d e => J d.length e) (List.range (b - a).toNat) e h0 (fun d x r e hx hj => ?_) fun e hj => hd e (by rw [List.length_range] at hj; exact hj)
  obtain ⟨rfl, hl⟩ := range_at hx
  have := h d.length e hl hj
  rw [List.length_append]
  exact this
end
section
variable {own : List Nat} {asg : D → Ev → Rs Unit} {c : Ev → Rs Bool} {f : Ev → Rs Rv} {α : Type}
theorem comp_ix (φ : α → D) (J : List α → List D → Ev → Prop) : ∀ (rest done : List α) (acc : List D) (e : Ev), J done acc e → acc.length + rest.length ≤ sizeLine →
    (∀ d' x r acc e, done ++ rest = d' ++ x :: r → J d' acc e → Wp (asg (φ x) e) fun _ e1 => Wp (c e1) fun b e2 => b = true ∧ Wp (f e2) fun v e3 => ∃ e4, wipeE e3 own = some e4 ∧ J (d' ++ [x]) (acc ++ [v.d]) e4) →
    Wp (compL own asg c f (rest.map φ) acc e) fun r e' => J (done ++ rest) r e'
  | [], done, acc, e, h0, _, _ => ⟨acc, e, rfl, by simpa using h0⟩
  | x :: rest, done, acc, e, h0, hl, h => by
    obtain ⟨_, e1, h1, b, e2, h2, hb, v, e3, h3, e4, hw, hJ⟩ := h done x rest acc e rfl h0
    rw [List.length_cons] at hl
    have hap : done ++ x :: rest = (done ++ [x]) ++ rest := by rw [List.append_assoc]; rfl
    have ih := comp_ix φ J rest (done ++ [x]) (acc ++ [v.d]) e4 hJ (by rw [List.length_append, List.length_singleton]; omega) fun d y r a e hq => h d y r a e (hap.trans hq)
    have e5 : compL own asg c f ((x :: rest).map φ) acc e = compL own asg c f (rest.map φ) (acc ++ [v.d]) e4 := by
      show ((asg (φ x) e).bind fun _ e => (c e).bind fun b e => if b = true then (f e).bind fun v e => if acc.length < sizeLine then wipeK own e fun e => compL own asg c f (rest.map φ) (acc ++ [v.d]) e else .er
        else wipeK own e fun e => compL own asg c f (rest.map φ) acc e) = _
      rw [h1, bind_ok, h2, bind_ok, hb, if_pos rfl, h3, bind_ok, if_pos (by omega)]
      unfold wipeK
      rw [hw]
    rw [e5]
    refine ih.mono fun r e' q => ?_
    rw [hap]
    exact q
theorem comp_rng {a b : Int} (J : Nat → List D → Ev → Prop) (e : Ev) (h0 : J 0 [] e) (hl : (b - a).toNat ≤ sizeLine)
    (h : ∀ (i : Nat) acc e, i < (b - a).toNat → J i acc e → Wp (asg (.int (a + (i : Int))) e) fun _ e1 => Wp (c e1) fun t e2 => t = true ∧ Wp (f e2) fun v e3 => ∃ e4, wipeE e3 own = some e4 ∧ J (i + 1) (acc ++ [v.d]) e4) :
    Wp (compL own asg c f (rangeD a b) [] e) fun r e' => J (b - a).toNat r e' := by
  have := comp_ix (own := own) (asg := asg) (c := c) (f := f) (fun (i : Nat) => PyData.int (a + (i : Int))) (fun d acc e => J d.length acc e) (List.range (b - a).toNat) [] [] e h0 (by rw [List.length_range]; exact (by simpa using hl)) (fun d x r acc e hx hj => by
    obtain ⟨rfl, hl⟩ := range_at hx
    have := h d.length acc e hl hj
    rw [List.length_append]
    exact this)
  refine this.mono fun r e' q => ?_
  have e1 : (([] : List Nat) ++ List.range (b - a).toNat).length = (b - a).toNat := by rw [List.nil_append, List.length_range]
  rw [← e1]
  exact q
end
end Cr
set_option Elab.async false
set_option linter.all false
set_option maxRecDepth 100000
set_option maxHeartbeats 4000000
namespace Cr
open PySem
theorem backS_none {os : List Op} {o : List Sl} {j : Nat} {s : Sl} (h : lentAt os o j = none) : backS os o j s = s := by
  cases s with
  | mu b d => unfold backS; simp only [h]
  | _ => rfl
theorem backG_none {os : List Op} {o : List Sl} (h : ∀ j, lentAt os o j = none) : ∀ (e : Ev) (j : Nat), backG os o j e = e
  | [], _ => rfl
  | s :: r, j => by
    show backS os o j s :: backG os o (j + 1) r = _
    rw [backS_none (h j), backG_none h r]
theorem back_none {os : List Op} {o : List Sl} {e : Ev} (h : ∀ j, lentAt os o j = none) : back os o e = e := backG_none h e 0
theorem lent_ne {i j : Nat} {os : List Op} {s0 : Sl} {o : List Sl} (h : ∀ j, lentAt os o j = none) (hj : i ≠ j) : lentAt (.pl i :: os) (s0 :: o) j = none := by
  show (if i = j then some s0 else lentAt os o j) = none
  rw [if_neg hj, h j]
theorem backG_past {i : Nat} {os : List Op} {s0 : Sl} {o : List Sl} (h : ∀ j, lentAt os o j = none) : ∀ (e : Ev) (k : Nat), i < k → backG (.pl i :: os) (s0 :: o) k e = e
  | [], _, _ => rfl
  | s :: r, k, hk => by
    show backS _ _ k s :: backG _ _ (k + 1) r = _
    rw [backS_none (lent_ne h (by omega)), backG_past h r (k + 1) (by omega)]
theorem backG_at {i : Nat} {os : List Op} {d' : D} {o : List Sl} {b : Bool} {d : D} (h : ∀ j, lentAt os o j = none) : ∀ (e : Ev) (k : Nat), k ≤ i → e[i - k]? = some (.mu b d) → backG (.pl i :: os) (.mu true d' :: o) k e = e.set (i - k) (.mu b d')
  | [], k, _, he => by simp at he
  | s :: r, k, hk, he => by
    show backS _ _ k s :: backG _ _ (k + 1) r = _
    by_cases hki : k = i
    · subst hki
      rw [Nat.sub_self] at he ⊢
      have hs : s = .mu b d := by simpa using he
      subst hs
      rw [backG_past h r (k + 1) (by omega)]
      have e1 : lentAt (.pl k :: os) (.mu true d' :: o) k = some (.mu true d') := if_pos rfl
      unfold backS
      simp only [e1]
      rfl
    · have e1 : i - k = (i - (k + 1)) + 1 := by omega
      rw [e1] at he ⊢
      rw [backS_none (lent_ne h (by omega)), backG_at h r (k + 1) (by omega) (by simpa using he)]
      rfl
/-- one place lent -/
theorem back_at {i : Nat} {os : List Op} {d' : D} {o : List Sl} {b : Bool} {d : D} {e : Ev} (h : ∀ j, lentAt os o j = none) (he : e[i]? = some (.mu b d)) : back (.pl i :: os) (.mu true d' :: o) e = e.set i (.mu b d') := backG_at h e 0 (by omega) he
end Cr
set_option Elab.async false
set_option linter.all false
set_option maxRecDepth 100000
set_option maxHeartbeats 4000000
namespace Cr
open PySem
def drawB : List CS := [.ife (.cmp .Gt (.idx (.var 0) (.k (.int (0)))) (.k (.int (0)))) [.asg (.name 3) (.bin .FloorDiv (.idx (.var 0) (.k (.int (0)))) (.var 1)), .asg (.name 4) (.bin .Sub (.idx (.var 0) (.k (.int (0)))) (.bin .Mult (.var 3) (.var 1))), .asg (.sub 0 (.k (.int (0)))) (.var 3), .ret (.var 4)] [], .asg (.sub 0 (.k (.int (2)))) (.bin .Add (.idx (.var 0) (.k (.int (2)))) (.k (.int (1)))), .asg (.name 2) (.bin .Add (.idx (.var 0) (.k (.int (1)))) (.bin .Mult (.k (.int (6700417))) (.idx (.var 0) (.k (.int (2)))))), .asg (.name 2) (.bin .Mod (.blt .int [(.bin .Add (.bin .Mult (.bin .Mult (.var 2) (.var 2)) (.var 2)) (.bin .Mult (.k (.int (15485863))) (.idx (.var 0) (.k (.int (2))))))]) (.bin .Add (.bin .Pow (.k (.int (10))) (.k (.int (43)))) (.k (.int (57))))), .asg (.name 2) (.bin .Mod (.blt .int [(.bin .Add (.bin .Mult (.var 2) (.var 2)) (.k (.int (32452843))))]) (.bin .Add (.bin .Pow (.k (.int (10))) (.k (.int (38)))) (.k (.int (133))))), .ret (.bin .Mod (.blt .int [(.bin .FloorDiv (.var 2) (.bin .Pow (.k (.int (10))) (.k (.int (9)))))]) (.var 1))]
/-- a feed: n draws are still to come -/
def Feed (n : Nat) (d : D) : Prop := ∃ f0 f1 f2 : Int, d = .list [.int f0, .int f1, .int f2] ∧ 0 ≤ f0 ∧ 0 ≤ f1 ∧ f1 < 10 ^ 39 + 23 ∧ 0 ≤ f2 ∧ f2 + n ≤ 10 ^ 18
theorem at3_0 (a b c : D) : L2.atI [a, b, c] 0 = some a := rfl
theorem at3_1 (a b c : D) : L2.atI [a, b, c] 1 = some b := rfl
theorem at3_2 (a b c : D) : L2.atI [a, b, c] 2 = some c := rfl
local macro_rules | `(tactic| trivial) => `(tactic| dsimp only)
local macro_rules | `(tactic| trivial) => `(tactic| first
  | (refine ⟨_, rfl, ?_⟩; done) | (refine ⟨_, by with_unfolding_all rfl, ?_⟩) | (refine ⟨_, _, by with_unfolding_all rfl, by with_unfolding_all rfl, ?_⟩) | (refine ⟨_, _, _, _, by with_unfolding_all rfl, by with_unfolding_all rfl, by with_unfolding_all rfl, ?_⟩)
  | (refine ⟨_, by with_unfolding_all rfl, ok63_of (by omega) (by omega), ?_⟩) | (refine ⟨_, _, by with_unfolding_all rfl, by with_unfolding_all rfl, ⟨ok63_of (by omega) (by omega), ok63_of (by omega) (by omega)⟩, ?_⟩)
  | (refine ⟨⟨by with_unfolding_all rfl, by decide⟩, ?_⟩) | (refine ⟨⟨by with_unfolding_all rfl, by with_unfolding_all rfl⟩, ?_⟩))
local macro_rules | `(tactic| trivial) => `(tactic| with_reducible first
  | apply w_S1 | apply w_S0 | apply w_asg | apply w_ret | apply w_ifS | apply w_for | apply w_ex | apply w_par | apply w_pass
  | apply w_bin | apply w_idx | apply w_cmp | apply w_call | apply w_callk | apply w_blt | apply w_k | apply w_glob | apply w_tup | apply w_lst | apply w_and | apply w_or | apply w_not | apply w_ife | apply w_isi | apply w_slc | apply w_rev | apply w_neg | apply w_chain | apply w_edict | apply w_comp
  | apply w_L1 | apply w_L0 | apply w_O1 | apply w_O0 | apply w_A1 | apply w_A0 | apply w_R1 | apply w_R0 | apply w_P1 | apply w_P0 | apply w_over | apply w_rng1 | apply w_rng2 | apply w_enum | apply w_zip
  | apply w_g1 | apply w_g0 | apply w_tstR
  | (apply w_var; with_unfolding_all rfl) | (apply w_opV; with_unfolding_all rfl) | (apply w_op; with_unfolding_all rfl) | (apply w_arM; with_unfolding_all rfl) | (apply w_arV; with_unfolding_all rfl) | (apply w_arF; with_unfolding_all rfl) | (apply w_ar; with_unfolding_all rfl)
  | (apply w_tstB; with_unfolding_all rfl) | (apply w_tstO; with_unfolding_all rfl)
  | (apply w_gN; with_unfolding_all rfl) | (apply w_gS; with_unfolding_all rfl) | (apply w_gT; with_unfolding_all rfl; with_unfolding_all rfl)
  | (apply w_retM; with_unfolding_all rfl) | (apply w_retV; with_unfolding_all rfl) | (apply w_retE; with_unfolding_all rfl)
  | (apply w_mm; with_unfolding_all rfl)
  | (apply w_iteT; first | with_unfolding_all rfl | assumption | exact decide_eq_true (by first | assumption | omega)) | (apply w_iteF; first | with_unfolding_all rfl | assumption | exact decide_eq_false (by first | assumption | omega)))
local macro_rules | `(tactic| trivial) => `(tactic| first
  | ((with_reducible apply w_two); (with_unfolding_all rfl); (with_unfolding_all rfl); (first | exact b_mul (by first | assumption | exact mulOk_l (by omega) (by omega) | exact mulOk_r (by omega) (by omega) | exact mulOk_b 200 200 (by omega) (by omega) (by decide) (by decide) (by decide)) | exact b_div (by omega) (by omega) | exact b_mod (by omega) | exact b_pow (by decide) (by decide) (by decide) (by simp; rfl) | with_unfolding_all rfl))
  | ((with_reducible apply w_one); (with_unfolding_all rfl); (with_unfolding_all rfl))
  | ((with_reducible apply w_many); (with_unfolding_all rfl); (with_unfolding_all rfl)))
theorem draw_ok {cf : Nat → List Sl → CR} {fuel n : Nat} {d : D} {many : Int} (h : Feed (n + 1) d) (hm : 0 < many) (hm2 : many < 2 ^ 63) :
    ∃ r o, runD cf fuel ⟨2, 5, drawB⟩ [.mu true d, .val (.int many)] = .ret r o ∧ ∃ i d', r = .fz (.int i) ∧ o = [.mu true d', .val (.int many)] ∧ 0 ≤ i ∧ i < many ∧ Feed n d' := by
  obtain ⟨f0, f1, f2, rfl, h0, h1, h2, h3, h4⟩ := h
  by_cases hf : 0 < f0
  · refine run_ok rfl ?_
    show Wp (evSs cf fuel drawB [.mu true (.list [.int f0, .int f1, .int f2]), .val (.int many), .un, .un, .un]) _
    unfold drawB
    repeat trivial
    have e1 : f0 - f0 / many * many = f0 % many := by
      have := Int.emod_add_mul_ediv f0 many
      rw [Int.mul_comm] at this
      omega
    refine ⟨?_, ?_, f0 / many, f1, f2, rfl, Int.ediv_nonneg h0 (by omega), h1, h2, h3, by omega⟩
    · rw [e1]; exact Int.emod_nonneg _ (by omega)
    · rw [e1]; exact Int.emod_lt_of_pos _ hm
  · have hS0 : 0 ≤ f1 + 6700417 * (f2 + 1) := by omega
    have hS1 : f1 + 6700417 * (f2 + 1) < 2 ^ 140 := by omega
    have m1 : mulOk (f1 + 6700417 * (f2 + 1)) (f1 + 6700417 * (f2 + 1)) = true := mulOk_b 140 140 (by omega) (by omega) (by decide) (by decide) (by decide)
    have m2 : mulOk ((f1 + 6700417 * (f2 + 1)) * (f1 + 6700417 * (f2 + 1))) (f1 + 6700417 * (f2 + 1)) = true := by
      refine mulOk_b 280 140 ?_ (by omega) (by decide) (by decide) (by decide)
      rw [Int.natAbs_mul]
      have e : (f1 + 6700417 * (f2 + 1)).natAbs < 2 ^ 140 := by omega
      exact Nat.lt_of_lt_of_le (Nat.mul_lt_mul'' e e) (Nat.le_of_eq (Nat.pow_add 2 140 140).symm)
    refine run_ok rfl ?_
    show Wp (evSs cf fuel drawB [.mu true (.list [.int f0, .int f1, .int f2]), .val (.int many), .un, .un, .un]) _
    unfold drawB
    repeat trivial
    refine ⟨Int.emod_nonneg _ (by omega), Int.emod_lt_of_pos _ hm, f0, f1, f2 + 1, rfl, h0, h1, h2, by omega, by omega⟩
end Cr
set_option Elab.async false
set_option linter.all false
set_option maxRecDepth 100000
set_option maxHeartbeats 4000000
namespace Cr
open PySem
theorem Feed.mono {n m : Nat} {d : D} (h : Feed n d) (hm : m ≤ n) : Feed m d := by
  obtain ⟨a, b, c, e, h1, h2, h3, h4, h5⟩ := h
  exact ⟨a, b, c, e, h1, h2, h3, h4, by omega⟩
section
variable {own : List Nat} {asg : D → Ev → Rs Unit} {c : Ev → Rs Bool} {f : Ev → Rs Rv} {α β : Type}
theorem comp_feed (φ : α → D) (ψ : β → D) (F : D → Ev) (k m : Nat) (p : β → Prop) (xs : List α) {d : D} (hF : Feed (m + xs.length * k) d) (hl : xs.length ≤ sizeLine)
    (h : ∀ x ∈ xs, ∀ d j, Feed (j + k) d → Wp (asg (φ x) (F d)) fun _ e1 => Wp (c e1) fun t e2 => t = true ∧ Wp (f e2) fun v e3 => ∃ y d', v.d = ψ y ∧ p y ∧ Feed j d' ∧ wipeE e3 own = some (F d')) :
    Wp (compL own asg c f (xs.map φ) [] (F d)) fun r e' => ∃ (l : List β) (d' : D), r = l.map ψ ∧ l.length = xs.length ∧ (∀ y ∈ l, p y) ∧ Feed m d' ∧ e' = F d' := by
  refine (comp_ix φ (fun done acc e => ∃ (l : List β) (d' : D), acc = l.map ψ ∧ l.length = done.length ∧ (∀ y ∈ l, p y) ∧ Feed (m + (xs.length - done.length) * k) d' ∧ e = F d') xs [] [] (F d) ⟨[], d, rfl, rfl, by simp, by simpa using hF, rfl⟩ (by simpa using hl) ?_).mono ?_
  · rintro done x r acc e hx ⟨l, d', rfl, hll, hp, hf, rfl⟩
    rw [List.nil_append] at hx
    have hm : x ∈ xs := by rw [hx]; simp
    have hlen : xs.length - done.length = (xs.length - (done ++ [x]).length) + 1 := by
      rw [hx]; simp only [List.length_append, List.length_cons, List.length_nil]; omega
    rw [hlen, Nat.succ_mul, ← Nat.add_assoc] at hf
    refine (h x hm d' _ hf).mono fun _ e1 h => h.mono fun t e2 ⟨ht, h⟩ => ⟨ht, h.mono fun v e3 ⟨y, d2, h1, h2, h3, h4⟩ => ⟨F d2, h4, l ++ [y], d2, ?_, ?_, ?_, h3, rfl⟩⟩
    · rw [h1, List.map_append]; rfl
    · rw [List.length_append, List.length_append, hll]; rfl
    · intro z hz
      rcases List.mem_append.mp hz with hz | hz
      · exact hp z hz
      · rw [List.mem_singleton.mp hz]; exact h2
  · rintro r e ⟨l, d', h1, h2, h3, h4, h5⟩
    refine ⟨l, d', h1, h2, h3, h4.mono (Nat.le_add_right _ _), h5⟩
theorem comp_feedR (ψ : β → D) (F : D → Ev) (k m N : Nat) (p : β → Prop) {a b : Int} {d : D} (hN : (b - a).toNat = N) (hF : Feed (m + N * k) d) (hl : N ≤ sizeLine)
    (h : ∀ x : Int, ∀ d j, Feed (j + k) d → Wp (asg (.int x) (F d)) fun _ e1 => Wp (c e1) fun t e2 => t = true ∧ Wp (f e2) fun v e3 => ∃ y d', v.d = ψ y ∧ p y ∧ Feed j d' ∧ wipeE e3 own = some (F d')) :
    Wp (compL own asg c f (rangeD a b) [] (F d)) fun r e' => ∃ (l : List β) (d' : D), r = l.map ψ ∧ l.length = N ∧ (∀ y ∈ l, p y) ∧ Feed m d' ∧ e' = F d' := by
  have := comp_feed (own := own) (asg := asg) (c := c) (f := f) (fun (i : Nat) => PyData.int (a + (i : Int))) ψ F k m p (List.range (b - a).toNat) (d := d) (by rw [List.length_range, hN]; exact hF) (by rw [List.length_range, hN]; exact hl) (fun x _ => h _)
  subst hN
  rw [List.length_range] at this
  exact this
end
end Cr
set_option Elab.async false
set_option linter.all false
set_option maxRecDepth 100000
set_option maxHeartbeats 0
namespace Cr.k01
open PySem PySem.Spec PyProof.Rows L2
def top (i : Nat) : Stmt := PySem.Challenge.pw_straightleast_k01_what_is_a_table.main.body.getD i (.Pass ⟨0, 0, 0, 0⟩)
def gt : Gt := ⟨[("is_integer", 0), ("is_row_of", 1), ("are_integers", 2), ("is_table_form", 3), ("is_table", 4), ("_law_feed", 5), ("_law_draw", 6), ("_law_one", 7), ("_law_built", 8), ("_law_table", 9), ("_law_sized", 10), ("_law_loose", 11), ("_law_set", 12), ("_law_any", 13), ("_law_is_table", 14), ("_law_near_table", 15), ("law", 16)], [("is_table", 0, ["thing"], [0])], [("MOST_ROWS", .int (8))], ["isinstance", "int", "bool", "tuple", "len", "all", "sum", "max", "enumerate", "range", "list", "repr"], []⟩
def ir_is_integer : List CS := [.ret (.and_ (.isi (.var 0) .int) (.not_ (.isi (.var 0) .bool)))]
def e_is_integer : Ent := ⟨"is_integer", "is_integer", defArgs (top 1), defBody (top 1), defScope (top 1), ["thing"], ["thing"], [], ir_is_integer⟩
def ir_is_row_of : List CS := [.ret (.and_ (.isi (.var 0) .tuple) (.chain .LtE .LtE (.var 1) (.blt .len [(.var 0)]) (.var 2)))]
def e_is_row_of : Ent := ⟨"is_row_of", "is_row_of", defArgs (top 2), defBody (top 2), defScope (top 2), ["thing", "least", "most"], ["thing", "least", "most"], [], ir_is_row_of⟩
def ir_are_integers : List CS := [.ret (.and_ (.call 1 [(.var 0), (.var 1), (.var 1)]) (.blt .all [(.comp [2] (.name 2) (.over (.var 0)) none (.call 0 [(.var 2)]))]))]
def e_are_integers : Ent := ⟨"are_integers", "are_integers", defArgs (top 3), defBody (top 3), defScope (top 3), ["thing", "many"], ["thing", "many", "one"], [], ir_are_integers⟩
def ir_is_table_form : List CS := [.ife (.or_ (.not_ (.call 1 [(.var 0), (.k (.int (1))), (.glob (.int (8)))])) (.not_ (.call 1 [(.idx (.var 0) (.k (.int (0)))), (.k (.int (1))), (.glob (.int (8)))]))) [.ret (.k (.bool false))] [], .ret (.blt .all [(.comp [1] (.name 1) (.over (.var 0)) none (.call 2 [(.var 1), (.blt .len [(.idx (.var 0) (.k (.int (0))))])]))])]
def e_is_table_form : Ent := ⟨"is_table_form", "is_table_form", defArgs (top 6), defBody (top 6), defScope (top 6), ["thing"], ["thing", "row"], [], ir_is_table_form⟩
def ir_is_table : List CS := [.ret (.call 3 [(.var 0)])]
def e_is_table : Ent := ⟨"is_table", "is_table", defArgs (top 8), defBody (top 8), defScope (top 8), ["thing"], ["thing"], [(0, ["thing"], [0])], ir_is_table⟩
def ir__law_feed : List CS := [.asg (.name 2) (.bin .Add (.bin .Mult (.k (.int (977))) (.var 1)) (.blt .sum [(.slc (.var 0) none (some (.k (.int (1)))))])), .ife (.cmp .Lt (.var 1) (.blt .len [(.var 0)])) [.asg (.name 2) (.idx (.var 0) (.var 1))] [], .ret (.lst [(.blt .max2 [(.k (.int (0))), (.bin .Sub (.var 2) (.bin .Pow (.k (.int (10))) (.k (.int (18)))))]), (.bin .Mod (.blt .int [(.bin .Add (.bin .Mult (.var 2) (.k (.int (19)))) (.bin .Mult (.k (.int (7))) (.var 1)))]) (.bin .Add (.bin .Pow (.k (.int (10))) (.k (.int (39)))) (.k (.int (23))))), (.k (.int (0)))])]
def e__law_feed : Ent := ⟨"_law_feed", "_law_feed", defArgs (top 10), defBody (top 10), defScope (top 10), ["_law_script", "_law_k"], ["_law_script", "_law_k", "_law_cell"], [], ir__law_feed⟩
def ir__law_draw : List CS := [.ife (.cmp .Gt (.idx (.var 0) (.k (.int (0)))) (.k (.int (0)))) [.asg (.name 3) (.bin .FloorDiv (.idx (.var 0) (.k (.int (0)))) (.var 1)), .asg (.name 4) (.bin .Sub (.idx (.var 0) (.k (.int (0)))) (.bin .Mult (.var 3) (.var 1))), .asg (.sub 0 (.k (.int (0)))) (.var 3), .ret (.var 4)] [], .asg (.sub 0 (.k (.int (2)))) (.bin .Add (.idx (.var 0) (.k (.int (2)))) (.k (.int (1)))), .asg (.name 2) (.bin .Add (.idx (.var 0) (.k (.int (1)))) (.bin .Mult (.k (.int (6700417))) (.idx (.var 0) (.k (.int (2)))))), .asg (.name 2) (.bin .Mod (.blt .int [(.bin .Add (.bin .Mult (.bin .Mult (.var 2) (.var 2)) (.var 2)) (.bin .Mult (.k (.int (15485863))) (.idx (.var 0) (.k (.int (2))))))]) (.bin .Add (.bin .Pow (.k (.int (10))) (.k (.int (43)))) (.k (.int (57))))), .asg (.name 2) (.bin .Mod (.blt .int [(.bin .Add (.bin .Mult (.var 2) (.var 2)) (.k (.int (32452843))))]) (.bin .Add (.bin .Pow (.k (.int (10))) (.k (.int (38)))) (.k (.int (133))))), .ret (.bin .Mod (.blt .int [(.bin .FloorDiv (.var 2) (.bin .Pow (.k (.int (10))) (.k (.int (9)))))]) (.var 1))]
def e__law_draw : Ent := ⟨"_law_draw", "_law_draw", defArgs (top 11), defBody (top 11), defScope (top 11), ["_law_feed_here", "_law_many"], ["_law_feed_here", "_law_many", "_law_stir", "_law_rest", "_law_got"], [], ir__law_draw⟩
def ir__law_one : List CS := [.ret (.idx (.var 1) (.call 6 [(.var 0), (.blt .len [(.var 1)])]))]
def e__law_one : Ent := ⟨"_law_one", "_law_one", defArgs (top 12), defBody (top 12), defScope (top 12), ["_law_feed_here", "_law_things"], ["_law_feed_here", "_law_things"], [], ir__law_one⟩
def ir__law_built : List CS := [.asg (.name 3) (.lst []), .for_ (.tup [(.name 4), (.name 5)]) (.enum (.var 0)) [.asg (.name 6) (.lst [(.var 5)]), .for_ (.tup [(.name 7), (.name 8)]) (.enum (.var 1)) [.asg (.name 9) (.blt .sum [(.comp [10] (.name 10) (.over (.slc (.var 2) none (some (.var 4)))) none (.blt .sum [(.slc (.var 10) none (some (.bin .Add (.var 7) (.k (.int (1))))))]))]), .ex (.mm .append 6 [(.bin .Sub (.bin .Add (.var 5) (.var 8)) (.var 9))])], .ex (.mm .append 3 [(.blt .tuple [(.var 6)])])], .ret (.blt .tuple [(.var 3)])]
def e__law_built : Ent := ⟨"_law_built", "_law_built", defArgs (top 13), defBody (top 13), defScope (top 13), ["_law_left", "_law_top", "_law_gains"], ["_law_left", "_law_top", "_law_gains", "_law_rows", "_law_at", "_law_first", "_law_row", "_law_to", "_law_more", "_law_below", "_law_line"], [], ir__law_built⟩
def ir__law_table : List CS := [.par [(.name 3), (.name 4)] [(.bin .Add (.k (.int (1))) (.call 6 [(.var 0), (.var 1)])), (.bin .Add (.k (.int (1))) (.call 6 [(.var 0), (.var 2)]))], .ret (.call 10 [(.var 0), (.var 3), (.var 4)])]
def e__law_table : Ent := ⟨"_law_table", "_law_table", defArgs (top 14), defBody (top 14), defScope (top 14), ["_law_feed_here", "_law_many", "_law_wide"], ["_law_feed_here", "_law_many", "_law_wide", "_law_rows", "_law_columns"], [], ir__law_table⟩
def ir__law_sized : List CS := [.par [(.name 7), (.name 8)] [(.call 7 [(.var 0), (.lst [(.k (.int (3))), (.k (.int (3))), (.k (.int (10))), (.bin .Pow (.k (.int (10))) (.k (.int (6)))), (.bin .Pow (.k (.int (10))) (.k (.int (15))))])]), (.call 7 [(.var 0), (.lst [(.k (.int (1))), (.k (.int (2))), (.k (.int (3))), (.k (.int (8))), (.bin .Pow (.k (.int (10))) (.k (.int (9))))])])], .asg (.name 3) (.comp [9] (.name 9) (.range1 (.var 1)) none (.bin .Sub (.call 6 [(.var 0), (.bin .Add (.bin .Mult (.k (.int (2))) (.var 7)) (.k (.int (1))))]) (.var 7))), .asg (.name 4) (.comp [9] (.name 9) (.range1 (.bin .Sub (.var 2) (.k (.int (1))))) none (.bin .Sub (.call 6 [(.var 0), (.bin .Add (.bin .Mult (.k (.int (2))) (.var 7)) (.k (.int (1))))]) (.var 7))), .asg (.name 5) (.lst []), .for_ (.name 6) (.range1 (.bin .Sub (.var 1) (.k (.int (1))))) [.ex (.mm .append 5 [(.comp [9] (.name 9) (.range1 (.bin .Sub (.var 2) (.k (.int (1))))) none (.ife (.cmp .Gt (.call 6 [(.var 0), (.k (.int (3)))]) (.k (.int (0)))) (.call 6 [(.var 0), (.bin .Add (.var 8) (.k (.int (1))))]) (.k (.int (0)))))])], .ret (.call 8 [(.var 3), (.var 4), (.var 5)])]
def e__law_sized : Ent := ⟨"_law_sized", "_law_sized", defArgs (top 15), defBody (top 15), defScope (top 15), ["_law_feed_here", "_law_rows", "_law_columns"], ["_law_feed_here", "_law_rows", "_law_columns", "_law_left", "_law_top", "_law_gains", "_law_at", "_law_size", "_law_steep", "_law_turn"], [], ir__law_sized⟩
def ir__law_loose : List CS := [.par [(.name 4), (.name 5)] [(.call 9 [(.var 0), (.var 1), (.var 2)]), (.call 6 [(.var 0), (.k (.int (3)))])], .ife (.cmp .Eq (.var 5) (.k (.int (0)))) [.ret (.var 4)] [], .ife (.cmp .Eq (.var 5) (.k (.int (1)))) [.par [(.name 6), (.name 7)] [(.call 6 [(.var 0), (.blt .len [(.var 4)])]), (.call 6 [(.var 0), (.blt .len [(.idx (.var 4) (.k (.int (0))))])])], .ret (.call 12 [(.var 4), (.var 6), (.var 7), (.bin .Sub (.bin .Add (.idx (.idx (.var 4) (.var 6)) (.var 7)) (.call 6 [(.var 0), (.k (.int (7)))])) (.k (.int (3))))])] [], .asg (.name 3) (.call 7 [(.var 0), (.lst [(.k (.int (2))), (.k (.int (4))), (.k (.int (10))), (.bin .Pow (.k (.int (10))) (.k (.int (12))))])]), .ret (.blt .tuple [(.comp [8] (.name 8) (.over (.var 4)) none (.blt .tuple [(.comp [9] (.name 9) (.over (.var 8)) none (.bin .Sub (.call 6 [(.var 0), (.bin .Add (.bin .Mult (.k (.int (2))) (.var 3)) (.k (.int (1))))]) (.var 3)))]))])]
def e__law_loose : Ent := ⟨"_law_loose", "_law_loose", defArgs (top 16), defBody (top 16), defScope (top 16), ["_law_feed_here", "_law_many", "_law_wide"], ["_law_feed_here", "_law_many", "_law_wide", "_law_size", "_law_table_here", "_law_way", "_law_at", "_law_to", "_law_row", "_law_entry"], [], ir__law_loose⟩
def ir__law_set : List CS := [.asg (.name 4) (.idx (.var 0) (.var 1)), .ret (.bin .Add (.bin .Add (.slc (.var 0) none (some (.var 1))) (.tup [(.bin .Add (.bin .Add (.slc (.var 4) none (some (.var 2))) (.tup [(.var 3)])) (.slc (.var 4) (some (.bin .Add (.var 2) (.k (.int (1))))) none))])) (.slc (.var 0) (some (.bin .Add (.var 1) (.k (.int (1))))) none))]
def e__law_set : Ent := ⟨"_law_set", "_law_set", defArgs (top 17), defBody (top 17), defScope (top 17), ["_law_table_here", "_law_at", "_law_to", "_law_number"], ["_law_table_here", "_law_at", "_law_to", "_law_number", "_law_row"], [], ir__law_set⟩
def ir__law_any : List CS := [.asg (.name 1) (.call 7 [(.var 0), (.lst [(.k (.int (3))), (.k (.int (5))), (.k (.int (8)))])]), .asg (.name 2) (.call 11 [(.var 0), (.var 1), (.var 1)]), .ife (.cmp .Eq (.call 6 [(.var 0), (.k (.int (5)))]) (.k (.int (0)))) [.asg (.name 3) (.bin .Add (.bin .Pow (.k (.int (10))) (.k (.int (14)))) (.call 6 [(.var 0), (.bin .Mult (.k (.int (3))) (.bin .Pow (.k (.int (10))) (.k (.int (14)))))])), .asg (.name 2) (.blt .tuple [(.comp [4] (.name 4) (.over (.var 2)) none (.blt .tuple [(.comp [5] (.name 5) (.over (.var 4)) none (.bin .Mult (.var 5) (.var 3)))]))])] [], .ret (.var 2)]
def e__law_any : Ent := ⟨"_law_any", "_law_any", defArgs (top 18), defBody (top 18), defScope (top 18), ["_law_feed_here"], ["_law_feed_here", "_law_most", "_law_table_here", "_law_more", "_law_row", "_law_entry"], [], ir__law_any⟩
def ir__law_is_table : List CS := [.ife (.or_ (.not_ (.isi (.var 0) .tuple)) (.or_ (.cmp .Lt (.blt .len [(.var 0)]) (.k (.int (1)))) (.or_ (.cmp .Gt (.blt .len [(.var 0)]) (.k (.int (8)))) (.not_ (.isi (.idx (.var 0) (.k (.int (0)))) .tuple))))) [.ret (.k (.bool false))] [], .for_ (.name 1) (.over (.var 0)) [.ife (.or_ (.not_ (.isi (.var 1) .tuple)) (.or_ (.cmp .Lt (.blt .len [(.var 1)]) (.k (.int (1)))) (.or_ (.cmp .Gt (.blt .len [(.var 1)]) (.k (.int (8)))) (.cmp .NotEq (.blt .len [(.var 1)]) (.blt .len [(.idx (.var 0) (.k (.int (0))))]))))) [.ret (.k (.bool false))] [], .ife (.cmp .NotEq (.comp [2] (.name 2) (.over (.var 1)) (some (.or_ (.isi (.var 2) .bool) (.not_ (.isi (.var 2) .int)))) (.k (.int (1)))) (.lst [])) [.ret (.k (.bool false))] []], .ret (.k (.bool true))]
def e__law_is_table : Ent := ⟨"_law_is_table", "_law_is_table", defArgs (top 19), defBody (top 19), defScope (top 19), ["_law_thing"], ["_law_thing", "_law_row", "_law_one_here"], [], ir__law_is_table⟩
def ir__law_near_table : List CS := [.par [(.name 2), (.name 3), (.name 4)] [(.call 6 [(.var 0), (.blt .len [(.var 1)])]), (.call 6 [(.var 0), (.blt .len [(.idx (.var 1) (.k (.int (0))))])]), (.call 6 [(.var 0), (.k (.int (8)))])], .par [(.name 5), (.name 6)] [(.idx (.var 1) (.var 2)), (.call 7 [(.var 0), (.lst [(.k (.bool true)), (.k (.bool false)), (.k .none), (.k (.str (Str.ofString "1"))), (.tup [(.k (.int (1)))]), (.lst [(.k (.int (0)))]), .edict, (.bin .Sub (.bin .Pow (.k (.int (10))) (.k (.int (30)))) (.k (.int (1)))), (.bin .Sub (.k (.int (1))) (.bin .Pow (.k (.int (10))) (.k (.int (30))))), (.neg (.k (.int (3)))), (.k (.str (Str.ofString ""))), (.k (.int (0)))])])], .ife (.cmp .Eq (.var 4) (.k (.int (0)))) [.asg (.name 7) (.lst [(.var 1), (.blt .list [(.var 1)]), (.var 5), (.tup []), (.k .none), (.k (.int (5))), (.k (.str (Str.ofString ""))), .edict, (.tup [(.var 1)]), (.tup [(.tup [])]), (.tup [(.tup []), (.tup [])]), (.tup [(.tup [(.k (.int (1))), (.k (.int (2)))]), (.tup [(.k (.int (3)))])]), (.tup [(.tup [(.k (.int (1)))]), (.tup [(.k (.int (2))), (.k (.int (3)))])]), (.k (.bool true)), (.tup [(.k .none)]), (.tup [(.k (.int (5)))])]), .ret (.call 7 [(.var 0), (.bin .Add (.var 7) (.lst [(.blt .tuple [(.comp [8] (.name 8) (.over (.var 1)) none (.blt .list [(.var 8)]))]), (.comp [8] (.name 8) (.over (.var 1)) none (.blt .list [(.var 8)])), (.tup [(.tup [(.k (.int (1))), (.k (.int (2)))]), (.k (.int (3)))]), (.k (.str (Str.ofString "12"))), (.tup [(.lst [(.k (.int (1)))]), (.lst [(.k (.int (2)))])])]))])] [], .ife (.cmp .Lt (.var 4) (.k (.int (3)))) [.ret (.call 12 [(.var 1), (.var 2), (.var 3), (.var 6)])] [], .ife (.cmp .Eq (.var 4) (.k (.int (3)))) [.ret (.bin .Add (.bin .Add (.slc (.var 1) none (some (.var 2))) (.tup [(.call 7 [(.var 0), (.lst [(.slc (.var 5) (some (.k (.int (1)))) none), (.bin .Add (.var 5) (.tup [(.k (.int (0)))])), (.blt .list [(.var 5)]), (.k .none), (.tup []), (.bin .Add (.var 5) (.tup [(.var 6)])), (.var 5)])])])) (.slc (.var 1) (some (.bin .Add (.var 2) (.k (.int (1))))) none))] [], .ife (.cmp .Eq (.var 4) (.k (.int (4)))) [.ret (.bin .Add (.var 1) (.bin .Mult (.slc (.var 1) none (some (.k (.int (1))))) (.call 6 [(.var 0), (.k (.int (9)))])))] [], .ife (.cmp .Eq (.var 4) (.k (.int (5)))) [.ret (.blt .tuple [(.comp [8] (.name 8) (.over (.var 1)) none (.bin .Add (.var 8) (.bin .Mult (.tup [(.k (.int (0)))]) (.bin .Add (.blt .len [(.var 1)]) (.k (.int (1)))))))])] [], .ret (.ife (.cmp .Eq (.var 4) (.k (.int (6)))) (.bin .Add (.var 1) (.tup [(.var 6)])) (.bin .Add (.slc (.var 1) none (some (.var 2))) (.slc (.var 1) (some (.bin .Add (.var 2) (.k (.int (1))))) none)))]
def e__law_near_table : Ent := ⟨"_law_near_table", "_law_near_table", defArgs (top 20), defBody (top 20), defScope (top 20), ["_law_feed_here", "_law_table_here"], ["_law_feed_here", "_law_table_here", "_law_at", "_law_to", "_law_way", "_law_row", "_law_odd", "_law_some", "_law_line"], [], ir__law_near_table⟩
def ir_law : List CS := [.for_ (.name 1) (.range1 (.k (.int (3)))) [.asg (.name 2) (.call 5 [(.var 0), (.var 1)]), .asg (.name 3) (.call 13 [(.var 2)]), .ife (.cmp .NotEq (.blt .repr [(.lst [(.call 4 [(.var 3)]), (.callk 4 [0] [] [(.var 3)])])]) (.blt .repr [(.lst [(.k (.bool true)), (.k (.bool true))])])) [.ret (.k (.bool false))] [], .for_ (.name 4) (.range1 (.k (.int (20)))) [.asg (.name 5) (.call 15 [(.var 2), (.var 3)]), .par [(.name 6), (.name 7)] [(.blt .repr [(.var 5)]), (.call 14 [(.var 5)])], .ife (.or_ (.cmp .NotEq (.blt .repr [(.call 4 [(.var 5)])]) (.blt .repr [(.var 7)])) (.or_ (.cmp .NotEq (.blt .repr [(.callk 4 [0] [] [(.var 5)])]) (.blt .repr [(.var 7)])) (.cmp .NotEq (.blt .repr [(.var 5)]) (.var 6)))) [.ret (.k (.bool false))] []]], .ret (.k (.bool true))]
def e_law : Ent := ⟨"law", "law", defArgs (top 21), defBody (top 21), defScope (top 21), ["_law_script"], ["_law_script", "_law_k", "_law_feed_here", "_law_table_here", "_law_turn", "_law_thing", "_law_held", "_law_due"], [], ir_law⟩
def tab : List Ent := [e_is_integer, e_is_row_of, e_are_integers, e_is_table_form, e_is_table, e__law_feed, e__law_draw, e__law_one, e__law_built, e__law_table, e__law_sized, e__law_loose, e__law_set, e__law_any, e__law_is_table, e__law_near_table, e_law]
theorem t_is_integer : EntT gt e_is_integer := ⟨⟨rfl, rfl, rfl, by decide +kernel, rfl, by decide +kernel, by decide +kernel⟩, by kernel_rfl, by decide, fun _ _ _ _ _ _ us hl => match us, hl with | [_], _ => rfl, by decide +kernel, trivial⟩
theorem t_is_row_of : EntT gt e_is_row_of := ⟨⟨rfl, rfl, rfl, by decide +kernel, rfl, by decide +kernel, by decide +kernel⟩, by kernel_rfl, by decide, fun _ _ _ _ _ _ us hl => match us, hl with | [_, _, _], _ => rfl, by decide +kernel, trivial⟩
theorem t_are_integers : EntT gt e_are_integers := ⟨⟨rfl, rfl, rfl, by decide +kernel, rfl, by decide +kernel, by decide +kernel⟩, by kernel_rfl, by decide, fun _ _ _ _ _ _ us hl => match us, hl with | [_, _], _ => rfl, by decide +kernel, trivial⟩
theorem t_is_table_form : EntT gt e_is_table_form := ⟨⟨rfl, rfl, rfl, by decide +kernel, rfl, by decide +kernel, by decide +kernel⟩, by kernel_rfl, by decide, fun _ _ _ _ _ _ us hl => match us, hl with | [_], _ => rfl, by decide +kernel, trivial⟩
theorem t_is_table : EntT gt e_is_table := ⟨⟨rfl, rfl, rfl, by decide +kernel, rfl, by decide +kernel, by decide +kernel⟩, by kernel_rfl, by decide, fun _ _ _ _ _ _ us hl => match us, hl with | [_], _ => rfl, by decide +kernel, ⟨fun _ _ _ _ _ _ us ws h1 h2 => match us, ws, h1, h2 with | [], [_], _, _ => rfl, trivial⟩⟩
theorem t__law_feed : EntT gt e__law_feed := ⟨⟨rfl, rfl, rfl, by decide +kernel, rfl, by decide +kernel, by decide +kernel⟩, by kernel_rfl, by decide, fun _ _ _ _ _ _ us hl => match us, hl with | [_, _], _ => rfl, by decide +kernel, trivial⟩
theorem t__law_draw : EntT gt e__law_draw := ⟨⟨rfl, rfl, rfl, by decide +kernel, rfl, by decide +kernel, by decide +kernel⟩, by kernel_rfl, by decide, fun _ _ _ _ _ _ us hl => match us, hl with | [_, _], _ => rfl, by decide +kernel, trivial⟩
theorem t__law_one : EntT gt e__law_one := ⟨⟨rfl, rfl, rfl, by decide +kernel, rfl, by decide +kernel, by decide +kernel⟩, by kernel_rfl, by decide, fun _ _ _ _ _ _ us hl => match us, hl with | [_, _], _ => rfl, by decide +kernel, trivial⟩
theorem t__law_built : EntT gt e__law_built := ⟨⟨rfl, rfl, rfl, by decide +kernel, rfl, by decide +kernel, by decide +kernel⟩, by kernel_rfl, by decide, fun _ _ _ _ _ _ us hl => match us, hl with | [_, _, _], _ => rfl, by decide +kernel, trivial⟩
theorem t__law_table : EntT gt e__law_table := ⟨⟨rfl, rfl, rfl, by decide +kernel, rfl, by decide +kernel, by decide +kernel⟩, by kernel_rfl, by decide, fun _ _ _ _ _ _ us hl => match us, hl with | [_, _, _], _ => rfl, by decide +kernel, trivial⟩
theorem t__law_sized : EntT gt e__law_sized := ⟨⟨rfl, rfl, rfl, by decide +kernel, rfl, by decide +kernel, by decide +kernel⟩, by kernel_rfl, by decide, fun _ _ _ _ _ _ us hl => match us, hl with | [_, _, _], _ => rfl, by decide +kernel, trivial⟩
theorem t__law_loose : EntT gt e__law_loose := ⟨⟨rfl, rfl, rfl, by decide +kernel, rfl, by decide +kernel, by decide +kernel⟩, by kernel_rfl, by decide, fun _ _ _ _ _ _ us hl => match us, hl with | [_, _, _], _ => rfl, by decide +kernel, trivial⟩
theorem t__law_set : EntT gt e__law_set := ⟨⟨rfl, rfl, rfl, by decide +kernel, rfl, by decide +kernel, by decide +kernel⟩, by kernel_rfl, by decide, fun _ _ _ _ _ _ us hl => match us, hl with | [_, _, _, _], _ => rfl, by decide +kernel, trivial⟩
theorem t__law_any : EntT gt e__law_any := ⟨⟨rfl, rfl, rfl, by decide +kernel, rfl, by decide +kernel, by decide +kernel⟩, by kernel_rfl, by decide, fun _ _ _ _ _ _ us hl => match us, hl with | [_], _ => rfl, by decide +kernel, trivial⟩
theorem t__law_is_table : EntT gt e__law_is_table := ⟨⟨rfl, rfl, rfl, by decide +kernel, rfl, by decide +kernel, by decide +kernel⟩, by kernel_rfl, by decide, fun _ _ _ _ _ _ us hl => match us, hl with | [_], _ => rfl, by decide +kernel, trivial⟩
theorem t__law_near_table : EntT gt e__law_near_table := ⟨⟨rfl, rfl, rfl, by decide +kernel, rfl, by decide +kernel, by decide +kernel⟩, by kernel_rfl, by decide, fun _ _ _ _ _ _ us hl => match us, hl with | [_, _], _ => rfl, by decide +kernel, trivial⟩
theorem t_law : EntT gt e_law := ⟨⟨rfl, rfl, rfl, by decide +kernel, rfl, by decide +kernel, by decide +kernel⟩, by kernel_rfl, by decide, fun _ _ _ _ _ _ us hl => match us, hl with | [_], _ => rfl, by decide +kernel, trivial⟩
def fa : List He.Fa := [.glo "is_integer", .glo "is_row_of", .glo "are_integers", .glo "is_table_form", .glo "is_table", .glo "_law_feed", .glo "_law_draw", .glo "_law_one", .glo "_law_built", .glo "_law_table", .glo "_law_sized", .glo "_law_loose", .glo "_law_set", .glo "_law_any", .glo "_law_is_table", .glo "_law_near_table", .glo "law", .free "isinstance", .free "int", .free "bool", .free "tuple", .free "len", .free "all", .free "sum", .free "max", .free "enumerate", .free "range", .free "list", .free "repr", .int "MOST_ROWS" (8)]
def fn : List He.DefD := tab.map Ent.dd
def cv (K : PySem.W.Frag) (i : Nat) : Value := .ref (He.ga K (([] : List Str).getD i ""))
abbrev R : PySem.W.OpenRow := PySem.W.OpenLaw.row PySem.Challenge.rw_straightleast_k01_what_is_a_table
abbrev hk : PySem.W.Hook := hookS 4 fa fn
def ob (s : PySem.W.SharedT) : AlS := obsSG 4 fa fn (HandSHeadRun.getT s)
theorem ob_eq (s : PySem.W.SharedT) : ob s = hk.obs s.abs := obsSG_eq (HandSHeadRun.getT_eq s)
theorem run (w : World) : HandSHeadRun.RunEq R (PySem.W.view R.prog [21]) hk ob 3000 ["is_integer", "is_row_of", "are_integers", "MOST_ROWS", "is_table_form", "is_table", "_law_feed", "_law_draw", "_law_one", "_law_built", "_law_table", "_law_sized", "_law_loose", "_law_set", "_law_any", "_law_is_table", "_law_near_table"] w := by
  intro os
  kernel_rfl
theorem gtok {K : PySem.W.Frag} {h : Heap} {mg : Str → Option Value} (X : K.In h) (Gh : h.Ns mainGlobals mg) (c : SaysS fa fn K) : GtOk K mg (cv K) gt tab := by
  obtain ⟨fd_is_integer, F_is_integer⟩ := c.d.def_ 0 (d := e_is_integer.dd) rfl
  obtain ⟨fd_is_row_of, F_is_row_of⟩ := c.d.def_ 1 (d := e_is_row_of.dd) rfl
  obtain ⟨fd_are_integers, F_are_integers⟩ := c.d.def_ 2 (d := e_are_integers.dd) rfl
  obtain ⟨fd_is_table_form, F_is_table_form⟩ := c.d.def_ 3 (d := e_is_table_form.dd) rfl
  obtain ⟨fd_is_table, F_is_table⟩ := c.d.def_ 4 (d := e_is_table.dd) rfl
  obtain ⟨fd__law_feed, F__law_feed⟩ := c.d.def_ 5 (d := e__law_feed.dd) rfl
  obtain ⟨fd__law_draw, F__law_draw⟩ := c.d.def_ 6 (d := e__law_draw.dd) rfl
  obtain ⟨fd__law_one, F__law_one⟩ := c.d.def_ 7 (d := e__law_one.dd) rfl
  obtain ⟨fd__law_built, F__law_built⟩ := c.d.def_ 8 (d := e__law_built.dd) rfl
  obtain ⟨fd__law_table, F__law_table⟩ := c.d.def_ 9 (d := e__law_table.dd) rfl
  obtain ⟨fd__law_sized, F__law_sized⟩ := c.d.def_ 10 (d := e__law_sized.dd) rfl
  obtain ⟨fd__law_loose, F__law_loose⟩ := c.d.def_ 11 (d := e__law_loose.dd) rfl
  obtain ⟨fd__law_set, F__law_set⟩ := c.d.def_ 12 (d := e__law_set.dd) rfl
  obtain ⟨fd__law_any, F__law_any⟩ := c.d.def_ 13 (d := e__law_any.dd) rfl
  obtain ⟨fd__law_is_table, F__law_is_table⟩ := c.d.def_ 14 (d := e__law_is_table.dd) rfl
  obtain ⟨fd__law_near_table, F__law_near_table⟩ := c.d.def_ 15 (d := e__law_near_table.dd) rfl
  obtain ⟨fd_law, F_law⟩ := c.d.def_ 16 (d := e_law.dd) rfl
  exact GtOk.mk' (⟨⟨e_is_integer, _, fd_is_integer, rfl, rfl, t_is_integer, F_is_integer, He.glo_ok X Gh (c.d.fact 0 (f := .glo "is_integer") rfl)⟩, ⟨⟨e_is_row_of, _, fd_is_row_of, rfl, rfl, t_is_row_of, F_is_row_of, He.glo_ok X Gh (c.d.fact 1 (f := .glo "is_row_of") rfl)⟩, ⟨⟨e_are_integers, _, fd_are_integers, rfl, rfl, t_are_integers, F_are_integers, He.glo_ok X Gh (c.d.fact 2 (f := .glo "are_integers") rfl)⟩, ⟨⟨e_is_table_form, _, fd_is_table_form, rfl, rfl, t_is_table_form, F_is_table_form, He.glo_ok X Gh (c.d.fact 3 (f := .glo "is_table_form") rfl)⟩, ⟨⟨e_is_table, _, fd_is_table, rfl, rfl, t_is_table, F_is_table, He.glo_ok X Gh (c.d.fact 4 (f := .glo "is_table") rfl)⟩, ⟨⟨e__law_feed, _, fd__law_feed, rfl, rfl, t__law_feed, F__law_feed, He.glo_ok X Gh (c.d.fact 5 (f := .glo "_law_feed") rfl)⟩, ⟨⟨e__law_draw, _, fd__law_draw, rfl, rfl, t__law_draw, F__law_draw, He.glo_ok X Gh (c.d.fact 6 (f := .glo "_law_draw") rfl)⟩, ⟨⟨e__law_one, _, fd__law_one, rfl, rfl, t__law_one, F__law_one, He.glo_ok X Gh (c.d.fact 7 (f := .glo "_law_one") rfl)⟩, ⟨⟨e__law_built, _, fd__law_built, rfl, rfl, t__law_built, F__law_built, He.glo_ok X Gh (c.d.fact 8 (f := .glo "_law_built") rfl)⟩, ⟨⟨e__law_table, _, fd__law_table, rfl, rfl, t__law_table, F__law_table, He.glo_ok X Gh (c.d.fact 9 (f := .glo "_law_table") rfl)⟩, ⟨⟨e__law_sized, _, fd__law_sized, rfl, rfl, t__law_sized, F__law_sized, He.glo_ok X Gh (c.d.fact 10 (f := .glo "_law_sized") rfl)⟩, ⟨⟨e__law_loose, _, fd__law_loose, rfl, rfl, t__law_loose, F__law_loose, He.glo_ok X Gh (c.d.fact 11 (f := .glo "_law_loose") rfl)⟩, ⟨⟨e__law_set, _, fd__law_set, rfl, rfl, t__law_set, F__law_set, He.glo_ok X Gh (c.d.fact 12 (f := .glo "_law_set") rfl)⟩, ⟨⟨e__law_any, _, fd__law_any, rfl, rfl, t__law_any, F__law_any, He.glo_ok X Gh (c.d.fact 13 (f := .glo "_law_any") rfl)⟩, ⟨⟨e__law_is_table, _, fd__law_is_table, rfl, rfl, t__law_is_table, F__law_is_table, He.glo_ok X Gh (c.d.fact 14 (f := .glo "_law_is_table") rfl)⟩, ⟨⟨e__law_near_table, _, fd__law_near_table, rfl, rfl, t__law_near_table, F__law_near_table, He.glo_ok X Gh (c.d.fact 15 (f := .glo "_law_near_table") rfl)⟩, ⟨⟨e_law, _, fd_law, rfl, rfl, t_law, F_law, He.glo_ok X Gh (c.d.fact 16 (f := .glo "law") rfl)⟩, trivial⟩⟩⟩⟩⟩⟩⟩⟩⟩⟩⟩⟩⟩⟩⟩⟩⟩)
    (⟨(let ⟨t, ht⟩ := He.int_ok X Gh (c.d.fact 29 (f := .int "MOST_ROWS" (8)) rfl); ⟨.int (8), _, ht, ⟨t, rfl⟩, fun _ => .int _⟩), trivial⟩)
    (⟨He.free_ok X Gh (c.d.fact 17 (f := .free "isinstance") rfl), ⟨He.free_ok X Gh (c.d.fact 18 (f := .free "int") rfl), ⟨He.free_ok X Gh (c.d.fact 19 (f := .free "bool") rfl), ⟨He.free_ok X Gh (c.d.fact 20 (f := .free "tuple") rfl), ⟨He.free_ok X Gh (c.d.fact 21 (f := .free "len") rfl), ⟨He.free_ok X Gh (c.d.fact 22 (f := .free "all") rfl), ⟨He.free_ok X Gh (c.d.fact 23 (f := .free "sum") rfl), ⟨He.free_ok X Gh (c.d.fact 24 (f := .free "max") rfl), ⟨He.free_ok X Gh (c.d.fact 25 (f := .free "enumerate") rfl), ⟨He.free_ok X Gh (c.d.fact 26 (f := .free "range") rfl), ⟨He.free_ok X Gh (c.d.fact 27 (f := .free "list") rfl), ⟨He.free_ok X Gh (c.d.fact 28 (f := .free "repr") rfl), trivial⟩⟩⟩⟩⟩⟩⟩⟩⟩⟩⟩⟩)
    (trivial) c.sys
def fuel : Nat := 2 ^ 64
def cf : Nat → Nat → List Sl → Cr.CR := callN (ftOf tab) fuel
/-- what is left: the core's run of the law answers True -/
def Goal : Prop := ∀ ns : List Int, ns.length ≤ 63 → ∃ o, cf 12 16 [.val (.list (ns.map .int))] = .ret (.fz (.bool true)) o
theorem holds (goal : Goal) : PySem.Challenge.rw_straightleast_k01_what_is_a_table.Holds := by
  w_on; o_law
  refine HandSHeadRun.head_any (r := PySem.W.OpenLaw.row PySem.Challenge.rw_straightleast_k01_what_is_a_table) (q := PySem.W.view (PySem.W.OpenLaw.row PySem.Challenge.rw_straightleast_k01_what_is_a_table).prog [21]) (H := hk) (ob := ob) (M := 3000) (loose := ["is_integer", "is_row_of", "are_integers", "MOST_ROWS", "is_table_form", "is_table", "_law_feed", "_law_draw", "_law_one", "_law_built", "_law_table", "_law_sized", "_law_loose", "_law_set", "_law_any", "_law_is_table", "_law_near_table"]) (d := HandSHeadRun.topDef (PySem.W.OpenLaw.row PySem.Challenge.rw_straightleast_k01_what_is_a_table).prog 21) (kwd := []) ob_eq
    (by kernel_rfl) (fun s => by kernel_rfl) run (by kernel_rfl) (by kernel_rfl) (by kernel_rfl) (by rfl) (by first | assumption | decide +kernel) (by decide +kernel) ⟨rfl, rfl, rfl, rfl, rfl, by decide +kernel⟩ ?hw ?hc
  case hw => w_witness2
  case hc =>
    refine walkG (l := PySem.Challenge.rw_straightleast_k01_what_is_a_table) (n := 63) (k := 12) (x := "_law_script") rfl (by decide) (by kernel_rfl) ⟨rfl, by decide, by decide⟩ ?F
    intro w mg fa' h Y Gh hmg0
    obtain ⟨K, KX, c⟩ := Y
    have hmg : mg ("law" : PySem.Str) = some (.ref fa') := by
      have e : (HandSHeadRun.topDef (PySem.W.OpenLaw.row PySem.Challenge.rw_straightleast_k01_what_is_a_table).prog 21).name = ("law" : PySem.Str) := by kernel_rfl
      rw [← e]
      exact hmg0
    obtain ⟨fd, F⟩ := c.d.def_ 16 (d := e_law.dd) rfl
    have e := hmg.symm.trans (He.glo_ok KX Gh (c.d.fact 16 (f := .glo "law") rfl))
    cases e
    have b := binds_of t_law F
    refine ⟨K, fd, spC K (cv K) (cf 12 16), KX, fun a o => c.nol, fun s u => ?_, fun H a ns hl hS => sp_law hS (goal ns hl), fun base KB GB => ?_⟩
    · have b' := FunD.bindsA F t_law.binds s [u] rfl
      exact b'
    · exact tab_ok (.inr fun _ => rfl) (gtok KB GB c) 12 "law" 16 e_law _ fd rfl rfl t_law F
end Cr.k01
set_option Elab.async false
set_option linter.all false
set_option maxRecDepth 100000
set_option maxHeartbeats 4000000
namespace Cr.k01
open PySem
local macro_rules | `(tactic| trivial) => `(tactic| dsimp only)
local macro_rules | `(tactic| trivial) => `(tactic| first
  | (refine ⟨_, rfl, ?_⟩; done) | (refine ⟨_, by with_unfolding_all rfl, ?_⟩) | (refine ⟨_, _, by with_unfolding_all rfl, by with_unfolding_all rfl, ?_⟩) | (refine ⟨_, _, _, _, by with_unfolding_all rfl, by with_unfolding_all rfl, by with_unfolding_all rfl, ?_⟩)
  | (refine ⟨_, by with_unfolding_all rfl, ok63_of (by omega) (by omega), ?_⟩) | (refine ⟨_, _, by with_unfolding_all rfl, by with_unfolding_all rfl, ⟨ok63_of (by omega) (by omega), ok63_of (by omega) (by omega)⟩, ?_⟩)
  | (refine ⟨⟨by with_unfolding_all rfl, by decide⟩, ?_⟩) | (refine ⟨⟨by with_unfolding_all rfl, by with_unfolding_all rfl⟩, ?_⟩))
local macro_rules | `(tactic| trivial) => `(tactic| with_reducible first
  | apply w_S1 | apply w_S0 | apply w_asg | apply w_ret | apply w_ifS | apply w_for | apply w_ex | apply w_par | apply w_pass
  | apply w_bin | apply w_idx | apply w_cmp | apply w_call | apply w_callk | apply w_blt | apply w_k | apply w_glob | apply w_tup | apply w_lst | apply w_and | apply w_or | apply w_not | apply w_ife | apply w_isi | apply w_slc | apply w_rev | apply w_neg | apply w_chain | apply w_edict | apply w_comp
  | apply w_L1 | apply w_L0 | apply w_O1 | apply w_O0 | apply w_A1 | apply w_A0 | apply w_R1 | apply w_R0 | apply w_P1 | apply w_P0 | apply w_over | apply w_rng1 | apply w_rng2 | apply w_enum | apply w_zip
  | apply w_g1 | apply w_g0 | apply w_tstR
  | (apply w_var; with_unfolding_all rfl) | (apply w_opV; with_unfolding_all rfl) | (apply w_op; with_unfolding_all rfl) | (apply w_arM; with_unfolding_all rfl) | (apply w_arV; with_unfolding_all rfl) | (apply w_arF; with_unfolding_all rfl) | (apply w_ar; with_unfolding_all rfl)
  | (apply w_tstB; with_unfolding_all rfl) | (apply w_tstO; with_unfolding_all rfl)
  | (apply w_gN; with_unfolding_all rfl) | (apply w_gS; with_unfolding_all rfl) | (apply w_gT; with_unfolding_all rfl; with_unfolding_all rfl)
  | (apply w_retM; with_unfolding_all rfl) | (apply w_retV; with_unfolding_all rfl) | (apply w_retE; with_unfolding_all rfl)
  | (apply w_mm; with_unfolding_all rfl)
  | (apply w_iteT; first | with_unfolding_all rfl | assumption | exact decide_eq_true (by first | assumption | omega)) | (apply w_iteF; first | with_unfolding_all rfl | assumption | exact decide_eq_false (by first | assumption | omega)))
local macro_rules | `(tactic| trivial) => `(tactic| first
  | ((with_reducible apply w_two); (with_unfolding_all rfl); (with_unfolding_all rfl); (first | exact b_mul (by first | assumption | exact mulOk_l (by omega) (by omega) | exact mulOk_r (by omega) (by omega) | exact mulOk_b 200 200 (by omega) (by omega) (by decide) (by decide) (by decide)) | exact b_div (by omega) (by omega) | exact b_mod (by omega) | exact b_pow (by decide) (by decide) (by decide) (by simp; rfl) | with_unfolding_all rfl))
  | ((with_reducible apply w_one); (with_unfolding_all rfl); (with_unfolding_all rfl))
  | ((with_reducible apply w_many); (with_unfolding_all rfl); (with_unfolding_all rfl)))

theorem cf_s (n i : Nat) (e : Ent) (h : tab[i]? = some e) : cf (n + 1) i = runD (cf n) fuel e.fd := by
  funext as
  show (match ftOf tab i with | some fd => runD (callN (ftOf tab) fuel n) fuel fd as | none => .er) = _
  unfold ftOf
  rw [h]
  rfl
def isI : D → Bool
  | .int _ => true
  | _ => false
theorem f0 (n : Nat) (d : D) : cf (n + 1) 0 [.val d] = .ret (.fz (.bool (isI d))) [.val d] := by
  rw [cf_s n 0 e_is_integer rfl]
  cases d <;> rfl
def rowOf (d : D) (a b : Int) : Bool := match d with
  | .tuple xs => decide (a ≤ (xs.length : Int)) && decide ((xs.length : Int) ≤ b)
  | _ => false
theorem f1 (n : Nat) (d : D) (a b : Int) : cf (n + 1) 1 [.val d, .val (.int a), .val (.int b)] = .ret (.fz (.bool (rowOf d a b))) [.val d, .val (.int a), .val (.int b)] := by
  rw [cf_s n 1 e_is_row_of rfl]
  cases d with
  | tuple xs =>
    have : ∃ r o, runD (cf n) fuel e_is_row_of.fd [.val (.tuple xs), .val (.int a), .val (.int b)] = .ret r o ∧ r = .fz (.bool (rowOf (.tuple xs) a b)) ∧ o = [.val (.tuple xs), .val (.int a), .val (.int b)] := by
      refine run_ok rfl ?_
      show Wp (evSs (cf n) fuel ir_is_row_of [.val (.tuple xs), .val (.int a), .val (.int b)]) _
      unfold ir_is_row_of
      by_cases h : a ≤ (xs.length : Int)
      · repeat trivial
        refine ⟨rfl, ?_, rfl⟩
        simp [rowOf, h]
      · repeat trivial
        refine ⟨rfl, ?_, rfl⟩
        simp [rowOf, h]
    obtain ⟨r, o, h, rfl, rfl⟩ := this
    exact h
  | _ => rfl
def rowI (d : D) (m : Int) : Bool := rowOf d m m && (match d with
  | .tuple xs => xs.all isI
  | _ => false)
theorem boolsD_map {α : Type} (p : α → Bool) : ∀ xs : List α, boolsD (xs.map fun x => .bool (p x)) = some (xs.map p)
  | [] => rfl
  | x :: xs => by
    show (boolsD (xs.map fun x => .bool (p x))).map (p x :: ·) = _
    rw [boolsD_map p xs]
    rfl
theorem b_all {α : Type} (p : α → Bool) (xs : List α) : bltD .all [.list (xs.map fun x => .bool (p x))] = some (.fz (.bool (xs.all p))) := by
  rw [blt_all, boolsD_map]
  simp [Function.comp_def]
theorem f2 (n : Nat) (d : D) (m : Int) (hs : ∀ xs, d = .tuple xs → xs.length ≤ 1000) : cf (n + 2) 2 [.val d, .val (.int m)] = .ret (.fz (.bool (rowI d m))) [.val d, .val (.int m)] := by
  rw [cf_s (n + 1) 2 e_are_integers rfl]
  have : ∃ r o, runD (cf (n + 1)) fuel e_are_integers.fd [.val d, .val (.int m)] = .ret r o ∧ r = .fz (.bool (rowI d m)) ∧ o = [.val d, .val (.int m)] := by
    refine run_ok rfl ?_
    show Wp (evSs (cf (n + 1)) fuel ir_are_integers [.val d, .val (.int m), .un]) _
    unfold ir_are_integers
    repeat trivial
    refine w_callR (by with_unfolding_all rfl) (by first | exact List.nodup_nil | exact List.nodup_singleton _) rfl (f1 n d m m) ?_
    cases h : rowOf d m m with
    | true =>
      repeat trivial
      cases d with
      | tuple xs =>
        have hx := hs xs rfl
        repeat trivial
        refine (comp_mapI (e := [.val (.tuple xs), .val (.int m), .un]) (fun x => .bool (isI x)) xs [] (fun x hx => ?_) ?_).mono ?_
        · repeat trivial
          refine w_callR (by with_unfolding_all rfl) List.nodup_nil rfl (f0 n x) ?_
          exact ⟨rfl, rfl⟩
        · rw [sizeLine_eq]
          simp
          omega
        · rintro acc e2 ⟨rfl, rfl⟩
          repeat trivial
          refine w_many (by with_unfolding_all rfl) (b_all isI xs) ?_
          refine ⟨rfl, ?_, rfl⟩
          simp [rowI, h]
      | _ => cases h
    | false =>
      repeat trivial
      refine ⟨rfl, ?_, rfl⟩
      simp [rowI, h]
  obtain ⟨r, o, h, rfl, rfl⟩ := this
  exact h
end Cr.k01
set_option Elab.async false
set_option linter.all false
set_option maxRecDepth 100000
set_option maxHeartbeats 4000000
namespace Cr.k01
open PySem
local macro_rules | `(tactic| trivial) => `(tactic| dsimp only)
local macro_rules | `(tactic| trivial) => `(tactic| first
  | (refine ⟨_, rfl, ?_⟩; done) | (refine ⟨_, by with_unfolding_all rfl, ?_⟩) | (refine ⟨_, _, by with_unfolding_all rfl, by with_unfolding_all rfl, ?_⟩) | (refine ⟨_, _, _, _, by with_unfolding_all rfl, by with_unfolding_all rfl, by with_unfolding_all rfl, ?_⟩)
  | (refine ⟨_, by with_unfolding_all rfl, ok63_of (by omega) (by omega), ?_⟩) | (refine ⟨_, _, by with_unfolding_all rfl, by with_unfolding_all rfl, ⟨ok63_of (by omega) (by omega), ok63_of (by omega) (by omega)⟩, ?_⟩)
  | (refine ⟨⟨by with_unfolding_all rfl, by decide⟩, ?_⟩) | (refine ⟨⟨by with_unfolding_all rfl, by with_unfolding_all rfl⟩, ?_⟩))
local macro_rules | `(tactic| trivial) => `(tactic| with_reducible first
  | apply w_S1 | apply w_S0 | apply w_asg | apply w_ret | apply w_ifS | apply w_for | apply w_ex | apply w_par | apply w_pass
  | apply w_bin | apply w_idx | apply w_cmp | apply w_call | apply w_callk | apply w_blt | apply w_k | apply w_glob | apply w_tup | apply w_lst | apply w_and | apply w_or | apply w_not | apply w_ife | apply w_isi | apply w_slc | apply w_rev | apply w_neg | apply w_chain | apply w_edict | apply w_comp
  | apply w_L1 | apply w_L0 | apply w_O1 | apply w_O0 | apply w_A1 | apply w_A0 | apply w_R1 | apply w_R0 | apply w_P1 | apply w_P0 | apply w_over | apply w_rng1 | apply w_rng2 | apply w_enum | apply w_zip
  | apply w_g1 | apply w_g0 | apply w_tstR
  | (apply w_var; with_unfolding_all rfl) | (apply w_opV; with_unfolding_all rfl) | (apply w_op; with_unfolding_all rfl) | (apply w_arM; with_unfolding_all rfl) | (apply w_arV; with_unfolding_all rfl) | (apply w_arF; with_unfolding_all rfl) | (apply w_ar; with_unfolding_all rfl)
  | (apply w_tstB; with_unfolding_all rfl) | (apply w_tstO; with_unfolding_all rfl)
  | (apply w_gN; with_unfolding_all rfl) | (apply w_gS; with_unfolding_all rfl) | (apply w_gT; with_unfolding_all rfl; with_unfolding_all rfl)
  | (apply w_retM; with_unfolding_all rfl) | (apply w_retV; with_unfolding_all rfl) | (apply w_retE; with_unfolding_all rfl)
  | (apply w_mm; with_unfolding_all rfl)
  | (apply w_iteT; first | with_unfolding_all rfl | assumption | exact decide_eq_true (by first | assumption | omega)) | (apply w_iteF; first | with_unfolding_all rfl | assumption | exact decide_eq_false (by first | assumption | omega)))
local macro_rules | `(tactic| trivial) => `(tactic| first
  | ((with_reducible apply w_two); (with_unfolding_all rfl); (with_unfolding_all rfl); (first | exact b_mul (by first | assumption | exact mulOk_l (by omega) (by omega) | exact mulOk_r (by omega) (by omega) | exact mulOk_b 200 200 (by omega) (by omega) (by decide) (by decide) (by decide)) | exact b_div (by omega) (by omega) | exact b_mod (by omega) | exact b_pow (by decide) (by decide) (by decide) (by simp; rfl) | with_unfolding_all rfl))
  | ((with_reducible apply w_one); (with_unfolding_all rfl); (with_unfolding_all rfl))
  | ((with_reducible apply w_many); (with_unfolding_all rfl); (with_unfolding_all rfl)))

/-- is it a table's form -/
def formB (d : D) : Bool := match d with
  | .tuple (r0 :: rs) => decide (rs.length < 8) && (match r0 with
    | .tuple xs => decide (1 ≤ xs.length) && decide (xs.length ≤ 8) && (r0 :: rs).all fun r => rowI r xs.length
    | _ => false)
  | _ => false
/-- no tuple in it, or beneath it, is longer than a thousand -/
def Nrw (d : D) : Prop := (∀ xs, d = .tuple xs → xs.length ≤ 1000) ∧ ∀ xs x, d = .tuple xs → x ∈ xs → ∀ ys, x = .tuple ys → ys.length ≤ 1000
theorem row_ne {d : D} (h : rowOf d 1 8 = true) : ∃ x xs, d = .tuple (x :: xs) ∧ xs.length < 8 := by
  cases d with
  | tuple xs =>
    cases xs with
    | nil => cases h
    | cons x xs =>
      refine ⟨x, xs, rfl, ?_⟩
      simp [rowOf] at h
      omega
  | _ => cases h
theorem f3_f (d : D) (h : rowOf d 1 8 = false) : formB d = false := by
  cases d with
  | tuple xs =>
    cases xs with
    | nil => rfl
    | cons x xs =>
      simp only [rowOf, List.length_cons] at h
      have : ¬ xs.length < 8 := by
        intro hh
        simp at h
        omega
      simp [formB, this]
  | _ => rfl
theorem f3_f2 (x : D) (xs : List D) (h : rowOf x 1 8 = false) : formB (.tuple (x :: xs)) = false := by
  cases x with
  | tuple ys =>
    simp [rowOf] at h
    simp [formB]
    intros
    omega
  | _ => simp [formB]
theorem f3 (n : Nat) (d : D) (hd : Nrw d) : cf (n + 3) 3 [.val d] = .ret (.fz (.bool (formB d))) [.val d] := by
  rw [cf_s (n + 2) 3 e_is_table_form rfl]
  have : ∃ r o, runD (cf (n + 2)) fuel e_is_table_form.fd [.val d] = .ret r o ∧ r = .fz (.bool (formB d)) ∧ o = [.val d] := by
    refine run_ok rfl ?_
    show Wp (evSs (cf (n + 2)) fuel ir_is_table_form [.val d, .un]) _
    unfold ir_is_table_form
    repeat trivial
    refine w_callR (by with_unfolding_all rfl) List.nodup_nil rfl (f1 (n + 1) d 1 8) ?_
    cases h : rowOf d 1 8 with
    | false =>
      repeat trivial
      refine ⟨rfl, ?_, rfl⟩
      simp [f3_f d h]
    | true =>
      obtain ⟨x, xs, rfl, hx⟩ := row_ne h
      have hx0 := i_T0 x xs
      repeat trivial
      refine w_two (by with_unfolding_all rfl) (by with_unfolding_all rfl) hx0 ?_
      repeat trivial
      refine w_callR (by with_unfolding_all rfl) List.nodup_nil rfl (f1 (n + 1) x 1 8) ?_
      cases h2 : rowOf x 1 8 with
      | false =>
        repeat trivial
        refine ⟨rfl, ?_, rfl⟩
        simp [f3_f2 x xs h2]
      | true =>
        obtain ⟨y, ys, rfl, hy⟩ := row_ne h2
        repeat trivial
        refine (comp_mapI (e := [.val (.tuple (.tuple (y :: ys) :: xs)), .un]) (fun r => .bool (rowI r ((y :: ys).length : Int))) (.tuple (y :: ys) :: xs) [] (fun r hr => ?_) ?_).mono ?_
        · repeat trivial
          refine w_two (by with_unfolding_all rfl) (by with_unfolding_all rfl) (i_T0 _ xs) ?_
          repeat trivial
          refine w_callR (by with_unfolding_all rfl) List.nodup_nil rfl (f2 n r ((y :: ys).length : Int) (fun zs e => hd.2 _ r rfl hr zs e)) ?_
          exact ⟨rfl, rfl⟩
        · rw [sizeLine_eq]
          simp
          omega
        · rintro acc e2 ⟨rfl, rfl⟩
          repeat trivial
          refine w_many (by with_unfolding_all rfl) (b_all _ _) ?_
          refine ⟨rfl, ?_, rfl⟩
          simp [formB, hx, hy, Nat.succ_le_of_lt hy]
  obtain ⟨r, o, h, rfl, rfl⟩ := this
  exact h
end Cr.k01
set_option Elab.async false
set_option linter.all false
set_option maxRecDepth 100000
set_option maxHeartbeats 4000000
namespace Cr.k01
open PySem
local macro_rules | `(tactic| trivial) => `(tactic| dsimp only)
local macro_rules | `(tactic| trivial) => `(tactic| first
  | (refine ⟨_, rfl, ?_⟩; done) | (refine ⟨_, by with_unfolding_all rfl, ?_⟩) | (refine ⟨_, _, by with_unfolding_all rfl, by with_unfolding_all rfl, ?_⟩) | (refine ⟨_, _, _, _, by with_unfolding_all rfl, by with_unfolding_all rfl, by with_unfolding_all rfl, ?_⟩)
  | (refine ⟨_, by with_unfolding_all rfl, ok63_of (by omega) (by omega), ?_⟩) | (refine ⟨_, _, by with_unfolding_all rfl, by with_unfolding_all rfl, ⟨ok63_of (by omega) (by omega), ok63_of (by omega) (by omega)⟩, ?_⟩)
  | (refine ⟨⟨by with_unfolding_all rfl, by decide⟩, ?_⟩) | (refine ⟨⟨by with_unfolding_all rfl, by with_unfolding_all rfl⟩, ?_⟩))
local macro_rules | `(tactic| trivial) => `(tactic| with_reducible first
  | apply w_S1 | apply w_S0 | apply w_asg | apply w_ret | apply w_ifS | apply w_for | apply w_ex | apply w_par | apply w_pass
  | apply w_bin | apply w_idx | apply w_cmp | apply w_call | apply w_callk | apply w_blt | apply w_k | apply w_glob | apply w_tup | apply w_lst | apply w_and | apply w_or | apply w_not | apply w_ife | apply w_isi | apply w_slc | apply w_rev | apply w_neg | apply w_chain | apply w_edict | apply w_comp
  | apply w_L1 | apply w_L0 | apply w_O1 | apply w_O0 | apply w_A1 | apply w_A0 | apply w_R1 | apply w_R0 | apply w_P1 | apply w_P0 | apply w_over | apply w_rng1 | apply w_rng2 | apply w_enum | apply w_zip
  | apply w_g1 | apply w_g0 | apply w_tstR
  | (apply w_var; with_unfolding_all rfl) | (apply w_opV; with_unfolding_all rfl) | (apply w_op; with_unfolding_all rfl) | (apply w_arM; with_unfolding_all rfl) | (apply w_arV; with_unfolding_all rfl) | (apply w_arF; with_unfolding_all rfl) | (apply w_ar; with_unfolding_all rfl)
  | (apply w_tstB; with_unfolding_all rfl) | (apply w_tstO; with_unfolding_all rfl)
  | (apply w_gN; with_unfolding_all rfl) | (apply w_gS; with_unfolding_all rfl) | (apply w_gT; with_unfolding_all rfl; with_unfolding_all rfl)
  | (apply w_retM; with_unfolding_all rfl) | (apply w_retV; with_unfolding_all rfl) | (apply w_retE; with_unfolding_all rfl)
  | (apply w_mm; with_unfolding_all rfl)
  | (apply w_iteT; first | with_unfolding_all rfl | assumption | exact decide_eq_true (by first | assumption | omega)) | (apply w_iteF; first | with_unfolding_all rfl | assumption | exact decide_eq_false (by first | assumption | omega)))
local macro_rules | `(tactic| trivial) => `(tactic| first
  | ((with_reducible apply w_two); (with_unfolding_all rfl); (with_unfolding_all rfl); (first | exact b_mul (by first | assumption | exact mulOk_l (by omega) (by omega) | exact mulOk_r (by omega) (by omega) | exact mulOk_b 200 200 (by omega) (by omega) (by decide) (by decide) (by decide)) | exact b_div (by omega) (by omega) | exact b_mod (by omega) | exact b_pow (by decide) (by decide) (by decide) (by simp; rfl) | with_unfolding_all rfl))
  | ((with_reducible apply w_one); (with_unfolding_all rfl); (with_unfolding_all rfl))
  | ((with_reducible apply w_many); (with_unfolding_all rfl); (with_unfolding_all rfl)))


theorem f4 (n : Nat) (d : D) (hd : Nrw d) : cf (n + 4) 4 [.val d] = .ret (.fz (.bool (formB d))) [.val d] := by
  rw [cf_s (n + 3) 4 e_is_table rfl]
  have : ∃ r o, runD (cf (n + 3)) fuel e_is_table.fd [.val d] = .ret r o ∧ r = .fz (.bool (formB d)) ∧ o = [.val d] := by
    refine run_ok rfl ?_
    show Wp (evSs (cf (n + 3)) fuel ir_is_table [.val d]) _
    unfold ir_is_table
    repeat trivial
    refine w_callR (by with_unfolding_all rfl) List.nodup_nil rfl (f3 n d hd) ?_
    exact ⟨rfl, rfl, rfl⟩
  obtain ⟨r, o, h, rfl, rfl⟩ := this
  exact h
theorem intsD_of : ∀ l : List Int, intsD (l.map PyData.int) = some l
  | [] => rfl
  | x :: xs => by
    show (intsD (xs.map PyData.int)).map (x :: ·) = _
    rw [intsD_of xs]
    rfl
theorem b_sum (l : List Int) : bltD .sum [.list (l.map PyData.int)] = some (.fz (.int l.sum)) := by
  rw [blt_sum, intsD_of]; rfl
theorem feed_mk (c k : Int) : Feed 1000000 (.list [.int (if c - 10 ^ 18 > 0 then c - 10 ^ 18 else 0), .int ((c * 19 + 7 * k) % (10 ^ 39 + 23)), .int 0]) := by
  refine ⟨_, _, _, rfl, by split <;> omega, Int.emod_nonneg _ (by decide), Int.emod_lt_of_pos _ (by decide), by decide, by decide⟩
theorem f5 (n : Nat) (ns : List Int) (k : Int) (hk : 0 ≤ k) (hk2 : k < 1000) (hn : ns.length ≤ 63) : ∃ d, cf (n + 1) 5 [.val (.list (ns.map .int)), .val (.int k)] = .ret (.fr d) [.val (.list (ns.map .int)), .val (.int k)] ∧ Feed 1000000 d := by
  rw [cf_s n 5 e__law_feed rfl]
  have : ∃ r o, runD (cf n) fuel e__law_feed.fd [.val (.list (ns.map .int)), .val (.int k)] = .ret r o ∧ ∃ d, r = .fr d ∧ o = [.val (.list (ns.map .int)), .val (.int k)] ∧ Feed 1000000 d := by
    refine run_ok rfl ?_
    show Wp (evSs (cf n) fuel ir__law_feed [.val (.list (ns.map .int)), .val (.int k), .un]) _
    unfold ir__law_feed
    repeat trivial
    have hs : bltD .sum [.list (cutD (ns.map PyData.int) none (some 1))] = some (.fz (.int (ns.take 1).sum)) := by
      rw [cut_to (by decide), ← List.map_take]
      exact b_sum _
    refine w_many (by with_unfolding_all rfl) hs ?_
    by_cases hx : k < (ns.length : Int)
    · have hi : k.toNat < ns.length := by omega
      have hx2 : (ns.map PyData.int)[k.toNat]? = some (.int ns[k.toNat]) := by
        rw [List.getElem?_map, List.getElem?_eq_getElem hi]; rfl
      repeat trivial
      rw [List.length_map]
      repeat trivial
      refine w_two (by with_unfolding_all rfl) (by with_unfolding_all rfl) (i_L hk hx2) ?_
      repeat trivial
      refine ⟨sz (by simp), ?_⟩
      repeat trivial
      first | exact feed_mk _ _ | exact ⟨rfl, feed_mk _ _⟩
    · repeat trivial
      rw [List.length_map]
      repeat trivial
      refine ⟨sz (by simp), ?_⟩
      repeat trivial
      first | exact feed_mk _ _ | exact ⟨rfl, feed_mk _ _⟩
  obtain ⟨r, o, h, d, rfl, rfl, hd⟩ := this
  exact ⟨d, h, hd⟩
theorem f6 (n : Nat) {m : Nat} {d : D} {many : Int} (h : Feed (m + 1) d) (hm : 0 < many) (hm2 : many < 2 ^ 63) : ∃ i d', cf (n + 1) 6 [.mu true d, .val (.int many)] = .ret (.fz (.int i)) [.mu true d', .val (.int many)] ∧ 0 ≤ i ∧ i < many ∧ Feed m d' := by
  rw [cf_s n 6 e__law_draw rfl]
  obtain ⟨r, o, h, i, d', rfl, rfl, h1, h2, h3⟩ := draw_ok (cf := cf n) (fuel := fuel) h hm hm2
  exact ⟨i, d', h, h1, h2, h3⟩
theorem f7 (n : Nat) {m : Nat} {d : D} {xs : List D} (h : Feed (m + 1) d) (hm : xs ≠ []) (hm2 : xs.length < 2 ^ 60) : ∃ x d', cf (n + 2) 7 [.mu true d, .val (.list xs)] = .ret (.fz x) [.mu true d', .val (.list xs)] ∧ x ∈ xs ∧ Feed m d' := by
  rw [cf_s (n + 1) 7 e__law_one rfl]
  have : ∃ r o, runD (cf (n + 1)) fuel e__law_one.fd [.mu true d, .val (.list xs)] = .ret r o ∧ ∃ x d', r = .fz x ∧ o = [.mu true d', .val (.list xs)] ∧ x ∈ xs ∧ Feed m d' := by
    refine run_ok rfl ?_
    show Wp (evSs (cf (n + 1)) fuel ir__law_one [.mu true d, .val (.list xs)]) _
    unfold ir__law_one
    have hl : 0 < xs.length := List.length_pos_iff.mpr hm
    repeat trivial
    obtain ⟨i, d', h1, h2, h3, h4⟩ := f6 n (many := (xs.length : Int)) h (by omega) (by omega)
    refine w_callR (by with_unfolding_all rfl) nd1 rfl h1 ?_
    repeat trivial
    have hi : i.toNat < xs.length := by omega
    refine w_two (by with_unfolding_all rfl) (by with_unfolding_all rfl) (i_L h2 (List.getElem?_eq_getElem hi)) ?_
    exact ⟨rfl, _, d', rfl, rfl, List.getElem_mem hi, h4⟩
  obtain ⟨r, o, h, x, d', rfl, rfl, hx, hd⟩ := this
  exact ⟨x, d', h, hx, hd⟩
end Cr.k01
set_option Elab.async false
set_option linter.all false
set_option maxRecDepth 100000
set_option maxHeartbeats 4000000
namespace Cr.k01
open PySem
local macro_rules | `(tactic| trivial) => `(tactic| dsimp only)
local macro_rules | `(tactic| trivial) => `(tactic| first
  | (refine ⟨_, rfl, ?_⟩; done) | (refine ⟨_, by with_unfolding_all rfl, ?_⟩) | (refine ⟨_, _, by with_unfolding_all rfl, by with_unfolding_all rfl, ?_⟩) | (refine ⟨_, _, _, _, by with_unfolding_all rfl, by with_unfolding_all rfl, by with_unfolding_all rfl, ?_⟩)
  | (refine ⟨_, by with_unfolding_all rfl, ok63_of (by omega) (by omega), ?_⟩) | (refine ⟨_, _, by with_unfolding_all rfl, by with_unfolding_all rfl, ⟨ok63_of (by omega) (by omega), ok63_of (by omega) (by omega)⟩, ?_⟩)
  | (refine ⟨⟨by with_unfolding_all rfl, by decide⟩, ?_⟩) | (refine ⟨⟨by with_unfolding_all rfl, by with_unfolding_all rfl⟩, ?_⟩))
local macro_rules | `(tactic| trivial) => `(tactic| with_reducible first
  | apply w_S1 | apply w_S0 | apply w_asg | apply w_ret | apply w_ifS | apply w_for | apply w_ex | apply w_par | apply w_pass
  | apply w_bin | apply w_idx | apply w_cmp | apply w_call | apply w_callk | apply w_blt | apply w_k | apply w_glob | apply w_tup | apply w_lst | apply w_and | apply w_or | apply w_not | apply w_ife | apply w_isi | apply w_slc | apply w_rev | apply w_neg | apply w_chain | apply w_edict | apply w_comp
  | apply w_L1 | apply w_L0 | apply w_O1 | apply w_O0 | apply w_A1 | apply w_A0 | apply w_R1 | apply w_R0 | apply w_P1 | apply w_P0 | apply w_over | apply w_rng1 | apply w_rng2 | apply w_enum | apply w_zip
  | apply w_g1 | apply w_g0 | apply w_tstR
  | (apply w_var; with_unfolding_all rfl) | (apply w_opV; with_unfolding_all rfl) | (apply w_op; with_unfolding_all rfl) | (apply w_arM; with_unfolding_all rfl) | (apply w_arV; with_unfolding_all rfl) | (apply w_arF; with_unfolding_all rfl) | (apply w_ar; with_unfolding_all rfl)
  | (apply w_tstB; with_unfolding_all rfl) | (apply w_tstO; with_unfolding_all rfl)
  | (apply w_gN; with_unfolding_all rfl) | (apply w_gS; with_unfolding_all rfl) | (apply w_gT; with_unfolding_all rfl; with_unfolding_all rfl)
  | (apply w_retM; with_unfolding_all rfl) | (apply w_retV; with_unfolding_all rfl) | (apply w_retE; with_unfolding_all rfl)
  | (apply w_mm; with_unfolding_all rfl)
  | (apply w_iteT; first | with_unfolding_all rfl | assumption | exact decide_eq_true (by first | assumption | omega)) | (apply w_iteF; first | with_unfolding_all rfl | assumption | exact decide_eq_false (by first | assumption | omega)))
local macro_rules | `(tactic| trivial) => `(tactic| first
  | ((with_reducible apply w_two); (with_unfolding_all rfl); (with_unfolding_all rfl); (first | exact b_mul (by first | assumption | exact mulOk_l (by omega) (by omega) | exact mulOk_r (by omega) (by omega) | exact mulOk_b 200 200 (by omega) (by omega) (by decide) (by decide) (by decide)) | exact b_div (by omega) (by omega) | exact b_mod (by omega) | exact b_pow (by decide) (by decide) (by decide) (by simp; rfl) | with_unfolding_all rfl))
  | ((with_reducible apply w_one); (with_unfolding_all rfl); (with_unfolding_all rfl))
  | ((with_reducible apply w_many); (with_unfolding_all rfl); (with_unfolding_all rfl)))

local macro_rules | `(tactic| trivial) => `(tactic| with_reducible (apply w_gNW; (with_unfolding_all rfl); assumption))

local macro_rules | `(tactic| trivial) => `(tactic| with_reducible first | apply w_gM0 | apply w_gM1)

def subB (G : List (List Int)) (i j : Nat) : Int := ((G.take i).map fun g => (g.take (j + 1)).sum).sum
def tailB (G : List (List Int)) (i : Nat) (l : Int) (T : List Int) : List Int := T.zipIdx.map fun p => l + p.1 - subB G i p.2
def rowB (G : List (List Int)) (T : List Int) (i : Nat) (l : Int) : List Int := l :: tailB G i l T
def built (L T : List Int) (G : List (List Int)) : List (List Int) := L.zipIdx.map fun p => rowB G T p.2 p.1
def lstD (l : List Int) : D := .list (l.map .int)
def gainD (G : List (List Int)) : D := .list (G.map lstD)
theorem zip_snoc {α : Type} (d : List α) (x : α) : (d ++ [x]).zipIdx = d.zipIdx ++ [(x, d.length)] := by
  rw [List.zipIdx_append]; simp
theorem tail_snoc (G : List (List Int)) (i : Nat) (l : Int) (d : List Int) (x : Int) : tailB G i l (d ++ [x]) = tailB G i l d ++ [l + x - subB G i d.length] := by
  unfold tailB
  rw [zip_snoc, List.map_append]; rfl
theorem built_snoc (d : List Int) (x : Int) (T : List Int) (G : List (List Int)) : built (d ++ [x]) T G = built d T G ++ [rowB G T d.length x] := by
  unfold built
  rw [zip_snoc, List.map_append]; rfl
theorem sumMap (f : List Int → Int) (G : List (List Int)) : bltD .sum [.list (G.map fun g => PyData.int (f g))] = some (.fz (.int (G.map f).sum)) := by
  have := b_sum (G.map f)
  rw [List.map_map] at this
  exact this
theorem f8 (n : Nat) (L T : List Int) (G : List (List Int)) (hL : L.length ≤ 1000) (hT : T.length ≤ 1000) (hG : G.length ≤ 1000) : ∃ s0 s1 s2, cf (n + 1) 8 [.mu true (lstD L), .mu true (lstD T), .mu true (gainD G)] = .ret (.fz (tabD (built L T G))) [s0, s1, s2] := by
  rw [cf_s n 8 e__law_built rfl]
  have : ∃ r o, runD (cf n) fuel e__law_built.fd [.mu true (lstD L), .mu true (lstD T), .mu true (gainD G)] = .ret r o ∧ ∃ s0 s1 s2, r = .fz (tabD (built L T G)) ∧ o = [s0, s1, s2] := by
    refine run_ok rfl ?_
    show Wp (evSs (cf n) fuel ir__law_built [.mu true (lstD L), .mu true (lstD T), .mu true (gainD G), .un, .un, .un, .un, .un, .un, .un, .un]) _
    unfold ir__law_built
    repeat trivial
    refine for_enum PyData.int (fun d e => ∃ s1 s4 s5 s6 s7 s8 s9, e = [.frz (lstD L), s1, .mu true (gainD G), .mu false (.list ((built d T G).map rowD)), s4, s5, s6, s7, s8, s9, .un] ∧ (s1 = .mu true (lstD T) ∨ s1 = .frz (lstD T)) ∧ s4.W ∧ s5.W ∧ s6.W ∧ s7.W ∧ s8.W ∧ s9.W) L _ ⟨.mu true (lstD T), .un, .un, .un, .un, .un, .un, rfl, .inl rfl, True.intro, True.intro, True.intro, True.intro, True.intro, True.intro⟩ ?_ ?_
    · rintro d x r e hx ⟨s1, s4, s5, s6, s7, s8, s9, rfl, h1, w4, w5, w6, w7, w8, w9⟩
      have hdl : d.length < 1000 := by
        have := congrArg List.length hx
        rw [List.length_append, List.length_cons] at this
        omega
      rcases h1 with rfl | rfl
      all_goals
        repeat trivial
        refine ⟨sz (by simp), ?_⟩
        repeat trivial
        refine for_enum PyData.int (fun d2 e => ∃ s7 s8 s9, e = [.frz (lstD L), .frz (lstD T), .mu true (gainD G), .mu false (.list ((built d T G).map rowD)), .val (.int d.length), .val (.int x), .mu false (.list ((x :: tailB G d.length x d2).map .int)), s7, s8, s9, .un] ∧ s7.W ∧ s8.W ∧ s9.W) T _ ⟨_, _, _, rfl, w7, w8, w9⟩ ?_ ?_
        · rintro d2 y r2 e hy ⟨s7, s8, s9, rfl, w7, w8, w9⟩
          have hd2 : d2.length < 1000 := by
            have := congrArg List.length hy
            rw [List.length_append, List.length_cons] at this
            omega
          repeat trivial
          rw [cut_to (by omega), ← List.map_take]
          refine (comp_map lstD (fun g => PyData.int (g.take (d2.length + 1)).sum) _ [] (fun g hg => ?_) ?_).mono ?_
          · repeat trivial
            have e1 : bltD .sum [.list (cutD (g.map PyData.int) none (some ((d2.length : Int) + 1)))] = some (.fz (.int (g.take (d2.length + 1)).sum)) := by
              rw [cut_to (by omega), ← List.map_take]
              exact b_sum _
            refine w_many (by with_unfolding_all rfl) e1 ?_
            exact ⟨rfl, rfl⟩
          · exact sz (by simp; omega)
          · rintro acc e2 ⟨rfl, rfl⟩
            repeat trivial
            refine w_many (by with_unfolding_all rfl) (sumMap _ _) ?_
            repeat trivial
            refine w_mmA rfl (m_app (by rw [List.length_map, List.length_cons]; unfold tailB; rw [List.length_map, List.length_zipIdx]; exact Nat.lt_of_lt_of_le (by omega) (sz (n := 100000) (by decide)))) ?_
            repeat trivial
            refine ⟨.val (.int d2.length), .val (.int y), .val (.int (subB G d.length d2.length)), ?_, True.intro, True.intro, True.intro⟩
            rw [tail_snoc, ← List.cons_append, List.map_append]
            rfl
        · rintro e ⟨s7, s8, s9, rfl, w7, w8, w9⟩
          repeat trivial
          refine w_mmA rfl (m_app (by rw [List.length_map]; unfold built; rw [List.length_map, List.length_zipIdx]; exact Nat.lt_of_lt_of_le hdl (sz (n := 1000) (by decide)))) ?_
          repeat trivial
          refine ⟨.frz (lstD T), .val (.int d.length), .val (.int x), .mu false (.list ((x :: tailB G d.length x T).map .int)), s7, s8, s9, ?_, .inr rfl, True.intro, True.intro, True.intro, w7, w8, w9⟩
          rw [built_snoc, List.map_append]
          rfl
    · rintro e ⟨s1, s4, s5, s6, s7, s8, s9, rfl, h1, w4, w5, w6, w7, w8, w9⟩
      repeat trivial
      rcases h1 with rfl | rfl <;> exact ⟨rfl, _, _, _, rfl, rfl⟩
  obtain ⟨r, o, h, s0, s1, s2, rfl, rfl⟩ := this
  exact ⟨s0, s1, s2, h⟩
end Cr.k01
set_option Elab.async false
set_option linter.all false
set_option maxRecDepth 100000
set_option maxHeartbeats 4000000
namespace Cr.k01
open PySem
local macro_rules | `(tactic| trivial) => `(tactic| dsimp only)
local macro_rules | `(tactic| trivial) => `(tactic| first
  | (refine ⟨_, rfl, ?_⟩; done) | (refine ⟨_, by with_unfolding_all rfl, ?_⟩) | (refine ⟨_, _, by with_unfolding_all rfl, by with_unfolding_all rfl, ?_⟩) | (refine ⟨_, _, _, _, by with_unfolding_all rfl, by with_unfolding_all rfl, by with_unfolding_all rfl, ?_⟩)
  | (refine ⟨_, by with_unfolding_all rfl, ok63_of (by omega) (by omega), ?_⟩) | (refine ⟨_, _, by with_unfolding_all rfl, by with_unfolding_all rfl, ⟨ok63_of (by omega) (by omega), ok63_of (by omega) (by omega)⟩, ?_⟩)
  | (refine ⟨⟨by with_unfolding_all rfl, by decide⟩, ?_⟩) | (refine ⟨⟨by with_unfolding_all rfl, by with_unfolding_all rfl⟩, ?_⟩))
local macro_rules | `(tactic| trivial) => `(tactic| with_reducible first
  | apply w_S1 | apply w_S0 | apply w_asg | apply w_ret | apply w_ifS | apply w_for | apply w_ex | apply w_par | apply w_pass
  | apply w_bin | apply w_idx | apply w_cmp | apply w_call | apply w_callk | apply w_blt | apply w_k | apply w_glob | apply w_tup | apply w_lst | apply w_and | apply w_or | apply w_not | apply w_ife | apply w_isi | apply w_slc | apply w_rev | apply w_neg | apply w_chain | apply w_edict | apply w_comp
  | apply w_L1 | apply w_L0 | apply w_O1 | apply w_O0 | apply w_A1 | apply w_A0 | apply w_R1 | apply w_R0 | apply w_P1 | apply w_P0 | apply w_over | apply w_rngA | apply w_rngB | apply w_enum | apply w_zip
  | apply w_g1 | apply w_g0 | apply w_tstR
  | (apply w_var; with_unfolding_all rfl) | (apply w_opV; with_unfolding_all rfl) | (apply w_op; with_unfolding_all rfl) | (apply w_arM; with_unfolding_all rfl) | (apply w_arV; with_unfolding_all rfl) | (apply w_arF; with_unfolding_all rfl) | (apply w_ar; with_unfolding_all rfl)
  | (apply w_tstB; with_unfolding_all rfl) | (apply w_tstO; with_unfolding_all rfl)
  | (apply w_gN; with_unfolding_all rfl) | (apply w_gS; with_unfolding_all rfl) | (apply w_gT; with_unfolding_all rfl; with_unfolding_all rfl)
  | (apply w_retM; with_unfolding_all rfl) | (apply w_retV; with_unfolding_all rfl) | (apply w_retE; with_unfolding_all rfl)
  | (apply w_mm; with_unfolding_all rfl)
  | (apply w_iteT; first | with_unfolding_all rfl | assumption | exact decide_eq_true (by first | assumption | omega)) | (apply w_iteF; first | with_unfolding_all rfl | assumption | exact decide_eq_false (by first | assumption | omega)))
local macro_rules | `(tactic| trivial) => `(tactic| first
  | ((with_reducible apply w_two); (with_unfolding_all rfl); (with_unfolding_all rfl); (first | exact b_mul (by first | assumption | exact mulOk_l (by omega) (by omega) | exact mulOk_r (by omega) (by omega) | exact mulOk_b 200 200 (by omega) (by omega) (by decide) (by decide) (by decide)) | exact b_div (by omega) (by omega) | exact b_mod (by omega) | exact b_pow (by decide) (by decide) (by decide) (by simp; rfl) | with_unfolding_all rfl))
  | ((with_reducible apply w_one); (with_unfolding_all rfl); (with_unfolding_all rfl))
  | ((with_reducible apply w_many); (with_unfolding_all rfl); (with_unfolding_all rfl)))

local macro_rules | `(tactic| trivial) => `(tactic| with_reducible (apply w_gNW; (with_unfolding_all rfl); assumption))
local macro_rules | `(tactic| trivial) => `(tactic| with_reducible first | apply w_gM0 | apply w_gM1)
local macro_rules | `(tactic| trivial) => `(tactic| with_reducible exact sz (by simp))
local macro_rules | `(tactic| trivial) => `(tactic| with_reducible intro l hl)
local macro_rules | `(tactic| trivial) => `(tactic| with_reducible first | refine ⟨ok63_of (by omega) (by omega), ?_⟩ | refine ⟨⟨ok63_of (by omega) (by omega), ok63_of (by omega) (by omega)⟩, ?_⟩)

/-- what a drawn table's parts are -/
structure Parts (R C : Nat) (L T : List Int) (G : List (List Int)) : Prop where
  l : L.length = R
  t : T.length + 1 = C
  g : G.length + 1 = R
  lb : ∀ x ∈ L, -(10 ^ 15) ≤ x ∧ x ≤ 10 ^ 15
  tb : ∀ x ∈ T, -(10 ^ 15) ≤ x ∧ x ≤ 10 ^ 15
  gb : ∀ r ∈ G, r.length + 1 = C ∧ ∀ x ∈ r, 0 ≤ x ∧ x ≤ 10 ^ 9
theorem f10 (n m R C : Nat) (hR : 1 ≤ R) (hR2 : R ≤ 8) (hC : 1 ≤ C) (hC2 : C ≤ 8) {d : D} (hd : Feed (m + 130) d) : ∃ L T G d', cf (n + 3) 10 [.mu true d, .val (.int R), .val (.int C)] = .ret (.fz (tabD (built L T G))) [.mu true d', .val (.int R), .val (.int C)] ∧ Parts R C L T G ∧ Feed m d' := by
  rw [cf_s (n + 2) 10 e__law_sized rfl]
  have : ∃ r o, runD (cf (n + 2)) fuel e__law_sized.fd [.mu true d, .val (.int R), .val (.int C)] = .ret r o ∧ ∃ L T G d', r = .fz (tabD (built L T G)) ∧ o = [.mu true d', .val (.int R), .val (.int C)] ∧ Parts R C L T G ∧ Feed m d' := by
    refine run_ok rfl ?_
    show Wp (evSs (cf (n + 2)) fuel ir__law_sized [.mu true d, .val (.int R), .val (.int C), .un, .un, .un, .un, .un, .un, .un]) _
    unfold ir__law_sized
    repeat trivial
    obtain ⟨x, d1, h1, hx, hd1⟩ := f7 n (m := m + 129) (xs := [.int 3, .int 3, .int 10, .int 1000000, .int 1000000000000000]) hd (by simp) (by simp)
    obtain ⟨s, rfl, hs0, hs1⟩ : ∃ s : Int, x = .int s ∧ 0 < s ∧ s ≤ 10 ^ 15 := by
      simp only [List.mem_cons, List.not_mem_nil, or_false] at hx
      rcases hx with rfl | rfl | rfl | rfl | rfl <;> exact ⟨_, rfl, by decide, by decide⟩
    refine w_callR (by with_unfolding_all rfl) nd1 rfl h1 ?_
    clear h1 hx
    repeat trivial
    obtain ⟨x, d2, h2, hx, hd2⟩ := f7 n (m := m + 128) (xs := [.int 1, .int 2, .int 3, .int 8, .int 1000000000]) hd1 (by simp) (by simp)
    obtain ⟨u, rfl, hu0, hu1⟩ : ∃ s : Int, x = .int s ∧ 0 < s ∧ s ≤ 10 ^ 9 := by
      simp only [List.mem_cons, List.not_mem_nil, or_false] at hx
      rcases hx with rfl | rfl | rfl | rfl | rfl <;> exact ⟨_, rfl, by decide, by decide⟩
    refine w_callR (by with_unfolding_all rfl) nd1 rfl h2 ?_
    clear h2 hx
    repeat trivial
    rename_i l hl
    subst hl
    refine (comp_feedR PyData.int (fun d => [.mu true d, .val (.int R), .val (.int C), .un, .un, .un, .un, .val (.int s), .val (.int u), .un]) 1 (m + 120) R (fun x => -(10 ^ 15) ≤ x ∧ x ≤ 10 ^ 15) (by simp) (hd2.mono (by omega)) (sz (by omega)) ?_).mono ?_
    · intro x d j hd
      repeat trivial
      obtain ⟨i, d', h1, h2, h3, h4⟩ := f6 (n + 1) (many := 2 * s + 1) hd (by omega) (by omega)
      refine w_callR (by with_unfolding_all rfl) nd1 rfl h1 ?_
      clear h1
      repeat trivial
      exact ⟨i - s, d', rfl, ⟨by omega, by omega⟩, h4, rfl⟩
    rintro _ _ ⟨L, d3, rfl, hLl, hLb, hd3, rfl⟩
    repeat trivial
    rename_i l hl
    subst hl
    refine (comp_feedR PyData.int (fun d => [.mu true d, .val (.int R), .val (.int C), .mu false (lstD L), .un, .un, .un, .val (.int s), .val (.int u), .un]) 1 (m + 110) (C - 1) (fun x => -(10 ^ 15) ≤ x ∧ x ≤ 10 ^ 15) (by omega) (hd3.mono (by omega)) (sz (by omega)) ?_).mono ?_
    · intro x d j hd
      repeat trivial
      obtain ⟨i, d', h1, h2, h3, h4⟩ := f6 (n + 1) (many := 2 * s + 1) hd (by omega) (by omega)
      refine w_callR (by with_unfolding_all rfl) nd1 rfl h1 ?_
      clear h1
      repeat trivial
      exact ⟨i - s, d', rfl, ⟨by omega, by omega⟩, h4, rfl⟩
    rintro _ _ ⟨T, d4, rfl, hTl, hTb, hd4, rfl⟩
    repeat trivial
    rename_i l hl
    subst hl
    refine for_rng (fun i e => ∃ G d' s6, e = [.mu true d', .val (.int R), .val (.int C), .mu false (lstD L), .mu false (lstD T), .mu false (gainD G), s6, .val (.int s), .val (.int u), .un] ∧ s6.W ∧ G.length = i ∧ (∀ r ∈ G, r.length + 1 = C ∧ ∀ x ∈ r, 0 ≤ x ∧ x ≤ 10 ^ 9) ∧ Feed (m + (7 - i) * 14) d') _ ⟨[], d4, .un, rfl, True.intro, rfl, by simp, hd4.mono (by omega)⟩ ?_ ?_
    · rintro i _ hi ⟨G, d5, s6, rfl, w6, hGl, hGb, hd5⟩
      repeat trivial
      rename_i l hl
      subst hl
      refine (comp_feedR PyData.int (fun d => [.mu true d, .val (.int R), .val (.int C), .mu false (lstD L), .mu false (lstD T), .mu false (gainD G), .val (.int (0 + (i : Int))), .val (.int s), .val (.int u), .un]) 2 (m + (7 - (i + 1)) * 14) (C - 1) (fun x => 0 ≤ x ∧ x ≤ 10 ^ 9) (by omega) (hd5.mono (by omega)) (sz (by omega)) ?_).mono ?_
      · intro x d j hd
        repeat trivial
        obtain ⟨i2, d', h1, h2, h3, h4⟩ := f6 (n + 1) (m := j + 1) (many := 3) hd (by omega) (by omega)
        refine w_callR (by with_unfolding_all rfl) nd1 rfl h1 ?_
        clear h1
        by_cases h0 : 0 < i2
        · repeat trivial
          obtain ⟨i3, d2, h1, h5, h6, h7⟩ := f6 (n + 1) (m := j) (many := u + 1) h4 (by omega) (by omega)
          refine w_callR (by with_unfolding_all rfl) nd1 rfl h1 ?_
          clear h1
          exact ⟨i3, d2, rfl, ⟨by omega, by omega⟩, h7, rfl⟩
        · repeat trivial
          exact ⟨0, d', rfl, ⟨by omega, by omega⟩, h4.mono (by omega), rfl⟩
      rintro _ _ ⟨g, d6, rfl, hgl, hgb, hd6, rfl⟩
      repeat trivial
      refine w_mmA rfl (m_app (by rw [List.length_map]; exact Nat.lt_of_lt_of_le (by omega : G.length < 1000) (sz (n := 1000) (by decide)))) ?_
      repeat trivial
      refine ⟨G ++ [g], d6, .val (.int (0 + (i : Int))), ?_, True.intro, by rw [List.length_append, hGl]; rfl, ?_, hd6⟩
      · unfold gainD
        rw [List.map_append]
        rfl
      · intro r hr
        rcases List.mem_append.mp hr with hr | hr
        · exact hGb r hr
        · rw [List.mem_singleton.mp hr]
          exact ⟨by omega, hgb⟩
    · rintro _ ⟨G, d5, s6, rfl, w6, hGl, hGb, hd5⟩
      repeat trivial
      obtain ⟨q0, q1, q2, h8⟩ := f8 (n + 1) L T G (by omega) (by omega) (by omega)
      refine w_callR (by with_unfolding_all rfl) (show ([3, 4, 5] : List Nat).Nodup by decide) rfl h8 ?_
      clear h8
      refine ⟨rfl, L, T, G, d5, rfl, rfl, ⟨hLl, by omega, by omega, hLb, hTb, hGb⟩, hd5.mono (by omega)⟩
  obtain ⟨r, o, h, L, T, G, d', rfl, rfl, h1, h2⟩ := this
  exact ⟨L, T, G, d', h, h1, h2⟩
end Cr.k01
set_option Elab.async false
set_option linter.all false
set_option maxRecDepth 100000
set_option maxHeartbeats 4000000
namespace Cr.k01
open PySem
local macro_rules | `(tactic| trivial) => `(tactic| dsimp only)
local macro_rules | `(tactic| trivial) => `(tactic| first
  | (refine ⟨_, rfl, ?_⟩; done) | (refine ⟨_, by with_unfolding_all rfl, ?_⟩) | (refine ⟨_, _, by with_unfolding_all rfl, by with_unfolding_all rfl, ?_⟩) | (refine ⟨_, _, _, _, by with_unfolding_all rfl, by with_unfolding_all rfl, by with_unfolding_all rfl, ?_⟩)
  | (refine ⟨_, by with_unfolding_all rfl, ok63_of (by omega) (by omega), ?_⟩) | (refine ⟨_, _, by with_unfolding_all rfl, by with_unfolding_all rfl, ⟨ok63_of (by omega) (by omega), ok63_of (by omega) (by omega)⟩, ?_⟩)
  | (refine ⟨⟨by with_unfolding_all rfl, by decide⟩, ?_⟩) | (refine ⟨⟨by with_unfolding_all rfl, by with_unfolding_all rfl⟩, ?_⟩))
local macro_rules | `(tactic| trivial) => `(tactic| with_reducible first
  | apply w_S1 | apply w_S0 | apply w_asg | apply w_ret | apply w_ifS | apply w_for | apply w_ex | apply w_par | apply w_pass
  | apply w_bin | apply w_idx | apply w_cmp | apply w_call | apply w_callk | apply w_blt | apply w_k | apply w_glob | apply w_tup | apply w_lst | apply w_and | apply w_or | apply w_not | apply w_ife | apply w_isi | apply w_slc | apply w_rev | apply w_neg | apply w_chain | apply w_edict | apply w_comp
  | apply w_L1 | apply w_L0 | apply w_O1 | apply w_O0 | apply w_A1 | apply w_A0 | apply w_R1 | apply w_R0 | apply w_P1 | apply w_P0 | apply w_over | apply w_rngA | apply w_rngB | apply w_enum | apply w_zip
  | apply w_g1 | apply w_g0 | apply w_tstR
  | (apply w_var; with_unfolding_all rfl) | (apply w_opV; with_unfolding_all rfl) | (apply w_op; with_unfolding_all rfl) | (apply w_arM; with_unfolding_all rfl) | (apply w_arV; with_unfolding_all rfl) | (apply w_arF; with_unfolding_all rfl) | (apply w_ar; with_unfolding_all rfl)
  | (apply w_tstB; with_unfolding_all rfl) | (apply w_tstO; with_unfolding_all rfl)
  | (apply w_gN; with_unfolding_all rfl) | (apply w_gS; with_unfolding_all rfl) | (apply w_gT; with_unfolding_all rfl; with_unfolding_all rfl)
  | (apply w_retM; with_unfolding_all rfl) | (apply w_retV; with_unfolding_all rfl) | (apply w_retE; with_unfolding_all rfl)
  | (apply w_mm; with_unfolding_all rfl)
  | (apply w_iteT; first | with_unfolding_all rfl | assumption | exact decide_eq_true (by first | assumption | omega)) | (apply w_iteF; first | with_unfolding_all rfl | assumption | exact decide_eq_false (by first | assumption | omega)))
local macro_rules | `(tactic| trivial) => `(tactic| first
  | ((with_reducible apply w_two); (with_unfolding_all rfl); (with_unfolding_all rfl); (first | exact b_mul (by first | assumption | exact mulOk_l (by omega) (by omega) | exact mulOk_r (by omega) (by omega) | exact mulOk_b 200 200 (by omega) (by omega) (by decide) (by decide) (by decide)) | exact b_div (by omega) (by omega) | exact b_mod (by omega) | exact b_pow (by decide) (by decide) (by decide) (by simp; rfl) | with_unfolding_all rfl))
  | ((with_reducible apply w_one); (with_unfolding_all rfl); (with_unfolding_all rfl))
  | ((with_reducible apply w_many); (with_unfolding_all rfl); (with_unfolding_all rfl)))

local macro_rules | `(tactic| trivial) => `(tactic| with_reducible (apply w_gNW; (with_unfolding_all rfl); assumption))
local macro_rules | `(tactic| trivial) => `(tactic| with_reducible first | apply w_gM0 | apply w_gM1)
local macro_rules | `(tactic| trivial) => `(tactic| with_reducible exact sz (by simp))
local macro_rules | `(tactic| trivial) => `(tactic| with_reducible intro l hl)
local macro_rules | `(tactic| trivial) => `(tactic| with_reducible first | refine ⟨ok63_of (by omega) (by omega), ?_⟩ | refine ⟨⟨ok63_of (by omega) (by omega), ok63_of (by omega) (by omega)⟩, ?_⟩)


theorem sum_bd (b : Int) : ∀ (l : List Int), (∀ x ∈ l, 0 ≤ x ∧ x ≤ b) → 0 ≤ l.sum ∧ l.sum ≤ l.length * b
  | [], _ => by simp
  | x :: l, h => by
    have h1 := sum_bd b l fun y hy => h y (List.mem_cons_of_mem _ hy)
    have h2 := h x List.mem_cons_self
    rw [List.sum_cons, List.length_cons]
    have e : ((l.length + 1 : Nat) : Int) * b = l.length * b + b := by
      rw [Int.natCast_add, Int.add_mul]; simp
    omega
theorem subB_bd {R C : Nat} {L T : List Int} {G : List (List Int)} (h : Parts R C L T G) (hR : R ≤ 8) (hC : C ≤ 8) (i j : Nat) : 0 ≤ subB G i j ∧ subB G i j ≤ 10 ^ 12 := by
  have h1 : ∀ g ∈ G, 0 ≤ (g.take (j + 1)).sum ∧ (g.take (j + 1)).sum ≤ 8 * 10 ^ 9 := by
    intro g hg
    obtain ⟨h2, h3⟩ := h.gb g hg
    have h4 := sum_bd (10 ^ 9) (g.take (j + 1)) fun x hx => h3 x (List.mem_of_mem_take hx)
    have h5 : (g.take (j + 1)).length ≤ 8 := by rw [List.length_take]; omega
    have h6 : ((g.take (j + 1)).length : Int) * 10 ^ 9 ≤ 8 * 10 ^ 9 := by omega
    omega
  have h2 := sum_bd (8 * 10 ^ 9) ((G.take i).map fun g => (g.take (j + 1)).sum) (by
    intro x hx
    obtain ⟨g, hg, rfl⟩ := List.mem_map.mp hx
    exact h1 g (List.mem_of_mem_take hg))
  have h3 : ((G.take i).map fun g => (g.take (j + 1)).sum).length ≤ 8 := by
    rw [List.length_map, List.length_take]
    have := h.g
    omega
  unfold subB
  omega
theorem built_row {L T : List Int} {G : List (List Int)} {r : List Int} (h : r ∈ built L T G) : ∃ i l, l ∈ L ∧ r = rowB G T i l := by
  unfold built at h
  obtain ⟨p, hp, rfl⟩ := List.mem_map.mp h
  exact ⟨p.2, p.1, (List.mem_zipIdx' hp).2 ▸ List.getElem_mem _, rfl⟩
theorem rowB_len (G : List (List Int)) (T : List Int) (i : Nat) (l : Int) : (rowB G T i l).length = T.length + 1 := by
  unfold rowB tailB
  rw [List.length_cons, List.length_map, List.length_zipIdx]
theorem built_tab {R C : Nat} {L T : List Int} {G : List (List Int)} (h : Parts R C L T G) (hR0 : 1 ≤ R) (hR : R ≤ 8) (hC : C ≤ 8) : IsTab 8 (10 ^ 17) (built L T G) := by
  have hl : (built L T G).length = R := by
    unfold built
    rw [List.length_map, List.length_zipIdx, h.l]
  refine ⟨by omega, by omega, ⟨C, by have := h.t; omega, hC, ?_⟩, ?_⟩
  · intro r hr
    obtain ⟨i, l, _, rfl⟩ := built_row hr
    rw [rowB_len, h.t]
  · intro r hr x hx
    obtain ⟨i, l, hl, rfl⟩ := built_row hr
    have h1 := h.lb l hl
    unfold rowB tailB at hx
    rcases List.mem_cons.mp hx with rfl | hx
    · omega
    · obtain ⟨p, hp, rfl⟩ := List.mem_map.mp hx
      have h2 := h.tb p.1 ((List.mem_zipIdx' hp).2 ▸ List.getElem_mem _)
      have h3 := subB_bd h hR hC i p.2
      omega
theorem f9 (n m : Nat) {M W : Int} (hM : 1 ≤ M) (hM2 : M ≤ 8) (hW : 1 ≤ W) (hW2 : W ≤ 8) {d : D} (hd : Feed (m + 132) d) : ∃ R C L T G d', cf (n + 4) 9 [.mu true d, .val (.int M), .val (.int W)] = .ret (.fz (tabD (built L T G))) [.mu true d', .val (.int M), .val (.int W)] ∧ Parts R C L T G ∧ (1 ≤ R ∧ R ≤ 8 ∧ C ≤ 8) ∧ Feed m d' := by
  rw [cf_s (n + 3) 9 e__law_table rfl]
  have : ∃ r o, runD (cf (n + 3)) fuel e__law_table.fd [.mu true d, .val (.int M), .val (.int W)] = .ret r o ∧ ∃ R C L T G d', r = .fz (tabD (built L T G)) ∧ o = [.mu true d', .val (.int M), .val (.int W)] ∧ Parts R C L T G ∧ (1 ≤ R ∧ R ≤ 8 ∧ C ≤ 8) ∧ Feed m d' := by
    refine run_ok rfl ?_
    show Wp (evSs (cf (n + 3)) fuel ir__law_table [.mu true d, .val (.int M), .val (.int W), .un, .un]) _
    unfold ir__law_table
    repeat trivial
    obtain ⟨i, d1, h1, h2, h3, hd1⟩ := f6 (n + 2) (m := m + 131) (many := M) hd (by omega) (by omega)
    refine w_callR (by with_unfolding_all rfl) nd1 rfl h1 ?_
    clear h1
    repeat trivial
    obtain ⟨j, d2, h1, h4, h5, hd2⟩ := f6 (n + 2) (m := m + 130) (many := W) hd1 (by omega) (by omega)
    refine w_callR (by with_unfolding_all rfl) nd1 rfl h1 ?_
    clear h1
    repeat trivial
    obtain ⟨a, rfl⟩ := Int.eq_ofNat_of_zero_le h2
    obtain ⟨b, rfl⟩ := Int.eq_ofNat_of_zero_le h4
    obtain ⟨L, T, G, d3, h1, h6, h7⟩ := f10 n m (1 + a) (1 + b) (by omega) (by omega) (by omega) (by omega) hd2
    refine w_callR (by with_unfolding_all rfl) nd1 rfl h1 ?_
    clear h1
    exact ⟨rfl, 1 + a, 1 + b, L, T, G, d3, rfl, rfl, h6, ⟨by omega, by omega, by omega⟩, h7⟩
  obtain ⟨r, o, h, R, C, L, T, G, d', rfl, rfl, h1, h2, h3⟩ := this
  exact ⟨R, C, L, T, G, d', h, h1, h2, h3⟩
end Cr.k01
set_option Elab.async false
set_option linter.all false
set_option maxRecDepth 100000
set_option maxHeartbeats 4000000
namespace Cr.k01
open PySem
local macro_rules | `(tactic| trivial) => `(tactic| dsimp only)
local macro_rules | `(tactic| trivial) => `(tactic| first
  | (refine ⟨_, rfl, ?_⟩; done) | (refine ⟨_, by with_unfolding_all rfl, ?_⟩) | (refine ⟨_, _, by with_unfolding_all rfl, by with_unfolding_all rfl, ?_⟩) | (refine ⟨_, _, _, _, by with_unfolding_all rfl, by with_unfolding_all rfl, by with_unfolding_all rfl, ?_⟩)
  | (refine ⟨_, by with_unfolding_all rfl, ok63_of (by omega) (by omega), ?_⟩) | (refine ⟨_, _, by with_unfolding_all rfl, by with_unfolding_all rfl, ⟨ok63_of (by omega) (by omega), ok63_of (by omega) (by omega)⟩, ?_⟩)
  | (refine ⟨⟨by with_unfolding_all rfl, by decide⟩, ?_⟩) | (refine ⟨⟨by with_unfolding_all rfl, by with_unfolding_all rfl⟩, ?_⟩))
local macro_rules | `(tactic| trivial) => `(tactic| with_reducible first
  | apply w_S1 | apply w_S0 | apply w_asg | apply w_ret | apply w_ifS | apply w_for | apply w_ex | apply w_par | apply w_pass
  | apply w_bin | apply w_idx | apply w_cmp | apply w_call | apply w_callk | apply w_blt | apply w_k | apply w_glob | apply w_tup | apply w_lst | apply w_and | apply w_or | apply w_not | apply w_ife | apply w_isi | apply w_slc | apply w_rev | apply w_neg | apply w_chain | apply w_edict | apply w_comp
  | apply w_L1 | apply w_L0 | apply w_O1 | apply w_O0 | apply w_A1 | apply w_A0 | apply w_R1 | apply w_R0 | apply w_P1 | apply w_P0 | apply w_over | apply w_rngA | apply w_rngB | apply w_enum | apply w_zip
  | apply w_g1 | apply w_g0 | apply w_tstR
  | (apply w_var; with_unfolding_all rfl) | (apply w_opV; with_unfolding_all rfl) | (apply w_op; with_unfolding_all rfl) | (apply w_arM; with_unfolding_all rfl) | (apply w_arV; with_unfolding_all rfl) | (apply w_arF; with_unfolding_all rfl) | (apply w_ar; with_unfolding_all rfl)
  | (apply w_tstB; with_unfolding_all rfl) | (apply w_tstO; with_unfolding_all rfl)
  | (apply w_gN; with_unfolding_all rfl) | (apply w_gS; with_unfolding_all rfl) | (apply w_gT; with_unfolding_all rfl; with_unfolding_all rfl)
  | (apply w_retM; with_unfolding_all rfl) | (apply w_retV; with_unfolding_all rfl) | (apply w_retE; with_unfolding_all rfl)
  | (apply w_mm; with_unfolding_all rfl)
  | (apply w_iteT; first | with_unfolding_all rfl | assumption | exact decide_eq_true (by first | assumption | omega)) | (apply w_iteF; first | with_unfolding_all rfl | assumption | exact decide_eq_false (by first | assumption | omega)))
local macro_rules | `(tactic| trivial) => `(tactic| first
  | ((with_reducible apply w_two); (with_unfolding_all rfl); (with_unfolding_all rfl); (first | exact b_mul (by first | assumption | exact mulOk_l (by omega) (by omega) | exact mulOk_r (by omega) (by omega) | exact mulOk_b 200 200 (by omega) (by omega) (by decide) (by decide) (by decide)) | exact b_div (by omega) (by omega) | exact b_mod (by omega) | exact b_pow (by decide) (by decide) (by decide) (by simp; rfl) | with_unfolding_all rfl))
  | ((with_reducible apply w_one); (with_unfolding_all rfl); (with_unfolding_all rfl))
  | ((with_reducible apply w_many); (with_unfolding_all rfl); (with_unfolding_all rfl)))

local macro_rules | `(tactic| trivial) => `(tactic| with_reducible (apply w_gNW; (with_unfolding_all rfl); assumption))
local macro_rules | `(tactic| trivial) => `(tactic| with_reducible first | apply w_gM0 | apply w_gM1)
local macro_rules | `(tactic| trivial) => `(tactic| with_reducible exact sz (by simp))
local macro_rules | `(tactic| trivial) => `(tactic| with_reducible intro l hl)
local macro_rules | `(tactic| trivial) => `(tactic| with_reducible first | refine ⟨ok63_of (by omega) (by omega), ?_⟩ | refine ⟨⟨ok63_of (by omega) (by omega), ok63_of (by omega) (by omega)⟩, ?_⟩)

local macro_rules | `(tactic| trivial) => `(tactic| with_reducible refine ⟨sz (by simp), ?_⟩)

/-- one cell set anew -/
def setT (xs : List D) (row : List D) (i j : Nat) (v : D) : D := .tuple (xs.take i ++ [.tuple (row.take j ++ [v] ++ row.drop (j + 1))] ++ xs.drop (i + 1))
theorem f12 (n : Nat) (xs row : List D) (i j : Int) (v : D) (hi : 0 ≤ i) (hj : 0 ≤ j) (hr : xs[i.toNat]? = some (.tuple row)) (h1 : xs.length ≤ 1000) (h2 : row.length ≤ 1000) :
    cf (n + 1) 12 [.val (.tuple xs), .val (.int i), .val (.int j), .val v] = .ret (.fz (setT xs row i.toNat j.toNat v)) [.val (.tuple xs), .val (.int i), .val (.int j), .val v] := by
  rw [cf_s n 12 e__law_set rfl]
  have : ∃ r o, runD (cf n) fuel e__law_set.fd [.val (.tuple xs), .val (.int i), .val (.int j), .val v] = .ret r o ∧ r = .fz (setT xs row i.toNat j.toNat v) ∧ o = [.val (.tuple xs), .val (.int i), .val (.int j), .val v] := by
    refine run_ok rfl ?_
    show Wp (evSs (cf n) fuel ir__law_set [.val (.tuple xs), .val (.int i), .val (.int j), .val v, .un]) _
    unfold ir__law_set
    repeat trivial
    refine w_two (by with_unfolding_all rfl) (by with_unfolding_all rfl) (i_T hi hr) ?_
    repeat trivial
    rw [cut_to hj, cut_to hi]
    refine w_two (by with_unfolding_all rfl) (by with_unfolding_all rfl) (b_addT (sz (by rw [List.length_take, List.length_singleton]; omega))) ?_
    repeat trivial
    rw [cut_from (by omega)]
    refine w_two (by with_unfolding_all rfl) (by with_unfolding_all rfl) (b_addT (sz (by simp only [List.length_append, List.length_take, List.length_drop, List.length_singleton]; omega))) ?_
    repeat trivial
    refine w_two (by with_unfolding_all rfl) (by with_unfolding_all rfl) (b_addT (sz (by rw [List.length_take, List.length_singleton]; omega))) ?_
    repeat trivial
    rw [cut_from (by omega)]
    refine w_two (by with_unfolding_all rfl) (by with_unfolding_all rfl) (b_addT (sz (by simp only [List.length_append, List.length_take, List.length_drop, List.length_singleton]; omega))) ?_
    refine ⟨rfl, ?_, rfl⟩
    unfold setT
    have e1 : (i + 1).toNat = i.toNat + 1 := by omega
    have e2 : (j + 1).toNat = j.toNat + 1 := by omega
    rw [e1, e2]
    rfl
  obtain ⟨r, o, h, rfl, rfl⟩ := this
  exact h
end Cr.k01
set_option Elab.async false
set_option linter.all false
set_option maxRecDepth 100000
set_option maxHeartbeats 4000000
namespace Cr.k01
open PySem
local macro_rules | `(tactic| trivial) => `(tactic| dsimp only)
local macro_rules | `(tactic| trivial) => `(tactic| first
  | (refine ⟨_, rfl, ?_⟩; done) | (refine ⟨_, by with_unfolding_all rfl, ?_⟩) | (refine ⟨_, _, by with_unfolding_all rfl, by with_unfolding_all rfl, ?_⟩) | (refine ⟨_, _, _, _, by with_unfolding_all rfl, by with_unfolding_all rfl, by with_unfolding_all rfl, ?_⟩)
  | (refine ⟨_, by with_unfolding_all rfl, ok63_of (by omega) (by omega), ?_⟩) | (refine ⟨_, _, by with_unfolding_all rfl, by with_unfolding_all rfl, ⟨ok63_of (by omega) (by omega), ok63_of (by omega) (by omega)⟩, ?_⟩)
  | (refine ⟨⟨by with_unfolding_all rfl, by decide⟩, ?_⟩) | (refine ⟨⟨by with_unfolding_all rfl, by with_unfolding_all rfl⟩, ?_⟩))
local macro_rules | `(tactic| trivial) => `(tactic| with_reducible first
  | apply w_S1 | apply w_S0 | apply w_asg | apply w_ret | apply w_ifS | apply w_for | apply w_ex | apply w_par | apply w_pass
  | apply w_bin | apply w_idx | apply w_cmp | apply w_call | apply w_callk | apply w_blt | apply w_k | apply w_glob | apply w_tup | apply w_lst | apply w_and | apply w_or | apply w_not | apply w_ife | apply w_isi | apply w_slc | apply w_rev | apply w_neg | apply w_chain | apply w_edict | apply w_comp
  | apply w_L1 | apply w_L0 | apply w_O1 | apply w_O0 | apply w_A1 | apply w_A0 | apply w_R1 | apply w_R0 | apply w_P1 | apply w_P0 | apply w_over | apply w_rngA | apply w_rngB | apply w_enum | apply w_zip
  | apply w_g1 | apply w_g0 | apply w_tstR
  | (apply w_var; with_unfolding_all rfl) | (apply w_opV; with_unfolding_all rfl) | (apply w_op; with_unfolding_all rfl) | (apply w_arM; with_unfolding_all rfl) | (apply w_arV; with_unfolding_all rfl) | (apply w_arF; with_unfolding_all rfl) | (apply w_ar; with_unfolding_all rfl)
  | (apply w_tstB; with_unfolding_all rfl) | (apply w_tstO; with_unfolding_all rfl)
  | (apply w_gN; with_unfolding_all rfl) | (apply w_gS; with_unfolding_all rfl) | (apply w_gT; with_unfolding_all rfl; with_unfolding_all rfl)
  | (apply w_retM; with_unfolding_all rfl) | (apply w_retV; with_unfolding_all rfl) | (apply w_retE; with_unfolding_all rfl)
  | (apply w_mm; with_unfolding_all rfl)
  | (apply w_iteT; first | with_unfolding_all rfl | assumption | exact decide_eq_true (by first | assumption | omega)) | (apply w_iteF; first | with_unfolding_all rfl | assumption | exact decide_eq_false (by first | assumption | omega)))
local macro_rules | `(tactic| trivial) => `(tactic| first
  | ((with_reducible apply w_two); (with_unfolding_all rfl); (with_unfolding_all rfl); (first | exact c_eqI | exact c_neI | exact b_mul (by first | assumption | exact mulOk_l (by omega) (by omega) | exact mulOk_r (by omega) (by omega) | exact mulOk_b 200 200 (by omega) (by omega) (by decide) (by decide) (by decide)) | exact b_div (by omega) (by omega) | exact b_mod (by omega) | exact b_pow (by decide) (by decide) (by decide) (by simp; rfl) | with_unfolding_all rfl))
  | ((with_reducible apply w_one); (with_unfolding_all rfl); (with_unfolding_all rfl))
  | ((with_reducible apply w_many); (with_unfolding_all rfl); (with_unfolding_all rfl)))

local macro_rules | `(tactic| trivial) => `(tactic| with_reducible (apply w_gNW; (with_unfolding_all rfl); assumption))
local macro_rules | `(tactic| trivial) => `(tactic| with_reducible first | apply w_gM0 | apply w_gM1)
local macro_rules | `(tactic| trivial) => `(tactic| with_reducible exact sz (by simp))
local macro_rules | `(tactic| trivial) => `(tactic| with_reducible intro l hl)
local macro_rules | `(tactic| trivial) => `(tactic| with_reducible first | refine ⟨ok63_of (by omega) (by omega), ?_⟩ | refine ⟨⟨ok63_of (by omega) (by omega), ok63_of (by omega) (by omega)⟩, ?_⟩)
local macro_rules | `(tactic| trivial) => `(tactic| with_reducible refine ⟨sz (by simp), ?_⟩)

theorem _root_.Cr.IsTab.mono {m : Nat} {B B' : Int} {t : List (List Int)} (h : IsTab m B t) (hb : B ≤ B') : IsTab m B' t :=
  ⟨h.ne, h.le, h.wd, fun r hr x hx => by have := h.bd r hr x hx; omega⟩
/-- one cell of a table of ints set anew -/
def setI (t : List (List Int)) (i j : Nat) (v : Int) : List (List Int) := t.take i ++ [((t[i]?.getD []).take j ++ [v] ++ (t[i]?.getD []).drop (j + 1))] ++ t.drop (i + 1)
theorem setT_int (t : List (List Int)) (row : List Int) (i j : Nat) (v : Int) (h : t[i]? = some row) : setT (t.map rowD) (row.map .int) i j (.int v) = tabD (setI t i j v) := by
  unfold setT setI tabD
  rw [h]
  simp [rowD, List.map_take, List.map_drop]
theorem setI_tab {m : Nat} {B : Int} {t : List (List Int)} (h : IsTab m B t) {i j : Nat} {v : Int} {row : List Int} (hi : t[i]? = some row) (hj : j < row.length) (hv : -B ≤ v ∧ v ≤ B) : IsTab m B (setI t i j v) := by
  obtain ⟨C, hC1, hC2, hC⟩ := h.wd
  have hil : i < t.length := (List.getElem?_eq_some_iff.mp hi).1
  have hmem : row ∈ t := List.mem_of_getElem? hi
  have hl : (setI t i j v).length = t.length := by
    unfold setI
    simp only [List.length_append, List.length_take, List.length_drop, List.length_singleton]
    omega
  have hm : ∀ r ∈ setI t i j v, r ∈ t ∨ r = row.take j ++ [v] ++ row.drop (j + 1) := by
    intro r hr
    unfold setI at hr
    rw [hi] at hr
    simp only [List.mem_append, List.mem_singleton, Option.getD_some] at hr
    rcases hr with (hr | hr) | hr
    · exact .inl (List.mem_of_mem_take hr)
    · exact .inr hr
    · exact .inl (List.mem_of_mem_drop hr)
  refine ⟨by rw [hl]; exact h.ne, by rw [hl]; exact h.le, ⟨C, hC1, hC2, ?_⟩, ?_⟩
  · intro r hr
    rcases hm r hr with hr | rfl
    · exact hC r hr
    · have := hC row hmem
      simp only [List.length_append, List.length_take, List.length_drop, List.length_singleton]
      omega
  · intro r hr x hx
    rcases hm r hr with hr | rfl
    · exact h.bd r hr x hx
    · simp only [List.mem_append, List.mem_singleton] at hx
      rcases hx with (hx | rfl) | hx
      · exact h.bd row hmem x (List.mem_of_mem_take hx)
      · exact hv
      · exact h.bd row hmem x (List.mem_of_mem_drop hx)
theorem f11 (n m : Nat) {M W : Int} (hM : 1 ≤ M) (hM2 : M ≤ 8) (hW : 1 ≤ W) (hW2 : W ≤ 8) {d : D} (hd : Feed (m + 210) d) : ∃ t d', cf (n + 5) 11 [.mu true d, .val (.int M), .val (.int W)] = .ret (.fz (tabD t)) [.mu true d', .val (.int M), .val (.int W)] ∧ IsTab 8 (10 ^ 18) t ∧ Feed m d' := by
  rw [cf_s (n + 4) 11 e__law_loose rfl]
  have : ∃ r o, runD (cf (n + 4)) fuel e__law_loose.fd [.mu true d, .val (.int M), .val (.int W)] = .ret r o ∧ ∃ t d', r = .fz (tabD t) ∧ o = [.mu true d', .val (.int M), .val (.int W)] ∧ IsTab 8 (10 ^ 18) t ∧ Feed m d' := by
    refine run_ok rfl ?_
    show Wp (evSs (cf (n + 4)) fuel ir__law_loose [.mu true d, .val (.int M), .val (.int W), .un, .un, .un, .un, .un, .un, .un]) _
    unfold ir__law_loose
    repeat trivial
    obtain ⟨R, C, L, T, G, d1, h1, hP, ⟨hR1, hR2, hC2⟩, hd1⟩ := f9 n (m + 78) hM hM2 hW hW2 hd
    have ht : IsTab 8 (10 ^ 17) (built L T G) := built_tab hP hR1 hR2 hC2
    generalize built L T G = t at h1 ht
    refine w_callR (by with_unfolding_all rfl) nd1 rfl h1 ?_
    clear h1 hP
    repeat trivial
    obtain ⟨i, d2, h1, h2, h3, hd2⟩ := f6 (n + 3) (m := m + 77) (many := 3) hd1 (by omega) (by omega)
    refine w_callR (by with_unfolding_all rfl) nd1 rfl h1 ?_
    clear h1
    repeat trivial
    have hi : i = 0 ∨ i = 1 ∨ i = 2 := by omega
    rcases hi with rfl | rfl | rfl
    · repeat trivial
      exact ⟨ht.mono (by decide), hd2.mono (by omega)⟩
    · obtain ⟨C', hC1', hC2', hCw⟩ := ht.wd
      have htl := ht.le
      have htn := ht.ne
      obtain ⟨r0, rs, rfl⟩ : ∃ r0 rs, t = r0 :: rs := by
        cases t with
        | nil => simp at htn
        | cons a b => exact ⟨a, b, rfl⟩
      have hr0 : r0.length = C' := hCw r0 List.mem_cons_self
      repeat trivial
      rw [List.length_map]
      obtain ⟨i, d3, h1, h4, h5, hd3⟩ := f6 (n + 3) (m := m + 76) (many := ((r0 :: rs).length : Int)) hd2 (by omega) (by omega)
      refine w_callR (by with_unfolding_all rfl) nd1 rfl h1 ?_
      clear h1
      repeat trivial
      refine w_two (by with_unfolding_all rfl) (by with_unfolding_all rfl) (i_T0 (rowD r0) (rs.map rowD)) ?_
      repeat trivial
      rw [List.length_map]
      obtain ⟨j, d4, h1, h6, h7, hd4⟩ := f6 (n + 3) (m := m + 75) (many := (r0.length : Int)) hd3 (by omega) (by omega)
      refine w_callR (by with_unfolding_all rfl) nd1 rfl h1 ?_
      clear h1
      have hi : i.toNat < (r0 :: rs).length := by omega
      obtain ⟨row, hrow⟩ : ∃ row, (r0 :: rs)[i.toNat]? = some row := ⟨_, List.getElem?_eq_getElem hi⟩
      have hmem : row ∈ r0 :: rs := List.mem_of_getElem? hrow
      have hrl := hCw row hmem
      have hj : j.toNat < row.length := by omega
      have hx1 : ((r0 :: rs).map rowD)[i.toNat]? = some (rowD row) := by rw [List.getElem?_map, hrow]; rfl
      have hx2 : (row.map PyData.int)[j.toNat]? = some (.int row[j.toNat]) := by rw [List.getElem?_map, List.getElem?_eq_getElem hj]; rfl
      have hb := ht.bd row hmem _ (List.getElem_mem hj)
      repeat trivial
      refine w_two (by with_unfolding_all rfl) (by with_unfolding_all rfl) (i_T h4 hx1) ?_
      repeat trivial
      refine w_two (by with_unfolding_all rfl) (by with_unfolding_all rfl) (i_T h6 hx2) ?_
      repeat trivial
      obtain ⟨k, d5, h1, h8, h9, hd5⟩ := f6 (n + 3) (m := m + 74) (many := 7) hd4 (by omega) (by omega)
      refine w_callR (by with_unfolding_all rfl) nd1 rfl h1 ?_
      clear h1
      repeat trivial
      refine w_callR (by with_unfolding_all rfl) List.nodup_nil rfl (f12 (n + 3) ((r0 :: rs).map rowD) (row.map .int) i j (.int (row[j.toNat] + k - 3)) h4 h6 hx1 (by rw [List.length_map]; omega) (by rw [List.length_map]; omega)) ?_
      rw [setT_int _ _ _ _ _ hrow]
      exact ⟨rfl, _, d5, rfl, rfl, setI_tab (ht.mono (by decide)) hrow hj ⟨by omega, by omega⟩, hd5.mono (by omega)⟩
    · repeat trivial
      obtain ⟨x, d3, h1, hx, hd3⟩ := f7 (n + 2) (m := m + 76) (xs := [.int 2, .int 4, .int 10, .int 1000000000000]) hd2 (by simp) (by simp)
      obtain ⟨s, rfl, hs0, hs1⟩ : ∃ s : Int, x = .int s ∧ 0 < s ∧ s ≤ 10 ^ 12 := by
        simp only [List.mem_cons, List.not_mem_nil, or_false] at hx
        rcases hx with rfl | rfl | rfl | rfl <;> exact ⟨_, rfl, by decide, by decide⟩
      refine w_callR (by with_unfolding_all rfl) nd1 rfl h1 ?_
      clear h1 hx
      repeat trivial
      obtain ⟨C', hC1', hC2', hCw⟩ := ht.wd
      have htl := ht.le
      refine (comp_feed rowD rowD (fun d => [.mu true d, .val (.int M), .val (.int W), .val (.int s), .val (tabD t), .val (.int 2), .un, .un, .un, .un]) 8 m (fun r => r.length = C' ∧ ∀ x ∈ r, -(10 ^ 18) ≤ x ∧ x ≤ 10 ^ 18) t (hd3.mono (by omega)) (sz (by omega)) ?_).mono ?_
      · intro r hr d j hd
        have hrl := hCw r hr
        repeat trivial
        refine (comp_feed PyData.int PyData.int (fun d => [.mu true d, .val (.int M), .val (.int W), .val (.int s), .val (tabD t), .val (.int 2), .un, .un, .val (rowD r), .un]) 1 j (fun x => -(10 ^ 18) ≤ x ∧ x ≤ 10 ^ 18) r (hd.mono (by omega)) (sz (by omega)) ?_).mono ?_
        · intro y hy d j hd
          repeat trivial
          obtain ⟨i, d', h1, h2, h3, h4⟩ := f6 (n + 3) (many := 2 * s + 1) hd (by omega) (by omega)
          refine w_callR (by with_unfolding_all rfl) nd1 rfl h1 ?_
          clear h1
          repeat trivial
          exact ⟨i - s, d', rfl, ⟨by omega, by omega⟩, h4, rfl⟩
        · rintro _ _ ⟨l, d', rfl, hl, hp, hd', rfl⟩
          repeat trivial
          exact ⟨l, d', rfl, ⟨by omega, hp⟩, hd', rfl⟩
      · rintro _ _ ⟨l, d', rfl, hl, hp, hd', rfl⟩
        have := ht.ne
        repeat trivial
        exact ⟨⟨by omega, by omega, ⟨C', hC1', hC2', fun r hr => (hp r hr).1⟩, fun r hr => (hp r hr).2⟩, hd'⟩
  obtain ⟨r, o, h, t, d', rfl, rfl, h1, h2⟩ := this
  exact ⟨t, d', h, h1, h2⟩
end Cr.k01
set_option Elab.async false
set_option linter.all false
set_option maxRecDepth 100000
set_option maxHeartbeats 4000000
namespace Cr.k01
open PySem
local macro_rules | `(tactic| trivial) => `(tactic| dsimp only)
local macro_rules | `(tactic| trivial) => `(tactic| first
  | (refine ⟨_, rfl, ?_⟩; done) | (refine ⟨_, by with_unfolding_all rfl, ?_⟩) | (refine ⟨_, _, by with_unfolding_all rfl, by with_unfolding_all rfl, ?_⟩) | (refine ⟨_, _, _, _, by with_unfolding_all rfl, by with_unfolding_all rfl, by with_unfolding_all rfl, ?_⟩)
  | (refine ⟨_, by with_unfolding_all rfl, ok63_of (by omega) (by omega), ?_⟩) | (refine ⟨_, _, by with_unfolding_all rfl, by with_unfolding_all rfl, ⟨ok63_of (by omega) (by omega), ok63_of (by omega) (by omega)⟩, ?_⟩)
  | (refine ⟨⟨by with_unfolding_all rfl, by decide⟩, ?_⟩) | (refine ⟨⟨by with_unfolding_all rfl, by with_unfolding_all rfl⟩, ?_⟩))
local macro_rules | `(tactic| trivial) => `(tactic| with_reducible first
  | apply w_S1 | apply w_S0 | apply w_asg | apply w_ret | apply w_ifS | apply w_for | apply w_ex | apply w_par | apply w_pass
  | apply w_bin | apply w_idx | apply w_cmp | apply w_call | apply w_callk | apply w_blt | apply w_k | apply w_glob | apply w_tup | apply w_lst | apply w_and | apply w_or | apply w_not | apply w_ife | apply w_isi | apply w_slc | apply w_rev | apply w_neg | apply w_chain | apply w_edict | apply w_comp
  | apply w_L1 | apply w_L0 | apply w_O1 | apply w_O0 | apply w_A1 | apply w_A0 | apply w_R1 | apply w_R0 | apply w_P1 | apply w_P0 | apply w_over | apply w_rngA | apply w_rngB | apply w_enum | apply w_zip
  | apply w_g1 | apply w_g0 | apply w_tstR
  | (apply w_var; with_unfolding_all rfl) | (apply w_opV; with_unfolding_all rfl) | (apply w_op; with_unfolding_all rfl) | (apply w_arM; with_unfolding_all rfl) | (apply w_arV; with_unfolding_all rfl) | (apply w_arF; with_unfolding_all rfl) | (apply w_ar; with_unfolding_all rfl)
  | (apply w_tstB; with_unfolding_all rfl) | (apply w_tstO; with_unfolding_all rfl)
  | (apply w_gN; with_unfolding_all rfl) | (apply w_gS; with_unfolding_all rfl) | (apply w_gT; with_unfolding_all rfl; with_unfolding_all rfl)
  | (apply w_retM; with_unfolding_all rfl) | (apply w_retV; with_unfolding_all rfl) | (apply w_retE; with_unfolding_all rfl)
  | (apply w_mm; with_unfolding_all rfl)
  | (apply w_iteT; first | with_unfolding_all rfl | assumption | exact decide_eq_true (by first | assumption | omega)) | (apply w_iteF; first | with_unfolding_all rfl | assumption | exact decide_eq_false (by first | assumption | omega)))
local macro_rules | `(tactic| trivial) => `(tactic| first
  | ((with_reducible apply w_two); (with_unfolding_all rfl); (with_unfolding_all rfl); (first | exact c_eqI | exact c_neI | exact b_mul (by first | assumption | exact mulOk_l (by omega) (by omega) | exact mulOk_r (by omega) (by omega) | exact mulOk_b 200 200 (by omega) (by omega) (by decide) (by decide) (by decide)) | exact b_div (by omega) (by omega) | exact b_mod (by omega) | exact b_pow (by decide) (by decide) (by decide) (by simp; rfl) | with_unfolding_all rfl))
  | ((with_reducible apply w_one); (with_unfolding_all rfl); (with_unfolding_all rfl))
  | ((with_reducible apply w_many); (with_unfolding_all rfl); (with_unfolding_all rfl)))

local macro_rules | `(tactic| trivial) => `(tactic| with_reducible (apply w_gNW; (with_unfolding_all rfl); assumption))
local macro_rules | `(tactic| trivial) => `(tactic| with_reducible first | apply w_gM0 | apply w_gM1)
local macro_rules | `(tactic| trivial) => `(tactic| with_reducible exact sz (by simp))
local macro_rules | `(tactic| trivial) => `(tactic| with_reducible intro l hl)
local macro_rules | `(tactic| trivial) => `(tactic| with_reducible first | refine ⟨ok63_of (by omega) (by omega), ?_⟩ | refine ⟨⟨ok63_of (by omega) (by omega), ok63_of (by omega) (by omega)⟩, ?_⟩)
local macro_rules | `(tactic| trivial) => `(tactic| with_reducible refine ⟨sz (by simp), ?_⟩)


def mulT (t : List (List Int)) (k : Int) : List (List Int) := t.map fun r => r.map (· * k)
theorem mulT_tab {t : List (List Int)} {k : Int} (h : IsTab 8 (10 ^ 18) t) (hk : 0 ≤ k) (hk2 : k ≤ 10 ^ 15) : IsTab 8 (10 ^ 33) (mulT t k) := by
  obtain ⟨C, h1, h2, h3⟩ := h.wd
  refine ⟨by rw [mulT, List.length_map]; exact h.ne, by rw [mulT, List.length_map]; exact h.le, ⟨C, h1, h2, ?_⟩, ?_⟩
  · intro r hr
    obtain ⟨r', hr', rfl⟩ := List.mem_map.mp hr
    rw [List.length_map]; exact h3 r' hr'
  · intro r hr x hx
    obtain ⟨r', hr', rfl⟩ := List.mem_map.mp hr
    obtain ⟨y, hy, rfl⟩ := List.mem_map.mp hx
    have hb := h.bd r' hr' y hy
    have e1 : y * k ≤ 10 ^ 18 * k := Int.mul_le_mul_of_nonneg_right hb.2 hk
    have e2 : -(10 ^ 18) * k ≤ y * k := Int.mul_le_mul_of_nonneg_right hb.1 hk
    omega
theorem f13 (n m : Nat) {d : D} (hd : Feed (m + 213) d) : ∃ t d', cf (n + 6) 13 [.mu true d] = .ret (.fz (tabD t)) [.mu true d'] ∧ IsTab 8 (10 ^ 33) t ∧ Feed m d' := by
  rw [cf_s (n + 5) 13 e__law_any rfl]
  have : ∃ r o, runD (cf (n + 5)) fuel e__law_any.fd [.mu true d] = .ret r o ∧ ∃ t d', r = .fz (tabD t) ∧ o = [.mu true d'] ∧ IsTab 8 (10 ^ 33) t ∧ Feed m d' := by
    refine run_ok rfl ?_
    show Wp (evSs (cf (n + 5)) fuel ir__law_any [.mu true d, .un, .un, .un, .un, .un]) _
    unfold ir__law_any
    repeat trivial
    obtain ⟨x, d1, h1, hx, hd1⟩ := f7 (n + 3) (m := m + 212) (xs := [.int 3, .int 5, .int 8]) hd (by simp) (by simp)
    obtain ⟨s, rfl, hs0, hs1⟩ : ∃ s : Int, x = .int s ∧ 1 ≤ s ∧ s ≤ 8 := by
      simp only [List.mem_cons, List.not_mem_nil, or_false] at hx
      rcases hx with rfl | rfl | rfl <;> exact ⟨_, rfl, by decide, by decide⟩
    refine w_callR (by with_unfolding_all rfl) nd1 rfl h1 ?_
    clear h1 hx
    repeat trivial
    obtain ⟨t, d2, h1, ht, hd2⟩ := f11 n (m + 2) hs0 hs1 hs0 hs1 hd1
    refine w_callR (by with_unfolding_all rfl) nd1 rfl h1 ?_
    clear h1
    repeat trivial
    obtain ⟨i, d3, h1, h2, h3, hd3⟩ := f6 (n + 4) (m := m + 1) (many := 5) hd2 (by omega) (by omega)
    refine w_callR (by with_unfolding_all rfl) nd1 rfl h1 ?_
    clear h1
    by_cases hi : i = 0
    · repeat trivial
      obtain ⟨k, d4, h1, h4, h5, hd4⟩ := f6 (n + 4) (m := m) (many := 300000000000000) hd3 (by omega) (by omega)
      refine w_callR (by with_unfolding_all rfl) nd1 rfl h1 ?_
      clear h1
      obtain ⟨C', hC1', hC2', hCw⟩ := ht.wd
      have htl := ht.le
      repeat trivial
      refine (comp_map rowD (fun r => rowD (r.map (· * (100000000000000 + k)))) t [] (fun r hr => ?_) (sz (by simp; omega))).mono ?_
      · have hrl := hCw r hr
        have hrb := ht.bd r hr
        repeat trivial
        refine (comp_map PyData.int (fun x => .int (x * (100000000000000 + k))) r [] (fun x hx => ?_) (sz (by simp; omega))).mono ?_
        · have hxb := hrb x hx
          repeat trivial
        · rintro _ _ ⟨rfl, rfl⟩
          repeat trivial
          refine ⟨?_, rfl⟩
          unfold rowD
          rw [List.nil_append, List.map_map]
          rfl
      · rintro _ _ ⟨rfl, rfl⟩
        repeat trivial
        have e1 : PyData.tuple ([] ++ t.map fun r => rowD (r.map (· * (100000000000000 + k)))) = tabD (mulT t (100000000000000 + k)) := by
          unfold tabD mulT
          rw [List.nil_append, List.map_map]
          rfl
        exact ⟨rfl, mulT t (100000000000000 + k), d4, congrArg Rv.fz e1, rfl, mulT_tab ht (by omega) (by omega), hd4⟩
    · repeat trivial
      exact ⟨ht.mono (by decide), hd3.mono (by omega)⟩
  obtain ⟨r, o, h, t, d', rfl, rfl, h1, h2⟩ := this
  exact ⟨t, d', h, h1, h2⟩
end Cr.k01
set_option Elab.async false
set_option linter.all false
set_option maxRecDepth 100000
set_option maxHeartbeats 4000000
namespace Cr.k01
open PySem
local macro_rules | `(tactic| trivial) => `(tactic| dsimp only)
local macro_rules | `(tactic| trivial) => `(tactic| first
  | (refine ⟨_, rfl, ?_⟩; done) | (refine ⟨_, by with_unfolding_all rfl, ?_⟩) | (refine ⟨_, _, by with_unfolding_all rfl, by with_unfolding_all rfl, ?_⟩) | (refine ⟨_, _, _, _, by with_unfolding_all rfl, by with_unfolding_all rfl, by with_unfolding_all rfl, ?_⟩)
  | (refine ⟨_, by with_unfolding_all rfl, ok63_of (by omega) (by omega), ?_⟩) | (refine ⟨_, _, by with_unfolding_all rfl, by with_unfolding_all rfl, ⟨ok63_of (by omega) (by omega), ok63_of (by omega) (by omega)⟩, ?_⟩)
  | (refine ⟨⟨by with_unfolding_all rfl, by decide⟩, ?_⟩) | (refine ⟨⟨by with_unfolding_all rfl, by with_unfolding_all rfl⟩, ?_⟩))
local macro_rules | `(tactic| trivial) => `(tactic| with_reducible first
  | apply w_S1 | apply w_S0 | apply w_asg | apply w_ret | apply w_ifS | apply w_for | apply w_ex | apply w_par | apply w_pass
  | apply w_bin | apply w_idx | apply w_cmp | apply w_call | apply w_callk | apply w_blt | apply w_k | apply w_glob | apply w_tup | apply w_lst | apply w_and | apply w_or | apply w_not | apply w_ife | apply w_isi | apply w_slc | apply w_rev | apply w_neg | apply w_chain | apply w_edict | apply w_comp
  | apply w_L1 | apply w_L0 | apply w_O1 | apply w_O0 | apply w_A1 | apply w_A0 | apply w_R1 | apply w_R0 | apply w_P1 | apply w_P0 | apply w_over | apply w_rngA | apply w_rngB | apply w_enum | apply w_zip
  | apply w_g1 | apply w_g0 | apply w_tstR
  | (apply w_var; with_unfolding_all rfl) | (apply w_opV; with_unfolding_all rfl) | (apply w_op; with_unfolding_all rfl) | (apply w_arM; with_unfolding_all rfl) | (apply w_arV; with_unfolding_all rfl) | (apply w_arF; with_unfolding_all rfl) | (apply w_ar; with_unfolding_all rfl)
  | (apply w_tstB; with_unfolding_all rfl) | (apply w_tstO; with_unfolding_all rfl)
  | (apply w_gN; with_unfolding_all rfl) | (apply w_gS; with_unfolding_all rfl) | (apply w_gT; with_unfolding_all rfl; with_unfolding_all rfl)
  | (apply w_retM; with_unfolding_all rfl) | (apply w_retV; with_unfolding_all rfl) | (apply w_retE; with_unfolding_all rfl)
  | (apply w_mm; with_unfolding_all rfl)
  | (apply w_iteT; first | with_unfolding_all rfl | assumption | exact decide_eq_true (by first | assumption | omega)) | (apply w_iteF; first | with_unfolding_all rfl | assumption | exact decide_eq_false (by first | assumption | omega)))
local macro_rules | `(tactic| trivial) => `(tactic| first
  | ((with_reducible apply w_two); (with_unfolding_all rfl); (with_unfolding_all rfl); (first | exact c_eqI | exact c_neI | exact b_mul (by first | assumption | exact mulOk_l (by omega) (by omega) | exact mulOk_r (by omega) (by omega) | exact mulOk_b 200 200 (by omega) (by omega) (by decide) (by decide) (by decide)) | exact b_div (by omega) (by omega) | exact b_mod (by omega) | exact b_pow (by decide) (by decide) (by decide) (by simp; rfl) | with_unfolding_all rfl))
  | ((with_reducible apply w_one); (with_unfolding_all rfl); (with_unfolding_all rfl))
  | ((with_reducible apply w_many); (with_unfolding_all rfl); (with_unfolding_all rfl)))

local macro_rules | `(tactic| trivial) => `(tactic| with_reducible (apply w_gNW; (with_unfolding_all rfl); assumption))
local macro_rules | `(tactic| trivial) => `(tactic| with_reducible first | apply w_gM0 | apply w_gM1)
local macro_rules | `(tactic| trivial) => `(tactic| with_reducible exact sz (by simp))
local macro_rules | `(tactic| trivial) => `(tactic| with_reducible intro l hl)
local macro_rules | `(tactic| trivial) => `(tactic| with_reducible first | refine ⟨ok63_of (by omega) (by omega), ?_⟩ | refine ⟨⟨ok63_of (by omega) (by omega), ok63_of (by omega) (by omega)⟩, ?_⟩)
local macro_rules | `(tactic| trivial) => `(tactic| with_reducible refine ⟨sz (by simp), ?_⟩)


theorem c_neNil (ns : List Int) : (cmpD .NotEq (.list (ns.map PyData.int)) (.list [])).map (fun b => Rv.fz (.bool b)) = some (.fz (.bool (!ns.isEmpty))) := by
  have e1 : SeqAt.shaped (.list (ns.map PyData.int)) = true := W.ke_shaped_ints ns
  have e2 : SeqAt.shaped (.list []) = true := W.ke_shaped_ints []
  show Option.map _ ((eqD _ _).map _) = _
  unfold eqD twoS
  dsimp only
  rw [if_pos ⟨e1, e2⟩]
  cases ns <;> rfl
theorem rowI_not (x : D) (m : Int) (h : ∀ ys, x ≠ .tuple ys) : rowI x m = false := by
  cases x with
  | tuple ys => exact absurd rfl (h ys)
  | _ => rfl
theorem rowI_tup (ys : List D) (m : Int) : rowI (.tuple ys) m = (decide ((ys.length : Int) = m) && ys.all isI) := by
  unfold rowI rowOf
  by_cases h : (ys.length : Int) = m
  · subst h; simp
  · have : ¬ (m ≤ (ys.length : Int) ∧ (ys.length : Int) ≤ m) := by omega
    simp only [h, decide_false, Bool.false_and]
    rw [← Bool.decide_and]
    rw [decide_eq_false this]
    rfl
theorem f14_a (n : Nat) (d : D) (hd : Nrw d) (h : ∀ x xs, d = .tuple (.tuple x :: xs) → ¬ xs.length < 8) : cf (n + 1) 14 [.val d] = .ret (.fz (.bool false)) [.val d] := by
  rw [cf_s n 14 e__law_is_table rfl]
  cases d with
  | tuple xs =>
    cases xs with
    | nil => rfl
    | cons x xs =>
      have : ∃ r o, runD (cf n) fuel e__law_is_table.fd [.val (.tuple (x :: xs))] = .ret r o ∧ r = .fz (.bool false) ∧ o = [.val (.tuple (x :: xs))] := by
        refine run_ok rfl ?_
        show Wp (evSs (cf n) fuel ir__law_is_table [.val (.tuple (x :: xs)), .un, .un]) _
        unfold ir__law_is_table
        have h0 := List.length_cons (a := x) (as := xs)
        by_cases hl : xs.length < 8
        · repeat trivial
          refine w_two (by with_unfolding_all rfl) (by with_unfolding_all rfl) (i_T0 x xs) ?_
          cases x with
          | tuple ys => exact absurd hl (h _ _ rfl)
          | _ => repeat trivial
        · repeat trivial
      obtain ⟨r, o, h, rfl, rfl⟩ := this
      exact h
  | _ => rfl
theorem comp_filterI {own : List Nat} {asg : D → Ev → Rs Unit} {c : Ev → Rs Bool} {f : Ev → Rs Rv} {e : Ev} (ψ : D → D) (t : D → Bool) (xs : List D) (acc : List D) (h : ∀ x ∈ xs, Wp (asg x e) fun _ e1 => Wp (c e1) fun b e2 => b = t x ∧ if b = true then Wp (f e2) fun v e3 => v.d = ψ x ∧ wipeE e3 own = some e else wipeE e2 own = some e) (hl : acc.length + xs.length ≤ sizeLine) :
    Wp (compL own asg c f xs acc e) fun r e' => r = acc ++ (xs.filter t).map ψ ∧ e' = e := by
  have := comp_filter (own := own) (asg := asg) (c := c) (f := f) (e := e) (fun x : D => x) ψ t xs acc h hl
  rw [List.map_id'] at this
  exact this
theorem filt_all : ∀ zs : List D, ((zs.filter fun x => !isI x).map fun _ => (1 : Int)).isEmpty = zs.all isI
  | [] => rfl
  | x :: zs => by
    have ih := filt_all zs
    rw [List.filter_cons, List.all_cons]
    cases h : isI x
    · simp
    · simpa using ih
theorem f14_row (n : Nat) (ys xs : List D) (r : D) (hr : ∀ zs, r = .tuple zs → zs.length ≤ 1000) (hy0 : ys ≠ []) (hy : ys.length ≤ 8) {P : Fl → Ev → Prop}
    (hT : rowI r ys.length = true → P .nx [.val (.tuple (.tuple ys :: xs)), .val r, .un]) (hF : rowI r ys.length = false → P (.rt (.fz (.bool false))) [.val (.tuple (.tuple ys :: xs)), .val r, .un]) :
    Wp (evSs (cf n) fuel (match ir__law_is_table with | [_, .for_ _ _ b, _] => b | _ => []) [.val (.tuple (.tuple ys :: xs)), .val r, .un]) P := by
  show Wp (evSs (cf n) fuel [.ife _ _ _, .ife _ _ _] _) P
  have hyl : 0 < ys.length := List.length_pos_iff.mpr hy0
  cases r with
  | tuple zs =>
    have hz := hr zs rfl
    by_cases hl : zs.length = ys.length
    · repeat trivial
      refine w_two (by with_unfolding_all rfl) (by with_unfolding_all rfl) (i_T0 _ xs) ?_
      have hlI : (zs.length : Int) = (ys.length : Int) := by omega
      repeat trivial
      refine w_iteF (by rw [decide_eq_true hlI]; rfl) ?_
      repeat trivial
      refine (comp_filterI (fun _ => PyData.int 1) (fun x => !isI x) zs [] (fun x hx => ?_) (sz (by simp; omega))).mono ?_
      · cases x <;> repeat trivial
      · rintro _ _ ⟨rfl, rfl⟩
        repeat trivial
        have e1 : ([] ++ (zs.filter fun x => !isI x).map (fun _ => PyData.int 1)) = ((zs.filter fun x => !isI x).map fun _ => (1 : Int)).map PyData.int := by
          rw [List.nil_append, List.map_map]; rfl
        rw [e1]
        refine w_two (by with_unfolding_all rfl) (by with_unfolding_all rfl) (c_neNil _) ?_
        rw [filt_all]
        cases h : zs.all isI
        · have hP := hF (by rw [rowI_tup, h, Bool.and_false])
          repeat trivial
        · have hP := hT (by rw [rowI_tup, h, decide_eq_true hlI]; rfl)
          repeat trivial
    · have hP := hF (by rw [rowI_tup]; simp; intro h; omega)
      have hlI : ¬ (zs.length : Int) = (ys.length : Int) := by omega
      by_cases h1 : zs.length < 1
      · repeat trivial
      · by_cases h2 : 8 < zs.length
        · repeat trivial
        · repeat trivial
          refine w_two (by with_unfolding_all rfl) (by with_unfolding_all rfl) (i_T0 _ xs) ?_
          repeat trivial
          refine w_iteT (by rw [decide_eq_false hlI]; rfl) ?_
          repeat trivial
  | _ =>
    have hP := hF rfl
    repeat trivial
theorem for_overI {asg : D → Ev → Rs Unit} {body : Ev → Rs Fl} {Q : Fl → Ev → Prop} (J : List D → Ev → Prop) (xs : List D) (e : Ev) (h0 : J [] e) (h : ∀ d' x r e, xs = d' ++ x :: r → J d' e → Wp (asg x e) fun _ e1 => Wp (body e1) (Nxt (J (d' ++ [x])) Q))
    (hd : ∀ e, J xs e → Q .nx e) : Wp (forL asg body xs e) Q := by
  have := for_over (fun x : D => x) J xs e h0 h hd
  rw [List.map_id'] at this
  exact this
theorem f14_b (n : Nat) (ys xs : List D) (hd : Nrw (.tuple (.tuple ys :: xs))) (hl : xs.length < 8) (hb : ys.length = 0 ∨ 8 < ys.length) : cf (n + 1) 14 [.val (.tuple (.tuple ys :: xs))] = .ret (.fz (.bool false)) [.val (.tuple (.tuple ys :: xs))] := by
  rw [cf_s n 14 e__law_is_table rfl]
  have : ∃ r o, runD (cf n) fuel e__law_is_table.fd [.val (.tuple (.tuple ys :: xs))] = .ret r o ∧ r = .fz (.bool false) ∧ o = [.val (.tuple (.tuple ys :: xs))] := by
    refine run_ok rfl ?_
    show Wp (evSs (cf n) fuel ir__law_is_table [.val (.tuple (.tuple ys :: xs)), .un, .un]) _
    unfold ir__law_is_table
    have h0 := List.length_cons (a := PyData.tuple ys) (as := xs)
    repeat trivial
    refine w_two (by with_unfolding_all rfl) (by with_unfolding_all rfl) (i_T0 _ xs) ?_
    repeat trivial
    refine for_overI (fun d e => d = [] ∧ e = [.val (.tuple (.tuple ys :: xs)), .un, .un]) _ _ ⟨rfl, rfl⟩ ?_ ?_
    · rintro d x r e hx ⟨rfl, rfl⟩
      rw [List.nil_append] at hx
      cases hx
      rcases hb with hb | hb
      · repeat trivial
      · have : ¬ ys.length < 1 := by omega
        repeat trivial
    · rintro e ⟨h, _⟩
      cases h
  obtain ⟨r, o, h, rfl, rfl⟩ := this
  exact h
theorem f14_c (n : Nat) (ys xs : List D) (hd : Nrw (.tuple (.tuple ys :: xs))) (hl : xs.length < 8) (hy0 : ys ≠ []) (hy : ys.length ≤ 8) : cf (n + 1) 14 [.val (.tuple (.tuple ys :: xs))] = .ret (.fz (.bool ((.tuple ys :: xs).all fun r => rowI r ys.length))) [.val (.tuple (.tuple ys :: xs))] := by
  rw [cf_s n 14 e__law_is_table rfl]
  have : ∃ r o, runD (cf n) fuel e__law_is_table.fd [.val (.tuple (.tuple ys :: xs))] = .ret r o ∧ r = .fz (.bool ((PyData.tuple ys :: xs).all fun r => rowI r ys.length)) ∧ o = [.val (.tuple (.tuple ys :: xs))] := by
    refine run_ok rfl ?_
    show Wp (evSs (cf n) fuel ir__law_is_table [.val (.tuple (.tuple ys :: xs)), .un, .un]) _
    unfold ir__law_is_table
    have h0 := List.length_cons (a := PyData.tuple ys) (as := xs)
    repeat trivial
    refine w_two (by with_unfolding_all rfl) (by with_unfolding_all rfl) (i_T0 _ xs) ?_
    repeat trivial
    refine for_overI (fun d e => (∀ r ∈ d, rowI r ys.length = true) ∧ ∃ s1, s1.W ∧ e = [.val (.tuple (.tuple ys :: xs)), s1, .un]) _ _ ⟨by simp, .un, True.intro, rfl⟩ ?_ ?_
    · rintro d x r e hx ⟨hJ, s1, w1, rfl⟩
      have hm : x ∈ PyData.tuple ys :: xs := by rw [hx]; simp
      refine w_gNW rfl w1 ?_
      refine f14_row n ys xs x (fun zs hz => hd.2 _ _ rfl hm zs hz) hy0 hy (fun h => ?_) (fun h => ?_)
      · refine ⟨?_, .val x, True.intro, rfl⟩
        intro r hr
        rcases List.mem_append.mp hr with hr | hr
        · exact hJ r hr
        · rw [List.mem_singleton.mp hr]; exact h
      · refine ⟨rfl, ?_, rfl⟩
        have : ((PyData.tuple ys :: xs).all fun r => rowI r ys.length) = false := by
          rw [List.all_eq_false]
          exact ⟨x, hm, by rw [h]; decide⟩
        rw [this]
    · rintro e ⟨hJ, s1, w1, rfl⟩
      repeat trivial
      have : ((PyData.tuple ys :: xs).all fun r => rowI r ys.length) = true := List.all_eq_true.mpr hJ
      rw [this]
      exact ⟨rfl, rfl, rfl⟩
  obtain ⟨r, o, h, rfl, rfl⟩ := this
  exact h
theorem f14 (n : Nat) (d : D) (hd : Nrw d) : cf (n + 1) 14 [.val d] = .ret (.fz (.bool (formB d))) [.val d] := by
  by_cases h : ∃ ys xs, d = .tuple (.tuple ys :: xs) ∧ xs.length < 8
  · obtain ⟨ys, xs, rfl, hl⟩ := h
    by_cases hb : ys.length = 0 ∨ 8 < ys.length
    · rw [f14_b n ys xs hd hl hb]
      have : formB (.tuple (.tuple ys :: xs)) = false := by
        have : ¬ (1 ≤ ys.length ∧ ys.length ≤ 8) := by omega
        unfold formB
        dsimp only
        rw [← Bool.decide_and, decide_eq_false this]
        simp
      rw [this]
    · have h0 : ys ≠ [] := by
        intro h; subst h; exact hb (.inl rfl)
      have h8 : ys.length ≤ 8 := by omega
      have h1 : 1 ≤ ys.length := by omega
      rw [f14_c n ys xs hd hl h0 h8]
      have : formB (.tuple (.tuple ys :: xs)) = (PyData.tuple ys :: xs).all fun r => rowI r ys.length := by
        unfold formB
        dsimp only
        rw [decide_eq_true hl, decide_eq_true h1, decide_eq_true h8]
        simp
      rw [this]
  · rw [f14_a n d hd fun x xs hx hl => h ⟨x, xs, hx, hl⟩]
    have : formB d = false := by
      cases hf : formB d with
      | false => rfl
      | true =>
        exfalso
        cases d with
        | tuple l =>
          cases l with
          | nil => cases hf
          | cons r0 rs =>
            unfold formB at hf
            dsimp only at hf
            rw [Bool.and_eq_true] at hf
            cases r0 with
            | tuple ys => exact h ⟨ys, rs, rfl, of_decide_eq_true hf.1⟩
            | _ => cases hf.2
        | _ => cases hf
    rw [this]
end Cr.k01
set_option Elab.async false
set_option linter.all false
set_option maxRecDepth 100000
set_option maxHeartbeats 4000000
namespace Cr.k01
open PySem
local macro_rules | `(tactic| trivial) => `(tactic| dsimp only)
local macro_rules | `(tactic| trivial) => `(tactic| first
  | (refine ⟨_, rfl, ?_⟩; done) | (refine ⟨_, by with_unfolding_all rfl, ?_⟩) | (refine ⟨_, _, by with_unfolding_all rfl, by with_unfolding_all rfl, ?_⟩) | (refine ⟨_, _, _, _, by with_unfolding_all rfl, by with_unfolding_all rfl, by with_unfolding_all rfl, ?_⟩)
  | (refine ⟨_, by with_unfolding_all rfl, ok63_of (by omega) (by omega), ?_⟩) | (refine ⟨_, _, by with_unfolding_all rfl, by with_unfolding_all rfl, ⟨ok63_of (by omega) (by omega), ok63_of (by omega) (by omega)⟩, ?_⟩)
  | (refine ⟨⟨by with_unfolding_all rfl, by decide⟩, ?_⟩) | (refine ⟨⟨by with_unfolding_all rfl, by with_unfolding_all rfl⟩, ?_⟩))
local macro_rules | `(tactic| trivial) => `(tactic| with_reducible first
  | apply w_S1 | apply w_S0 | apply w_asg | apply w_ret | apply w_ifS | apply w_for | apply w_ex | apply w_par | apply w_pass
  | apply w_bin | apply w_idx | apply w_cmp | apply w_call | apply w_callk | apply w_blt | apply w_k | apply w_glob | apply w_tup | apply w_lst | apply w_and | apply w_or | apply w_not | apply w_ife | apply w_isi | apply w_slc | apply w_rev | apply w_neg | apply w_chain | apply w_edict | apply w_comp
  | apply w_L1 | apply w_L0 | apply w_O1 | apply w_O0 | apply w_A1 | apply w_A0 | apply w_R1 | apply w_R0 | apply w_P1 | apply w_P0 | apply w_over | apply w_rngA | apply w_rngB | apply w_enum | apply w_zip
  | apply w_g1 | apply w_g0 | apply w_tstR
  | (apply w_var; with_unfolding_all rfl) | (apply w_opV; with_unfolding_all rfl) | (apply w_op; with_unfolding_all rfl) | (apply w_arM; with_unfolding_all rfl) | (apply w_arV; with_unfolding_all rfl) | (apply w_arF; with_unfolding_all rfl) | (apply w_ar; with_unfolding_all rfl)
  | (apply w_tstB; with_unfolding_all rfl) | (apply w_tstO; with_unfolding_all rfl)
  | (apply w_gN; with_unfolding_all rfl) | (apply w_gS; with_unfolding_all rfl) | (apply w_gT; with_unfolding_all rfl; with_unfolding_all rfl)
  | (apply w_retM; with_unfolding_all rfl) | (apply w_retV; with_unfolding_all rfl) | (apply w_retE; with_unfolding_all rfl)
  | (apply w_mm; with_unfolding_all rfl)
  | (apply w_iteT; first | with_unfolding_all rfl | assumption | exact decide_eq_true (by first | assumption | omega)) | (apply w_iteF; first | with_unfolding_all rfl | assumption | exact decide_eq_false (by first | assumption | omega)))
local macro_rules | `(tactic| trivial) => `(tactic| first
  | ((with_reducible apply w_two); (with_unfolding_all rfl); (with_unfolding_all rfl); (first | exact c_eqI | exact c_neI | exact b_mul (by first | assumption | exact mulOk_l (by omega) (by omega) | exact mulOk_r (by omega) (by omega) | exact mulOk_b 200 200 (by omega) (by omega) (by decide) (by decide) (by decide)) | exact b_div (by omega) (by omega) | exact b_mod (by omega) | exact b_pow (by decide) (by decide) (by decide) (by simp; rfl) | with_unfolding_all rfl))
  | ((with_reducible apply w_one); (with_unfolding_all rfl); (with_unfolding_all rfl))
  | ((with_reducible apply w_many); (with_unfolding_all rfl); (with_unfolding_all rfl)))

local macro_rules | `(tactic| trivial) => `(tactic| with_reducible (apply w_gNW; (with_unfolding_all rfl); assumption))
local macro_rules | `(tactic| trivial) => `(tactic| with_reducible first | apply w_gM0 | apply w_gM1)
local macro_rules | `(tactic| trivial) => `(tactic| with_reducible exact sz (by simp))
local macro_rules | `(tactic| trivial) => `(tactic| with_reducible intro l hl)
local macro_rules | `(tactic| trivial) => `(tactic| with_reducible first | refine ⟨ok63_of (by omega) (by omega), ?_⟩ | refine ⟨⟨ok63_of (by omega) (by omega), ok63_of (by omega) (by omega)⟩, ?_⟩)
local macro_rules | `(tactic| trivial) => `(tactic| with_reducible refine ⟨sz (by simp), ?_⟩)


/-- what may stand in a near table's tuple -/
structure Rw (b h : Nat) (x : D) : Prop where
  s : Shw b h x
  l : ∀ ys, x = .tuple ys → ys.length ≤ 1000
theorem Rw.mono {b h b' h' : Nat} {x : D} (r : Rw b h x) (hb : b ≤ b') (hh : h ≤ h') : Rw b' h' x := ⟨r.s.mono hb hh, r.l⟩
structure Good (x : D) : Prop where
  n : Nrw x
  s : Shw 1000000 8 x
theorem good_tup {xs : List D} (hl : xs.length ≤ 20) (h : ∀ x ∈ xs, Rw 12000 7 x) : Good (.tuple xs) := by
  refine ⟨⟨?_, ?_⟩, ?_⟩
  · intro ys e; cases e; omega
  · intro ys x e hx zs hz; cases e; exact (h x hx).l zs hz
  · exact (shw_tuple (n := 20) (fun x hx => (h x hx).s) hl).mono (by omega) (by omega)
theorem good_lst {xs : List D} (hl : xs.length ≤ 20) (h : ∀ x ∈ xs, Rw 12000 7 x) : Good (.list xs) := by
  refine ⟨⟨?_, ?_⟩, ?_⟩
  · intro ys e; cases e
  · intro ys x e; cases e
  · exact (shw_list (n := 20) (fun x hx => (h x hx).s) hl).mono (by omega) (by omega)
theorem good_sc {x : D} (h : Rw 12000 7 x) (hx : ∀ ys, x ≠ .tuple ys) : Good x :=
  ⟨⟨fun ys e => absurd e (hx ys), fun ys _ e => absurd e (hx ys)⟩, h.s.mono (by decide) (by decide)⟩
theorem rw_int {i : Int} (h : i.natAbs < 2 ^ 120) : Rw 121 0 (.int i) := ⟨shw_int (by decide) (by decide) h, fun _ e => by cases e⟩
theorem rw_none : Rw 121 0 .none := ⟨shw_none.mono (by decide) (by decide), fun _ e => by cases e⟩
theorem rw_bool (b : Bool) : Rw 121 0 (.bool b) := ⟨(shw_bool b).mono (by decide) (by decide), fun _ e => by cases e⟩
theorem rw_dict : Rw 121 1 (.dict []) := ⟨shw_dict.mono (by decide) (by decide), fun _ e => by cases e⟩
theorem rw_s0 : Rw 121 0 (.str (Str.ofString "")) := ⟨⟨rfl, by simp only [PyData.shown]; decide, by simp [PyData.depth]⟩, fun _ e => by cases e⟩
theorem rw_s1 : Rw 121 0 (.str (Str.ofString "1")) := ⟨⟨rfl, by simp only [PyData.shown]; decide +kernel, by simp [PyData.depth]⟩, fun _ e => by cases e⟩
theorem rw_s12 : Rw 121 0 (.str (Str.ofString "12")) := ⟨⟨rfl, by simp only [PyData.shown]; decide +kernel, by simp [PyData.depth]⟩, fun _ e => by cases e⟩
theorem rw_tup {b h n : Nat} {xs : List D} (hl : xs.length ≤ n) (hn : n ≤ 1000) (hx : ∀ x ∈ xs, Rw b h x) : Rw (3 + n * (b + 2)) (h + 1) (.tuple xs) :=
  ⟨shw_tuple (fun x h => (hx x h).s) hl, fun ys e => by cases e; omega⟩
theorem rw_lst {b h n : Nat} {xs : List D} (hl : xs.length ≤ n) (hx : ∀ x ∈ xs, Rw b h x) : Rw (3 + n * (b + 2)) (h + 1) (.list xs) :=
  ⟨shw_list (fun x h => (hx x h).s) hl, fun ys e => by cases e⟩
theorem rw_row {B : Int} {t : List (List Int)} (h : IsTab 8 B t) (hB : B ≤ 10 ^ 33) {r : List Int} (hr : r ∈ t) : Rw 987 1 (rowD r) := by
  obtain ⟨C, h1, h2, h3⟩ := h.wd
  refine (rw_tup (b := 121) (h := 0) (n := 8) (by rw [List.length_map, h3 r hr]; exact h2) (by decide) ?_).mono (by decide) (by decide)
  intro x hx
  obtain ⟨i, hi, rfl⟩ := List.mem_map.mp hx
  have := h.bd r hr i hi
  exact rw_int (by omega)
theorem mem_tab {t : List (List Int)} {x : D} (h : x ∈ t.map rowD) : ∃ r ∈ t, x = rowD r := by
  obtain ⟨r, hr, rfl⟩ := List.mem_map.mp h
  exact ⟨r, hr, rfl⟩
/-- an odd thing -/
def Odd (x : D) : Prop := Rw 400 1 x
theorem odd_of {x : D} (h : x ∈ [.bool true, .bool false, .none, .str (Str.ofString "1"), .tuple [.int 1], .list [.int 0], .dict [], .int (1000000000000000000000000000000 - 1), .int (1 - 1000000000000000000000000000000), .int (-3), .str (Str.ofString ""), .int 0]) : Odd x := by
  unfold Odd
  simp only [List.mem_cons, List.not_mem_nil, or_false] at h
  rcases h with rfl | rfl | rfl | rfl | rfl | rfl | rfl | rfl | rfl | rfl | rfl | rfl
  · exact (rw_bool _).mono (by decide) (by decide)
  · exact (rw_bool _).mono (by decide) (by decide)
  · exact rw_none.mono (by decide) (by decide)
  · exact rw_s1.mono (by decide) (by decide)
  · exact (rw_tup (n := 2) (by simp) (by decide) (fun x hx => by rw [List.mem_singleton.mp hx]; exact rw_int (by decide))).mono (by decide) (by decide)
  · exact (rw_lst (n := 2) (by simp) (fun x hx => by rw [List.mem_singleton.mp hx]; exact rw_int (by decide))).mono (by decide) (by decide)
  · exact rw_dict.mono (by decide) (by decide)
  · exact (rw_int (by decide)).mono (by decide) (by decide)
  · exact (rw_int (by decide)).mono (by decide) (by decide)
  · exact (rw_int (by decide)).mono (by decide) (by decide)
  · exact rw_s0.mono (by decide) (by decide)
  · exact (rw_int (by decide)).mono (by decide) (by decide)
theorem b_mulT {xs : List D} {k : Int} (h : k < 1000000 ∧ -1000000 < k ∧ xs.length * k.toNat ≤ sizeLine) : binD .Mult (.tuple xs) (.int k) = some (.fz (.tuple (repD xs k.toNat))) := if_pos h
end Cr.k01
set_option Elab.async false
set_option linter.all false
set_option maxRecDepth 100000
set_option maxHeartbeats 4000000
namespace Cr.k01
open PySem
def things (T : List (List Int)) (row : List Int) : List D := [tabD T, .list (T.map rowD), rowD row, .tuple [], .none, .int 5, .str (Str.ofString ""), .dict [], .tuple [tabD T], .tuple [.tuple []], .tuple [.tuple [], .tuple []], .tuple [.tuple [.int 1, .int 2], .tuple [.int 3]], .tuple [.tuple [.int 1], .tuple [.int 2, .int 3]], .bool true, .tuple [.none], .tuple [.int 5]] ++ [.tuple ([] ++ T.map fun r => .list (r.map PyData.int)), .list ([] ++ T.map fun r => .list (r.map PyData.int)), .tuple [.tuple [.int 1, .int 2], .int 3], .str (Str.ofString "12"), .tuple [.list [.int 1], .list [.int 2]]]
theorem rw_i {i : Int} (h : i.natAbs < 2 ^ 120) : Rw 400 2 (.int i) := (rw_int h).mono (by decide) (by decide)
theorem rw_t1 {b h : Nat} {x : D} (r : Rw b h x) : Rw (3 + 1 * (b + 2)) (h + 1) (.tuple [x]) := rw_tup (by simp) (by decide) (by simpa using r)
theorem rw_t2 {b h : Nat} {x y : D} (r : Rw b h x) (s : Rw b h y) : Rw (3 + 2 * (b + 2)) (h + 1) (.tuple [x, y]) := rw_tup (by simp) (by decide) (by simpa using ⟨r, s⟩)
theorem rw_l1 {b h : Nat} {x : D} (r : Rw b h x) : Rw (3 + 1 * (b + 2)) (h + 1) (.list [x]) := rw_lst (by simp) (by simpa using r)
theorem rw_t0 : Rw 400 3 (.tuple []) := (rw_tup (b := 0) (h := 0) (n := 0) (by simp) (by decide) (by simp)).mono (by decide) (by decide)
theorem good_t1 {x : D} (r : Rw 12000 7 x) : Good (.tuple [x]) := good_tup (by simp) (by simpa using r)
theorem good_t2 {x y : D} (r : Rw 12000 7 x) (s : Rw 12000 7 y) : Good (.tuple [x, y]) := good_tup (by simp) (by simpa using ⟨r, s⟩)
theorem rw_tab {T : List (List Int)} (ht : IsTab 8 (10 ^ 33) T) : Rw 12000 7 (tabD T) :=
  (rw_tup (b := 987) (h := 1) (n := 8) (by rw [List.length_map]; exact ht.le) (by decide) (fun x hx => by obtain ⟨r, hr, rfl⟩ := mem_tab hx; exact rw_row ht (by decide) hr)).mono (by decide) (by decide)
theorem rw_rl {T : List (List Int)} (ht : IsTab 8 (10 ^ 33) T) {r : List Int} (hr : r ∈ T) : Rw 12000 7 (.list (r.map PyData.int)) := by
  obtain ⟨C, h1, h2, h3⟩ := ht.wd
  refine (rw_lst (b := 121) (h := 0) (n := 8) (by rw [List.length_map, h3 r hr]; exact h2) (fun y hy => ?_)).mono (by decide) (by decide)
  obtain ⟨i, hi, rfl⟩ := List.mem_map.mp hy
  have := ht.bd r hr i hi
  exact rw_int (by omega)
theorem good_things {T : List (List Int)} {row : List Int} (ht : IsTab 8 (10 ^ 33) T) (hm : row ∈ T) {x : D} (hx : x ∈ things T row) : Good x := by
  have htl := ht.le
  obtain ⟨C, h1, h2, h3⟩ := ht.wd
  have M : ∀ {b h : Nat} {x : D}, Rw b h x → b ≤ 12000 → h ≤ 7 → Rw 12000 7 x := fun r h1 h2 => r.mono h1 h2
  have i1 : ∀ i : Int, i.natAbs < 2 ^ 120 → Rw 400 2 (.int i) := fun i h => rw_i h
  have hls : ∀ y ∈ (([] : List D) ++ T.map fun (r : List Int) => PyData.list (r.map PyData.int)), Rw 12000 7 y := by
    intro y hy
    rw [List.nil_append] at hy
    obtain ⟨r, hr, rfl⟩ := List.mem_map.mp hy
    exact rw_rl ht hr
  have hll : (([] : List D) ++ T.map fun (r : List Int) => PyData.list (r.map PyData.int)).length ≤ 20 := by rw [List.nil_append, List.length_map]; omega
  have hrw : ∀ y ∈ T.map rowD, Rw 12000 7 y := by
    intro y hy
    obtain ⟨r, hr, rfl⟩ := mem_tab hy
    exact (rw_row ht (by decide) hr).mono (by decide) (by decide)
  unfold things at hx
  simp only [List.mem_append, List.mem_cons, List.not_mem_nil, or_false] at hx
  rcases hx with (rfl | rfl | rfl | rfl | rfl | rfl | rfl | rfl | rfl | rfl | rfl | rfl | rfl | rfl | rfl | rfl) | rfl | rfl | rfl | rfl | rfl
  · exact good_tup (by rw [List.length_map]; omega) hrw
  · exact good_lst (by rw [List.length_map]; omega) hrw
  · refine good_tup (by rw [List.length_map, h3 row hm]; omega) fun y hy => ?_
    obtain ⟨i, hi, rfl⟩ := List.mem_map.mp hy
    have := ht.bd row hm i hi
    exact M (rw_int (by omega)) (by decide) (by decide)
  · exact good_tup (by simp) (by simp)
  · exact good_sc (M rw_none (by decide) (by decide)) (by simp)
  · exact good_sc (M (i1 5 (by decide)) (by decide) (by decide)) (by simp)
  · exact good_sc (M rw_s0 (by decide) (by decide)) (by simp)
  · exact good_sc (M rw_dict (by decide) (by decide)) (by simp)
  · exact good_t1 (rw_tab ht)
  · exact good_t1 (M rw_t0 (by decide) (by decide))
  · exact good_t2 (M rw_t0 (by decide) (by decide)) (M rw_t0 (by decide) (by decide))
  · exact good_t2 (M (rw_t2 (i1 1 (by decide)) (i1 2 (by decide))) (by decide) (by decide)) (M (rw_t1 (i1 3 (by decide))) (by decide) (by decide))
  · exact good_t2 (M (rw_t1 (i1 1 (by decide))) (by decide) (by decide)) (M (rw_t2 (i1 2 (by decide)) (i1 3 (by decide))) (by decide) (by decide))
  · exact good_sc (M (rw_bool _) (by decide) (by decide)) (by simp)
  · exact good_t1 (M rw_none (by decide) (by decide))
  · exact good_t1 (M (i1 5 (by decide)) (by decide) (by decide))
  · exact good_tup hll hls
  · exact good_lst hll hls
  · exact good_t2 (M (rw_t2 (i1 1 (by decide)) (i1 2 (by decide))) (by decide) (by decide)) (M (i1 3 (by decide)) (by decide) (by decide))
  · exact good_sc (M rw_s12 (by decide) (by decide)) (by simp)
  · exact good_t2 (M (rw_l1 (i1 1 (by decide))) (by decide) (by decide)) (M (rw_l1 (i1 2 (by decide))) (by decide) (by decide))
end Cr.k01
set_option Elab.async false
set_option linter.all false
set_option maxRecDepth 100000
set_option maxHeartbeats 4000000
namespace Cr.k01
open PySem
local macro_rules | `(tactic| trivial) => `(tactic| dsimp only)
local macro_rules | `(tactic| trivial) => `(tactic| first
  | (refine ⟨_, rfl, ?_⟩; done) | (refine ⟨_, by with_unfolding_all rfl, ?_⟩) | (refine ⟨_, _, by with_unfolding_all rfl, by with_unfolding_all rfl, ?_⟩) | (refine ⟨_, _, _, _, by with_unfolding_all rfl, by with_unfolding_all rfl, by with_unfolding_all rfl, ?_⟩)
  | (refine ⟨_, by with_unfolding_all rfl, ok63_of (by omega) (by omega), ?_⟩) | (refine ⟨_, _, by with_unfolding_all rfl, by with_unfolding_all rfl, ⟨ok63_of (by omega) (by omega), ok63_of (by omega) (by omega)⟩, ?_⟩)
  | (refine ⟨⟨by with_unfolding_all rfl, by decide⟩, ?_⟩) | (refine ⟨⟨by with_unfolding_all rfl, by with_unfolding_all rfl⟩, ?_⟩))
local macro_rules | `(tactic| trivial) => `(tactic| with_reducible first
  | apply w_S1 | apply w_S0 | apply w_asg | apply w_ret | apply w_ifS | apply w_for | apply w_ex | apply w_par | apply w_pass
  | apply w_bin | apply w_idx | apply w_cmp | apply w_call | apply w_callk | apply w_blt | apply w_k | apply w_glob | apply w_tup | apply w_lst | apply w_and | apply w_or | apply w_not | apply w_ife | apply w_isi | apply w_slc | apply w_rev | apply w_neg | apply w_chain | apply w_edict | apply w_comp
  | apply w_L1 | apply w_L0 | apply w_O1 | apply w_O0 | apply w_A1 | apply w_A0 | apply w_R1 | apply w_R0 | apply w_P1 | apply w_P0 | apply w_over | apply w_rngA | apply w_rngB | apply w_enum | apply w_zip
  | apply w_g1 | apply w_g0 | apply w_tstR
  | (apply w_var; with_unfolding_all rfl) | (apply w_opV; with_unfolding_all rfl) | (apply w_op; with_unfolding_all rfl) | (apply w_arM; with_unfolding_all rfl) | (apply w_arV; with_unfolding_all rfl) | (apply w_arF; with_unfolding_all rfl) | (apply w_ar; with_unfolding_all rfl)
  | (apply w_tstB; with_unfolding_all rfl) | (apply w_tstO; with_unfolding_all rfl)
  | (apply w_gN; with_unfolding_all rfl) | (apply w_gS; with_unfolding_all rfl) | (apply w_gT; with_unfolding_all rfl; with_unfolding_all rfl)
  | (apply w_retM; with_unfolding_all rfl) | (apply w_retV; with_unfolding_all rfl) | (apply w_retE; with_unfolding_all rfl)
  | (apply w_mm; with_unfolding_all rfl)
  | (apply w_iteT; first | with_unfolding_all rfl | assumption | exact decide_eq_true (by first | assumption | omega)) | (apply w_iteF; first | with_unfolding_all rfl | assumption | exact decide_eq_false (by first | assumption | omega)))
local macro_rules | `(tactic| trivial) => `(tactic| first
  | ((with_reducible apply w_two); (with_unfolding_all rfl); (with_unfolding_all rfl); (first | exact c_eqI | exact c_neI | exact b_mul (by first | assumption | exact mulOk_l (by omega) (by omega) | exact mulOk_r (by omega) (by omega) | exact mulOk_b 200 200 (by omega) (by omega) (by decide) (by decide) (by decide)) | exact b_div (by omega) (by omega) | exact b_mod (by omega) | exact b_pow (by decide) (by decide) (by decide) (by simp; rfl) | with_unfolding_all rfl))
  | ((with_reducible apply w_one); (with_unfolding_all rfl); (with_unfolding_all rfl))
  | ((with_reducible apply w_many); (with_unfolding_all rfl); (with_unfolding_all rfl)))

local macro_rules | `(tactic| trivial) => `(tactic| with_reducible (apply w_gNW; (with_unfolding_all rfl); assumption))
local macro_rules | `(tactic| trivial) => `(tactic| with_reducible first | apply w_gM0 | apply w_gM1)
local macro_rules | `(tactic| trivial) => `(tactic| with_reducible exact sz (by simp))
local macro_rules | `(tactic| trivial) => `(tactic| with_reducible intro l hl)
local macro_rules | `(tactic| trivial) => `(tactic| with_reducible first | refine ⟨ok63_of (by omega) (by omega), ?_⟩ | refine ⟨⟨ok63_of (by omega) (by omega), ok63_of (by omega) (by omega)⟩, ?_⟩)
local macro_rules | `(tactic| trivial) => `(tactic| with_reducible refine ⟨sz (by simp), ?_⟩)


local macro_rules | `(tactic| trivial) => `(tactic| ((with_reducible apply w_two); (with_unfolding_all rfl); (with_unfolding_all rfl); (exact b_mulT ⟨by omega, by omega, sz (by simp; omega)⟩)))
theorem good_rows {xs : List D} (hl : xs.length ≤ 20) (h : ∀ x ∈ xs, Rw 987 1 x ∨ Rw 9000 3 x) : Good (.tuple xs) :=
  good_tup hl fun x hx => (h x hx).elim (fun r => r.mono (by decide) (by decide)) fun r => r.mono (by decide) (by decide)
theorem rw_cells {t : List (List Int)} (ht : IsTab 8 (10 ^ 33) t) {row : List Int} (hm : row ∈ t) {x : D} (hx : x ∈ row.map PyData.int) : Rw 400 1 x := by
  obtain ⟨i, hi, rfl⟩ := List.mem_map.mp hx
  have := ht.bd row hm i hi
  exact (rw_int (by omega)).mono (by decide) (by decide)
theorem good_set {t : List (List Int)} (ht : IsTab 8 (10 ^ 33) t) {row : List Int} (hm : row ∈ t) {i j : Nat} {o : D} (ho : Odd o) : Good (setT (t.map rowD) (row.map .int) i j o) := by
  have htl := ht.le
  have hrl : row.length ≤ 8 := by obtain ⟨C, _, h2, h3⟩ := ht.wd; rw [h3 row hm]; exact h2
  refine good_rows ?_ ?_
  · simp only [List.length_append, List.length_take, List.length_drop, List.length_map, List.length_singleton]; omega
  · intro x hx
    simp only [List.mem_append, List.mem_singleton] at hx
    rcases hx with (hx | rfl) | hx
    · obtain ⟨r, hr, rfl⟩ := mem_tab (List.mem_of_mem_take hx); exact .inl (rw_row ht (by decide) hr)
    · refine .inr ((rw_tup (b := 400) (h := 1) (n := 9) ?_ (by decide) ?_).mono (by decide) (by decide))
      · simp only [List.length_append, List.length_take, List.length_drop, List.length_map, List.length_singleton]; omega
      · intro x hx
        simp only [List.mem_append, List.mem_singleton] at hx
        rcases hx with (hx | rfl) | hx
        · exact rw_cells ht hm (List.mem_of_mem_take hx)
        · exact ho
        · exact rw_cells ht hm (List.mem_of_mem_drop hx)
    · obtain ⟨r, hr, rfl⟩ := mem_tab (List.mem_of_mem_drop hx); exact .inl (rw_row ht (by decide) hr)
theorem f15 (n m : Nat) {t : List (List Int)} {d : D} (ht : IsTab 8 (10 ^ 33) t) (hd : Feed (m + 10) d) : ∃ x d', cf (n + 3) 15 [.mu true d, .val (tabD t)] = .ret (.fz x) [.mu true d', .val (tabD t)] ∧ Good x ∧ Feed m d' := by
  rw [cf_s (n + 2) 15 e__law_near_table rfl]
  have : ∃ r o, runD (cf (n + 2)) fuel e__law_near_table.fd [.mu true d, .val (tabD t)] = .ret r o ∧ ∃ x d', r = .fz x ∧ o = [.mu true d', .val (tabD t)] ∧ Good x ∧ Feed m d' := by
    refine run_ok rfl ?_
    show Wp (evSs (cf (n + 2)) fuel ir__law_near_table [.mu true d, .val (tabD t), .un, .un, .un, .un, .un, .un, .un]) _
    unfold ir__law_near_table
    obtain ⟨C', hC1', hC2', hCw⟩ := ht.wd
    have htl := ht.le
    have htn := ht.ne
    have hrow := fun r hr => rw_row ht (by decide) (r := r) hr
    obtain ⟨r0, rs, rfl⟩ : ∃ r0 rs, t = r0 :: rs := by
      cases t with
      | nil => simp at htn
      | cons a b => exact ⟨a, b, rfl⟩
    have hr0 : r0.length = C' := hCw r0 List.mem_cons_self
    repeat trivial
    rw [List.length_map]
    obtain ⟨i, d1, h1, h2, h3, hd1⟩ := f6 (n + 1) (m := m + 9) (many := ((r0 :: rs).length : Int)) hd (by omega) (by omega)
    refine w_callR (by with_unfolding_all rfl) nd1 rfl h1 ?_
    clear h1
    repeat trivial
    refine w_two (by with_unfolding_all rfl) (by with_unfolding_all rfl) (i_T0 (rowD r0) (rs.map rowD)) ?_
    repeat trivial
    rw [List.length_map]
    obtain ⟨j, d2, h1, h4, h5, hd2⟩ := f6 (n + 1) (m := m + 8) (many := (r0.length : Int)) hd1 (by omega) (by omega)
    refine w_callR (by with_unfolding_all rfl) nd1 rfl h1 ?_
    clear h1
    repeat trivial
    obtain ⟨w, d3, h1, h6, h7, hd3⟩ := f6 (n + 1) (m := m + 7) (many := 8) hd2 (by omega) (by omega)
    refine w_callR (by with_unfolding_all rfl) nd1 rfl h1 ?_
    clear h1
    have hi : i.toNat < (r0 :: rs).length := by omega
    obtain ⟨row, hrw⟩ : ∃ row, (r0 :: rs)[i.toNat]? = some row := ⟨_, List.getElem?_eq_getElem hi⟩
    have hmem : row ∈ r0 :: rs := List.mem_of_getElem? hrw
    have hrl := hCw row hmem
    have hx1 : ((r0 :: rs).map rowD)[i.toNat]? = some (rowD row) := by rw [List.getElem?_map, hrw]; rfl
    repeat trivial
    refine w_two (by with_unfolding_all rfl) (by with_unfolding_all rfl) (i_T h2 hx1) ?_
    repeat trivial
    obtain ⟨o, d4, h1, ho, hd4⟩ := f7 n (m := m + 6) (xs := [.bool true, .bool false, .none, .str (Str.ofString "1"), .tuple [.int 1], .list [.int 0], .dict [], .int (1000000000000000000000000000000 - 1), .int (1 - 1000000000000000000000000000000), .int (-3), .str (Str.ofString ""), .int 0]) hd3 (by simp) (by simp)
    have ho := odd_of ho
    refine w_callR (by with_unfolding_all rfl) nd1 rfl h1 ?_
    clear h1
    have hw : w = 0 ∨ (w = 1 ∨ w = 2) ∨ w = 3 ∨ w = 4 ∨ w = 5 ∨ w = 6 ∨ w = 7 := by omega
    clear hrow h6 h7
    rcases hw with rfl | hw | rfl | rfl | rfl | rfl | rfl
    · clear hx1 hrw hi
      generalize r0 :: rs = T at *
      have hTl : T.length ≤ 8 := htl
      have hLst : ∀ r ∈ T, Rw 9000 3 (.list (r.map PyData.int)) := fun r hr => (rw_lst (n := 8) (by rw [List.length_map, hCw r hr]; exact hC2') (fun y hy => rw_cells ht hr hy)).mono (by decide) (by decide)
      repeat trivial
      refine (comp_map rowD (fun r => .list (r.map PyData.int)) T [] (fun r hr => ?_) (sz (by simp; omega))).mono ?_
      · repeat trivial
      rintro _ _ ⟨rfl, rfl⟩
      repeat trivial
      refine (comp_map rowD (fun r => .list (r.map PyData.int)) T [] (fun r hr => ?_) (sz (by simp; omega))).mono ?_
      · repeat trivial
      rintro _ _ ⟨rfl, rfl⟩
      repeat trivial
      obtain ⟨x, d5, h1, hx, hd5⟩ := f7 n (m := m + 5) (xs := things T row) hd4 (by unfold things; simp) (by unfold things; simp)
      refine w_callR (by with_unfolding_all rfl) nd1 rfl h1 ?_
      clear h1
      exact ⟨rfl, x, d5, rfl, rfl, good_things ht hmem hx, hd5.mono (by omega)⟩
    · have hw0 : ¬ w = 0 := by omega
      have hw3 : w < 3 := by omega
      repeat trivial
      refine w_callR (by with_unfolding_all rfl) List.nodup_nil rfl (f12 (n + 1) ((r0 :: rs).map rowD) (row.map .int) i j o h2 h4 hx1 (by rw [List.length_map]; omega) (by rw [List.length_map]; omega)) ?_
      exact ⟨rfl, _, d4, rfl, rfl, good_set ht hmem ho, hd4.mono (by omega)⟩
    · have hrl8 : row.length ≤ 8 := by omega
      have hl1 : (row.map PyData.int).length ≤ 8 := by rw [List.length_map]; exact hrl8
      repeat trivial
      refine w_two (by with_unfolding_all rfl) (by with_unfolding_all rfl) (b_addT (i := row.map PyData.int) (j := [.int 0]) (sz (by rw [List.length_singleton]; omega))) ?_
      repeat trivial
      refine w_two (by with_unfolding_all rfl) (by with_unfolding_all rfl) (b_addT (i := row.map PyData.int) (j := [o]) (sz (by rw [List.length_singleton]; omega))) ?_
      repeat trivial
      rw [cut_from (by decide)]
      obtain ⟨x, d5, h1, hx, hd5⟩ := f7 n (m := m + 5) (xs := [.tuple ((row.map PyData.int).drop (1 : Int).toNat), .tuple (row.map PyData.int ++ [.int 0]), .list (row.map PyData.int), .none, .tuple [], .tuple (row.map PyData.int ++ [o]), rowD row]) hd4 (by simp) (by simp)
      have hR : ∀ l : List D, l.length ≤ 9 → (∀ x ∈ l, Rw 400 1 x) → Rw 9000 3 (.tuple l) := fun l h1 h2 => (rw_tup h1 (by decide) h2).mono (by decide) (by decide)
      have hc := fun y hy => rw_cells ht hmem (x := y) hy
      have hx : Rw 9000 3 x := by
        simp only [List.mem_cons, List.not_mem_nil, or_false] at hx
        rcases hx with rfl | rfl | rfl | rfl | rfl | rfl | rfl
        · exact hR _ (by rw [List.length_drop]; omega) fun y hy => hc y (List.mem_of_mem_drop hy)
        · refine hR _ (by rw [List.length_append, List.length_singleton]; omega) fun y hy => ?_
          rcases List.mem_append.mp hy with hy | hy
          · exact hc y hy
          · rw [List.mem_singleton.mp hy]; exact (rw_int (by decide)).mono (by decide) (by decide)
        · exact (rw_lst (n := 8) hl1 hc).mono (by decide) (by decide)
        · exact rw_none.mono (by decide) (by decide)
        · exact hR _ (by simp) (by simp)
        · refine hR _ (by rw [List.length_append, List.length_singleton]; omega) fun y hy => ?_
          rcases List.mem_append.mp hy with hy | hy
          · exact hc y hy
          · rw [List.mem_singleton.mp hy]; exact ho
        · exact (rw_row ht (by decide) hmem).mono (by decide) (by decide)
      refine w_callR (by with_unfolding_all rfl) nd1 rfl h1 ?_
      clear h1
      repeat trivial
      rw [cut_to h2]
      refine w_two (by with_unfolding_all rfl) (by with_unfolding_all rfl) (b_addT (sz (by rw [List.length_take, List.length_singleton, List.length_map]; omega))) ?_
      repeat trivial
      rw [cut_from (by omega)]
      refine w_two (by with_unfolding_all rfl) (by with_unfolding_all rfl) (b_addT (sz (by simp only [List.length_append, List.length_take, List.length_drop, List.length_singleton, List.length_map]; omega))) ?_
      refine ⟨rfl, _, d5, rfl, rfl, good_rows ?_ ?_, hd5.mono (by omega)⟩
      · simp only [List.length_append, List.length_take, List.length_drop, List.length_singleton, List.length_map]; omega
      · intro y hy
        simp only [List.mem_append, List.mem_singleton] at hy
        rcases hy with (hy | rfl) | hy
        · obtain ⟨r, hr, rfl⟩ := mem_tab (List.mem_of_mem_take hy); exact .inl (rw_row ht (by decide) hr)
        · exact .inr hx
        · obtain ⟨r, hr, rfl⟩ := mem_tab (List.mem_of_mem_drop hy); exact .inl (rw_row ht (by decide) hr)
    · repeat trivial
      obtain ⟨k, d5, h1, h8, h9, hd5⟩ := f6 (n + 1) (m := m + 5) (many := 9) hd4 (by omega) (by omega)
      refine w_callR (by with_unfolding_all rfl) nd1 rfl h1 ?_
      clear h1
      rw [cut_to (by decide)]
      have hm : (binD .Mult (.tuple (((r0 :: rs).map rowD).take (1 : Int).toNat)) (.int k)) = some (.fz (.tuple (repD [rowD r0] k.toNat))) := if_pos ⟨by omega, by omega, sz (by simp; omega)⟩
      have hrl : (repD [rowD r0] k.toNat).length = k.toNat := by simp [repD]
      refine w_two (by with_unfolding_all rfl) (by with_unfolding_all rfl) hm ?_
      refine w_two (by with_unfolding_all rfl) (by with_unfolding_all rfl) (b_addT (i := (r0 :: rs).map rowD) (j := repD [rowD r0] k.toNat) (sz (by rw [List.length_map, hrl]; omega))) ?_
      refine ⟨rfl, _, d5, rfl, rfl, good_rows ?_ ?_, hd5.mono (by omega)⟩
      · rw [List.length_append, List.length_map, hrl]; omega
      · intro x hx
        rcases List.mem_append.mp hx with hx | hx
        · obtain ⟨r, hr, rfl⟩ := mem_tab hx; exact .inl (rw_row ht (by decide) hr)
        · have : x = rowD r0 := by
            unfold repD at hx
            obtain ⟨l, hl, hx⟩ := List.mem_flatten.mp hx
            rw [(List.mem_replicate.mp hl).2] at hx
            exact List.mem_singleton.mp hx
          rw [this]
          exact .inl (rw_row ht (by decide) List.mem_cons_self)
    · clear hx1 hrw hi hmem
      generalize r0 :: rs = T at *
      repeat trivial
      refine (comp_map rowD (fun r => .tuple (r.map PyData.int ++ repD [.int 0] (T.length + 1))) T [] (fun r hr => ?_) (sz (by simp; omega))).mono ?_
      · have hrl := hCw r hr
        have e2 : (((T.map rowD).length : Int) + 1).toNat = T.length + 1 := by rw [List.length_map]; omega
        have e3 : (repD [PyData.int 0] (T.length + 1)).length = T.length + 1 := by simp [repD]
        have hTl : (T.map rowD).length ≤ 8 := by rw [List.length_map]; exact htl
        repeat trivial
        rw [e2]
        refine w_two (by with_unfolding_all rfl) (by with_unfolding_all rfl) (b_addT (i := r.map PyData.int) (j := repD [PyData.int 0] (T.length + 1)) (sz (by rw [List.length_map, e3]; omega))) ?_
        exact ⟨rfl, rfl⟩
      · rintro _ _ ⟨rfl, rfl⟩
        repeat trivial
        refine ⟨good_rows ?_ ?_, hd4.mono (by omega)⟩
        · rw [List.nil_append, List.length_map]; omega
        · intro x hx
          rw [List.nil_append] at hx
          obtain ⟨r, hr, rfl⟩ := List.mem_map.mp hx
          have e3 : (repD [PyData.int 0] (T.length + 1)).length = T.length + 1 := by simp [repD]
          refine .inr ((rw_tup (b := 400) (h := 1) (n := 9 + 8) ?_ (by decide) ?_).mono (by decide) (by decide))
          · have := hCw r hr
            rw [List.length_append, List.length_map, e3]; omega
          · intro y hy
            rcases List.mem_append.mp hy with hy | hy
            · exact rw_cells ht hr hy
            · have : y = PyData.int 0 := by
                unfold repD at hy
                obtain ⟨l, hl, hy⟩ := List.mem_flatten.mp hy
                rw [(List.mem_replicate.mp hl).2] at hy
                exact List.mem_singleton.mp hy
              rw [this]
              exact (rw_int (by decide)).mono (by decide) (by decide)
    · repeat trivial
      refine w_two (by with_unfolding_all rfl) (by with_unfolding_all rfl) (b_addT (i := (r0 :: rs).map rowD) (j := [o]) (sz (by rw [List.length_map, List.length_singleton]; omega))) ?_
      refine ⟨rfl, _, d4, rfl, rfl, good_rows ?_ ?_, hd4.mono (by omega)⟩
      · rw [List.length_append, List.length_map, List.length_singleton]; omega
      · intro x hx
        simp only [List.mem_append, List.mem_singleton] at hx
        rcases hx with hx | rfl
        · obtain ⟨r, hr, rfl⟩ := mem_tab hx; exact .inl (rw_row ht (by decide) hr)
        · exact .inr (Rw.mono ho (by decide) (by decide))
    · repeat trivial
      rw [cut_to h2, cut_from (by omega)]
      refine w_two (by with_unfolding_all rfl) (by with_unfolding_all rfl) (b_addT (sz (by rw [List.length_take, List.length_drop, List.length_map]; omega))) ?_
      refine ⟨rfl, _, d4, rfl, rfl, good_rows ?_ ?_, hd4.mono (by omega)⟩
      · rw [List.length_append, List.length_take, List.length_drop, List.length_map]; omega
      · intro x hx
        rcases List.mem_append.mp hx with hx | hx
        · obtain ⟨r, hr, rfl⟩ := mem_tab (List.mem_of_mem_take hx); exact .inl (rw_row ht (by decide) hr)
        · obtain ⟨r, hr, rfl⟩ := mem_tab (List.mem_of_mem_drop hx); exact .inl (rw_row ht (by decide) hr)
  obtain ⟨r, o, h, x, d', rfl, rfl, h1, h2⟩ := this
  exact ⟨x, d', h, h1, h2⟩
end Cr.k01
set_option Elab.async false
set_option linter.all false
set_option maxRecDepth 100000
set_option maxHeartbeats 4000000
namespace Cr.k01
open PySem
local macro_rules | `(tactic| trivial) => `(tactic| dsimp only)
local macro_rules | `(tactic| trivial) => `(tactic| first
  | (refine ⟨_, rfl, ?_⟩; done) | (refine ⟨_, by with_unfolding_all rfl, ?_⟩) | (refine ⟨_, _, by with_unfolding_all rfl, by with_unfolding_all rfl, ?_⟩) | (refine ⟨_, _, _, _, by with_unfolding_all rfl, by with_unfolding_all rfl, by with_unfolding_all rfl, ?_⟩)
  | (refine ⟨_, by with_unfolding_all rfl, ok63_of (by omega) (by omega), ?_⟩) | (refine ⟨_, _, by with_unfolding_all rfl, by with_unfolding_all rfl, ⟨ok63_of (by omega) (by omega), ok63_of (by omega) (by omega)⟩, ?_⟩)
  | (refine ⟨⟨by with_unfolding_all rfl, by decide⟩, ?_⟩) | (refine ⟨⟨by with_unfolding_all rfl, by with_unfolding_all rfl⟩, ?_⟩))
local macro_rules | `(tactic| trivial) => `(tactic| with_reducible first
  | apply w_S1 | apply w_S0 | apply w_asg | apply w_ret | apply w_ifS | apply w_for | apply w_ex | apply w_par | apply w_pass
  | apply w_bin | apply w_idx | apply w_cmp | apply w_call | apply w_callk | apply w_blt | apply w_k | apply w_glob | apply w_tup | apply w_lst | apply w_and | apply w_or | apply w_not | apply w_ife | apply w_isi | apply w_slc | apply w_rev | apply w_neg | apply w_chain | apply w_edict | apply w_comp
  | apply w_L1 | apply w_L0 | apply w_O1 | apply w_O0 | apply w_A1 | apply w_A0 | apply w_R1 | apply w_R0 | apply w_P1 | apply w_P0 | apply w_over | apply w_rngA | apply w_rngB | apply w_enum | apply w_zip
  | apply w_g1 | apply w_g0 | apply w_tstR
  | (apply w_var; with_unfolding_all rfl) | (apply w_opV; with_unfolding_all rfl) | (apply w_op; with_unfolding_all rfl) | (apply w_arM; with_unfolding_all rfl) | (apply w_arV; with_unfolding_all rfl) | (apply w_arF; with_unfolding_all rfl) | (apply w_ar; with_unfolding_all rfl)
  | (apply w_tstB; with_unfolding_all rfl) | (apply w_tstO; with_unfolding_all rfl)
  | (apply w_gN; with_unfolding_all rfl) | (apply w_gS; with_unfolding_all rfl) | (apply w_gT; with_unfolding_all rfl; with_unfolding_all rfl)
  | (apply w_retM; with_unfolding_all rfl) | (apply w_retV; with_unfolding_all rfl) | (apply w_retE; with_unfolding_all rfl)
  | (apply w_mm; with_unfolding_all rfl)
  | (apply w_iteT; first | with_unfolding_all rfl | assumption | exact decide_eq_true (by first | assumption | omega)) | (apply w_iteF; first | with_unfolding_all rfl | assumption | exact decide_eq_false (by first | assumption | omega)))
local macro_rules | `(tactic| trivial) => `(tactic| first
  | ((with_reducible apply w_two); (with_unfolding_all rfl); (with_unfolding_all rfl); (first | exact c_eqI | exact c_neI | exact b_mul (by first | assumption | exact mulOk_l (by omega) (by omega) | exact mulOk_r (by omega) (by omega) | exact mulOk_b 200 200 (by omega) (by omega) (by decide) (by decide) (by decide)) | exact b_div (by omega) (by omega) | exact b_mod (by omega) | exact b_pow (by decide) (by decide) (by decide) (by simp; rfl) | with_unfolding_all rfl))
  | ((with_reducible apply w_one); (with_unfolding_all rfl); (with_unfolding_all rfl))
  | ((with_reducible apply w_many); (with_unfolding_all rfl); (with_unfolding_all rfl)))

local macro_rules | `(tactic| trivial) => `(tactic| with_reducible (apply w_gNW; (with_unfolding_all rfl); assumption))
local macro_rules | `(tactic| trivial) => `(tactic| with_reducible first | apply w_gM0 | apply w_gM1)
local macro_rules | `(tactic| trivial) => `(tactic| with_reducible exact sz (by simp))
local macro_rules | `(tactic| trivial) => `(tactic| with_reducible intro l hl)
local macro_rules | `(tactic| trivial) => `(tactic| with_reducible first | refine ⟨ok63_of (by omega) (by omega), ?_⟩ | refine ⟨⟨ok63_of (by omega) (by omega), ok63_of (by omega) (by omega)⟩, ?_⟩)
local macro_rules | `(tactic| trivial) => `(tactic| with_reducible refine ⟨sz (by simp), ?_⟩)

theorem isI_map (l : List Int) : (l.map PyData.int).all isI = true := by
  rw [List.all_map]
  exact List.all_eq_true.mpr fun _ _ => rfl
theorem formB_tab {B : Int} {t : List (List Int)} (h : IsTab 8 B t) : formB (tabD t) = true := by
  obtain ⟨C, h1, h2, h3⟩ := h.wd
  have hl := h.le
  have hn := h.ne
  cases t with
  | nil => simp at hn
  | cons r0 rs =>
    have e0 : r0.length = C := h3 r0 List.mem_cons_self
    have e1 : rs.length < 8 := by rw [List.length_cons] at hl; omega
    show (decide ((rs.map rowD).length < 8) && (decide (1 ≤ (r0.map PyData.int).length) && decide ((r0.map PyData.int).length ≤ 8) && ((r0 :: rs).map rowD).all fun r => rowI r (r0.map PyData.int).length)) = true
    rw [List.length_map, List.length_map, decide_eq_true e1, decide_eq_true (by omega : 1 ≤ r0.length), decide_eq_true (by omega : r0.length ≤ 8)]
    rw [List.all_map]
    have : ((r0 :: rs).all ((fun r => rowI r (r0.length : Int)) ∘ rowD)) = true := List.all_eq_true.mpr fun r hr => by
      show rowI (.tuple (r.map PyData.int)) _ = true
      rw [rowI_tup, isI_map, List.length_map, h3 r hr, e0]
      simp
    rw [this]
    rfl
theorem good_tab {t : List (List Int)} (ht : IsTab 8 (10 ^ 33) t) : Good (tabD t) :=
  good_tup (by rw [List.length_map]; have := ht.le; omega) fun x hx => by
    obtain ⟨r, hr, rfl⟩ := mem_tab hx
    exact (rw_row ht (by decide) hr).mono (by decide) (by decide)
end Cr.k01
set_option Elab.async false
set_option linter.all false
set_option maxRecDepth 100000
set_option maxHeartbeats 4000000
namespace Cr.k01
open PySem
local macro_rules | `(tactic| trivial) => `(tactic| dsimp only)
local macro_rules | `(tactic| trivial) => `(tactic| first
  | (refine ⟨_, rfl, ?_⟩; done) | (refine ⟨_, by with_unfolding_all rfl, ?_⟩) | (refine ⟨_, _, by with_unfolding_all rfl, by with_unfolding_all rfl, ?_⟩) | (refine ⟨_, _, _, _, by with_unfolding_all rfl, by with_unfolding_all rfl, by with_unfolding_all rfl, ?_⟩)
  | (refine ⟨_, by with_unfolding_all rfl, ok63_of (by omega) (by omega), ?_⟩) | (refine ⟨_, _, by with_unfolding_all rfl, by with_unfolding_all rfl, ⟨ok63_of (by omega) (by omega), ok63_of (by omega) (by omega)⟩, ?_⟩)
  | (refine ⟨⟨by with_unfolding_all rfl, by decide⟩, ?_⟩) | (refine ⟨⟨by with_unfolding_all rfl, by with_unfolding_all rfl⟩, ?_⟩))
local macro_rules | `(tactic| trivial) => `(tactic| with_reducible first
  | apply w_S1 | apply w_S0 | apply w_asg | apply w_ret | apply w_ifS | apply w_for | apply w_ex | apply w_par | apply w_pass
  | apply w_bin | apply w_idx | apply w_cmp | apply w_call | apply w_callk | apply w_blt | apply w_k | apply w_glob | apply w_tup | apply w_lst | apply w_and | apply w_or | apply w_not | apply w_ife | apply w_isi | apply w_slc | apply w_rev | apply w_neg | apply w_chain | apply w_edict | apply w_comp
  | apply w_L1 | apply w_L0 | apply w_O1 | apply w_O0 | apply w_A1 | apply w_A0 | apply w_R1 | apply w_R0 | apply w_P1 | apply w_P0 | apply w_over | apply w_rngA | apply w_rngB | apply w_enum | apply w_zip
  | apply w_g1 | apply w_g0 | apply w_tstR
  | (apply w_var; with_unfolding_all rfl) | (apply w_opV; with_unfolding_all rfl) | (apply w_op; with_unfolding_all rfl) | (apply w_arM; with_unfolding_all rfl) | (apply w_arV; with_unfolding_all rfl) | (apply w_arF; with_unfolding_all rfl) | (apply w_ar; with_unfolding_all rfl)
  | (apply w_tstB; with_unfolding_all rfl) | (apply w_tstO; with_unfolding_all rfl)
  | (apply w_gN; with_unfolding_all rfl) | (apply w_gS; with_unfolding_all rfl) | (apply w_gT; with_unfolding_all rfl; with_unfolding_all rfl)
  | (apply w_retM; with_unfolding_all rfl) | (apply w_retV; with_unfolding_all rfl) | (apply w_retE; with_unfolding_all rfl)
  | (apply w_mm; with_unfolding_all rfl)
  | (apply w_iteT; first | with_unfolding_all rfl | assumption | exact decide_eq_true (by first | assumption | omega)) | (apply w_iteF; first | with_unfolding_all rfl | assumption | exact decide_eq_false (by first | assumption | omega)))
local macro_rules | `(tactic| trivial) => `(tactic| first
  | ((with_reducible apply w_two); (with_unfolding_all rfl); (with_unfolding_all rfl); (first | exact c_eqI | exact c_neI | exact b_mul (by first | assumption | exact mulOk_l (by omega) (by omega) | exact mulOk_r (by omega) (by omega) | exact mulOk_b 200 200 (by omega) (by omega) (by decide) (by decide) (by decide)) | exact b_div (by omega) (by omega) | exact b_mod (by omega) | exact b_pow (by decide) (by decide) (by decide) (by simp; rfl) | with_unfolding_all rfl))
  | ((with_reducible apply w_one); (with_unfolding_all rfl); (with_unfolding_all rfl))
  | ((with_reducible apply w_many); (with_unfolding_all rfl); (with_unfolding_all rfl)))

local macro_rules | `(tactic| trivial) => `(tactic| with_reducible (apply w_gNW; (with_unfolding_all rfl); assumption))
local macro_rules | `(tactic| trivial) => `(tactic| with_reducible first | apply w_gM0 | apply w_gM1)
local macro_rules | `(tactic| trivial) => `(tactic| with_reducible exact sz (by simp))
local macro_rules | `(tactic| trivial) => `(tactic| with_reducible intro l hl)
local macro_rules | `(tactic| trivial) => `(tactic| with_reducible first | refine ⟨ok63_of (by omega) (by omega), ?_⟩ | refine ⟨⟨ok63_of (by omega) (by omega), ok63_of (by omega) (by omega)⟩, ?_⟩)
local macro_rules | `(tactic| trivial) => `(tactic| with_reducible refine ⟨sz (by simp), ?_⟩)

theorem goal : Goal := by
  intro ns hns
  rw [show cf 12 16 = runD (cf 11) fuel e_law.fd from cf_s 11 16 e_law rfl]
  have : ∃ r o, runD (cf 11) fuel e_law.fd [.val (.list (ns.map .int))] = .ret r o ∧ r = .fz (.bool true) := by
    refine run_ok rfl ?_
    show Wp (evSs (cf 11) fuel ir_law [.val (.list (ns.map .int)), .un, .un, .un, .un, .un, .un, .un]) _
    unfold ir_law
    repeat trivial
    rename_i l hl
    subst hl
    refine for_rng (fun i e => ∃ s1 s2 s3 s4 s5 s6 s7, e = [.val (.list (ns.map .int)), s1, s2, s3, s4, s5, s6, s7] ∧ s1.W ∧ s2.W ∧ s3.W ∧ s4.W ∧ s5.W ∧ s6.W ∧ s7.W) _ ⟨.un, .un, .un, .un, .un, .un, .un, rfl, True.intro, True.intro, True.intro, True.intro, True.intro, True.intro, True.intro⟩ ?_ ?_
    · rintro i _ hi ⟨s1, s2, s3, s4, s5, s6, s7, rfl, w1, w2, w3, w4, w5, w6, w7⟩
      repeat trivial
      obtain ⟨d, h1, hd⟩ := f5 10 ns (0 + (i : Int)) (by omega) (by omega) hns
      refine w_callR (by with_unfolding_all rfl) List.nodup_nil rfl h1 ?_
      clear h1
      rw [back_none (fun j => rfl)]
      repeat trivial
      obtain ⟨t, d1, h1, ht, hd1⟩ := f13 5 999000 (hd.mono (by omega))
      refine w_callR (by with_unfolding_all rfl) nd1 rfl h1 ?_
      clear h1
      rw [back_at (b := false) (d := d) (fun j => rfl) rfl]
      repeat trivial
      refine w_callR (by with_unfolding_all rfl) List.nodup_nil rfl (f4 7 _ (good_tab ht).n) ?_
      rw [back_none (fun j => rfl), formB_tab ht]
      repeat trivial
      refine w_callRk (by with_unfolding_all rfl) rfl (by decide) (by with_unfolding_all rfl) (f4 7 _ (good_tab ht).n) ?_
      rw [formB_tab ht]
      repeat trivial
      rename_i l hl
      subst hl
      refine for_rng (fun k e => ∃ d2 s4 s5 s6 s7, e = [.val (.list (ns.map .int)), .val (.int (0 + (i : Int))), .mu false d2, .val (tabD t), s4, s5, s6, s7] ∧ s4.W ∧ s5.W ∧ s6.W ∧ s7.W ∧ Feed (10 * (20 - k)) d2) _ ⟨d1, s4, s5, s6, s7, rfl, w4, w5, w6, w7, hd1.mono (by omega)⟩ ?_ ?_
      · rintro k _ hk ⟨d2, s4, s5, s6, s7, rfl, w4, w5, w6, w7, hd2⟩
        repeat trivial
        obtain ⟨x, d3, h1, hG, hd3⟩ := f15 8 (10 * (20 - (k + 1))) ht (hd2.mono (by omega))
        refine w_callR (by with_unfolding_all rfl) nd1 rfl h1 ?_
        clear h1
        rw [back_at (b := false) (d := d2) (fun j => rfl) rfl]
        repeat trivial
        have hr := b_repr hG.s (by decide) (by decide)
        have hb := b_repr (shw_bool (formB x)) (by decide) (by decide)
        refine w_many (by with_unfolding_all rfl) hr ?_
        repeat trivial
        refine w_callR (by with_unfolding_all rfl) List.nodup_nil rfl (f14 10 x hG.n) ?_
        rw [back_none (fun j => rfl)]
        repeat trivial
        refine w_callR (by with_unfolding_all rfl) List.nodup_nil rfl (f4 7 x hG.n) ?_
        rw [back_none (fun j => rfl)]
        repeat trivial
        refine w_many (by with_unfolding_all rfl) hb ?_
        repeat trivial
        refine w_many (by with_unfolding_all rfl) hb ?_
        refine w_two (by with_unfolding_all rfl) (by with_unfolding_all rfl) c_neS ?_
        refine ⟨_, rfl, ?_⟩
        refine w_iteF (by simp) ?_
        repeat trivial
        refine w_callRk (by with_unfolding_all rfl) rfl (by decide) (by with_unfolding_all rfl) (f4 7 x hG.n) ?_
        repeat trivial
        refine w_many (by with_unfolding_all rfl) hb ?_
        repeat trivial
        refine w_many (by with_unfolding_all rfl) hb ?_
        refine w_two (by with_unfolding_all rfl) (by with_unfolding_all rfl) c_neS ?_
        refine ⟨_, rfl, ?_⟩
        refine w_iteF (by simp) ?_
        repeat trivial
        refine w_many (by with_unfolding_all rfl) hr ?_
        repeat trivial
        refine w_iteF (by simp) ?_
        repeat trivial
        exact ⟨d3, _, _, _, _, rfl, True.intro, True.intro, True.intro, True.intro, hd3⟩
      · rintro _ ⟨d2, s4, s5, s6, s7, rfl, w4, w5, w6, w7, hd2⟩
        repeat trivial
        exact ⟨_, _, _, _, _, _, _, rfl, True.intro, True.intro, True.intro, w4, w5, w6, w7⟩
    · rintro _ ⟨s1, s2, s3, s4, s5, s6, s7, rfl, w1, w2, w3, w4, w5, w6, w7⟩
      repeat trivial
  obtain ⟨r, o, h, rfl⟩ := this
  exact ⟨o, h⟩
end Cr.k01
theorem PySem.Challenge.cw_straightleast_k01_what_is_a_table_holds : PySem.Challenge.rw_straightleast_k01_what_is_a_table.Holds :=
  Cr.k01.holds Cr.k01.goal
