import PyProof.Rows.All
import Wide.All
import OpenK.AllK
import Wide.FinOn
import HandS.ForMost
import HandS.Wide
import HandS.IsInst
import HandS.More
import HandS.TupAny
import HandS.Deep
import HandS.SortInts
import KE.KRevSl
import HandS.Head0
import HandS.Head1
import HandS.Head2
import HandS.HeadEnd
import HandS.HeadHook1
import HandS.HeadHook2
import PySem.Challenge.RW_errortells_k30_moved_orders
set_option Elab.async false
set_option linter.all false
set_option maxRecDepth 100000
set_option maxHeartbeats 0
/-! An evaluator for the texts at hand, over own data, and its soundness over the hand layer. -/
namespace Ev
open PySem L2

/-! ### data, store, results -/
inductive D where
  | non | bl (b : Bool) | int (i : Int) | str (x : Str) | tup (xs : List D)
  | lv (xs : List D)
  | fl (xs : List D)
  | ref (n : Nat)
  | ty (n : String)
  deriving Inhabited
inductive O where
  | lst (xs : List D) | dead
  deriving Inhabited
abbrev Sto := List O
inductive R (α : Type) where
  | ok (a : α) (S : Sto) | ex (c : Str) (fs : List (Str × D)) (S : Sto) | stuck
def R.bind {α β : Type} : R α → (α → Sto → R β) → R β
  | .ok a S, f => f a S
  | .ex c fs S, _ => .ex c fs S
  | .stuck, _ => .stuck
@[simp] theorem R.bind_ok {α β : Type} (a : α) (S : Sto) (f : α → Sto → R β) : (R.ok a S).bind f = f a S := (rfl)
@[simp] theorem R.bind_ex {α β : Type} (c : Str) (fs : List (Str × D)) (S : Sto) (f : α → Sto → R β) : (R.ex c fs S).bind f = .ex c fs S := (rfl)
@[simp] theorem R.bind_stuck {α β : Type} (f : α → Sto → R β) : (R.stuck).bind f = .stuck := (rfl)
abbrev Sg := List (Option D)

/-! ### the own syntax -/
inductive BOp where | add | sub | mul | fdiv | mod | pow deriving DecidableEq
inductive COp where | lt | le | gt | ge | eq | ne | in_ | nin | is_ | isn deriving DecidableEq
inductive Blt where | len | abs | int | list | tuple | str | max | min | sum | any | all | isi | sorted deriving DecidableEq
inductive Mth where | append | insert | pop deriving DecidableEq
inductive Tg where | nm (i : Nat) | tp (is : List Nat)
mutual
inductive E where
  | var (i : Nat) | glob (x : Str) | ty (n : String) | cint (i : Int) | cstr (x : Str) | cbl (b : Bool) | cnon
  | bin (op : BOp) (a b : E) | neg (a : E) | not (a : E)
  | cmp (op : COp) (a b : E) | chain (op op2 : COp) (a b c : E)
  | and1 (a : E) | and2 (a b : E) | or1 (a : E) | or2 (a b : E) | ife (t a b : E)
  | tup (es : Es) | lst (es : Es) | lstM (es : Es)
  | ix (a i : E) | sl (a lo hi : E) | nop
  | call (x f : Str) (es : Es) | blt (f : Blt) (es : Es) | bltM (f : Blt) (es : Es) | meth (m : Mth) (a : E) (es : Es)
  | lc (elt : E) (tg : Tg) (it : It) (cond : E)
  | frz (a : E) | binM (a b : E) | rev (a : E)
inductive Es where
  | nil | cons (e : E) (es : Es)
inductive It where
  | seq (e : E) | rng1 (e : E) | rng2 (a b : E)
end
mutual
inductive S where
  | asg (tg : Tg) (e : E) | seti (o i e : E) | expr (e : E) | ret (e : E) | retN
  | ifs (t : E) (a b : Ss) | for_ (tg : Tg) (it : It) (b : Ss) | whl (t : E) (b : Ss)
  | pass | brk | ctn | never
inductive Ss where
  | nil | cons (s : S) (ss : Ss)
end

/-! ### what operations do -/
def lim : Nat := 100000
mutual
def toPy : D → Option PyData
  | .non => some .none | .bl b => some (.bool b) | .int i => some (.int i) | .str x => some (.str x)
  | .tup xs => (toPys xs).map .tuple
  | .lv xs => (toPys xs).map .list
  | .fl xs => (toPys xs).map .list
  | .ref _ => none | .ty _ => none
def toPys : List D → Option (List PyData)
  | [] => some []
  | d :: ds => match toPy d, toPys ds with
    | some x, some xs => some (x :: xs)
    | _, _ => none
end
def topPy (S : Sto) : D → Option PyData
  | .ref n => match S[n]? with
    | some (.lst xs) => (toPys xs).map .list
    | _ => none
  | d => toPy d
/-- the items of a sequence that is walked -/
def items (S : Sto) : D → Option (List D)
  | .tup xs => some xs | .lv xs => some xs | .fl xs => some xs
  | .ref n => match S[n]? with
    | some (.lst xs) => some xs
    | _ => none
  | .str x => some (x.cps.toList.map fun c => .str ⟨#[c]⟩)
  | _ => none
def isSeq : D → Bool
  | .tup _ | .lv _ | .fl _ | .ref _ => true
  | _ => false
def lengthOf (S : Sto) : D → Option Nat
  | .str x => if x.length ≤ lim then some x.length else none
  | d => (items S d).map List.length
def truth (S : Sto) : D → Option Bool
  | .non => some false | .bl b => some b | .int i => some (i != 0)
  | .str x => if x.length ≤ lim then some ((x.length : Int) != 0) else none
  | .tup xs => some (!xs.isEmpty) | .lv xs => some (!xs.isEmpty) | .fl xs => some (!xs.isEmpty)
  | .ref n => match S[n]? with
    | some (.lst xs) => some (!xs.isEmpty)
    | _ => none
  | .ty _ => none
/-- a value's truth, as a run -/
def tr (d : D) (S : Sto) : R Bool := match truth S d with
  | some b => .ok b S
  | none => .stuck
def tyName (S : Sto) : D → Option String
  | .non => some "NoneType" | .bl _ => some "bool" | .int _ => some "int" | .str _ => some "str" | .tup _ => some "tuple"
  | .lv _ => some "list" | .fl _ => none
  | .ref n => match S[n]? with
    | some (.lst _) => some "list"
    | _ => none
  | .ty _ => none
def ofOpt {α : Type} (S : Sto) : Option α → R α
  | some a => .ok a S
  | none => .stuck
@[simp] theorem ofOpt_some {α : Type} (S : Sto) (a : α) : ofOpt S (some a) = .ok a S := (rfl)
@[simp] theorem ofOpt_none {α : Type} (S : Sto) : ofOpt S (none : Option α) = .stuck := (rfl)
/-- a list's items, of a kind that + takes -/
def listOf (S : Sto) : D → Option (List D)
  | .lv xs => some xs
  | .ref n => match S[n]? with
    | some (.lst xs) => some xs
    | _ => none
  | _ => none
def CMulD (i j : Int) : Bool := decide (-(2 ^ 64) < i ∧ i < 2 ^ 64) || decide (-(2 ^ 64) < j ∧ j < 2 ^ 64)
def binD (op : BOp) (a b : D) (S : Sto) : R D := match op, a, b with
  | .add, .int i, .int j => .ok (.int (i + j)) S
  | .add, .str x, .str y => if x.length + y.length ≤ lim then .ok (.str (x ++ y)) S else .stuck
  | .add, .tup xs, .tup ys => if xs.length + ys.length ≤ lim then .ok (.tup (xs ++ ys)) S else .stuck
  | .add, a, b => match listOf S a, listOf S b with
    | some xs, some ys => if xs.length + ys.length ≤ lim then .ok (.lv (xs ++ ys)) S else .stuck
    | _, _ => .stuck
  | .sub, .int i, .int j => .ok (.int (i - j)) S
  | .mul, .int i, .int j => if CMulD i j = true then .ok (.int (i * j)) S else .stuck
  | .fdiv, .int i, .int j => if 0 < j ∧ j.natAbs.log2 < 9000 then .ok (.int (i / j)) S else .stuck
  | .mod, .int i, .int j => if 0 < j then .ok (.int (i % j)) S else .stuck
  | .pow, .int i, .int j => if 0 ≤ j ∧ j ≤ 1000000 ∧ i.natAbs < 2 ^ 64 then .ok (.int (i ^ j.toNat)) S else .stuck
  | _, _, _ => .stuck
def catM (a b : D) (S : Sto) : R D := match listOf S a, listOf S b with
  | some xs, some ys => if xs.length + ys.length ≤ lim then .ok (.ref S.length) (S ++ [.lst (xs ++ ys)]) else .stuck
  | _, _ => .stuck
def eqS : D → D → Option Bool
  | .str x, .str y => some (decide (x = y))
  | .int x, .int y => some (decide (x = y))
  | .bl x, .bl y => some (decide (x = y))
  | _, _ => none
def eqD (S : Sto) (a b : D) : Option Bool := match eqS a b with
  | some k => some k
  | none => match topPy S a, topPy S b with
    | some x, some y => if SeqAt.shaped x && SeqAt.shaped y then some (PyData.eqv x y) else none
    | _, _ => none
def intsOf : List D → Option (List Int)
  | [] => some []
  | .int i :: ds => (intsOf ds).map (i :: ·)
  | _ => none
def boolsOf : List D → Option (List Bool)
  | [] => some []
  | .bl i :: ds => (boolsOf ds).map (i :: ·)
  | _ => none
def ltD (S : Sto) : D → D → Option Bool
  | .int i, .int j => some (decide (i < j))
  | .str x, .str y => some (decide (x.cps.toList < y.cps.toList))
  | .tup xs, .tup ys => match intsOf xs, intsOf ys with
    | some ns, some ms => some (HT.lexLt ns ms)
    | _, _ => none
  | _, _ => none
def leD : D → D → Option Bool
  | .int i, .int j => some (decide (i ≤ j))
  | .str x, .str y => some (!decide (y.cps.toList < x.cps.toList))
  | _, _ => none
def gtD : D → D → Option Bool
  | .int i, .int j => some (decide (j < i))
  | .str x, .str y => some (decide (y.cps.toList < x.cps.toList))
  | _, _ => none
def geD : D → D → Option Bool
  | .int i, .int j => some (decide (j ≤ i))
  | .str x, .str y => some (!decide (x.cps.toList < y.cps.toList))
  | _, _ => none
def flatD : D → Bool
  | .non | .bl _ | .int _ | .str _ => true
  | _ => false
def toV : D → V
  | .non => .non | .bl b => .bl b | .int i => .int i | .str x => .str x
  | _ => .non
def inD (S : Sto) : D → D → Option Bool
  | .str x, .str y => match x.cps.toList with
    | [c] => some (decide (c ∈ y.cps.toList))
    | _ => none
  | x, d => match items S d with
    | some ys => if isSeq d && flatD x && ys.all flatD then some (inV (toV x) (ys.map toV)) else match topPy S x, topPy S d with
      | some a, some (.list ds) => if SeqAt.shaped a && SeqAt.shaped (.list ds) then some (ds.any fun z => PyData.eqv z a) else none
      | some a, some (.tuple ds) => if SeqAt.shaped a && SeqAt.shaped (.tuple ds) then some (ds.any fun z => PyData.eqv z a) else none
      | _, _ => none
    | none => none
def isD : D → D → Option Bool
  | .non, .non => some true
  | .bl _, .non => some false | .int _, .non => some false | .str _, .non => some false | .tup _, .non => some false
  | .lv _, .non => some false | .ref _, .non => some false
  | _, _ => none
def cmpO (op : COp) (a b : D) (S : Sto) : Option Bool := match op with
  | .lt => ltD S a b | .le => leD a b | .gt => gtD a b | .ge => geD a b
  | .eq => eqD S a b | .ne => (eqD S a b).map (!·)
  | .in_ => inD S a b | .nin => (inD S a b).map (!·)
  | .is_ => isD a b | .isn => (isD a b).map (!·)
def cmpD (op : COp) (a b : D) (S : Sto) : R D := (ofOpt S (cmpO op a b S)).bind fun b S => .ok (.bl b) S
def ixD (a i : D) (S : Sto) : R D := match a, i with
  | .str x, .int i => if x.length ≤ lim then ofOpt S ((atI x.cps.toList i).map fun c => .str ⟨#[c]⟩) else .stuck
  | a, .int i => match items S a with
    | some xs => ofOpt S (atI xs i)
    | none => .stuck
  | _, _ => .stuck
def cutD (xs : List D) (lo hi : Option Int) : List D := (xs.drop (HT.sIx xs.length 0 lo)).take (HT.sIx xs.length xs.length hi - HT.sIx xs.length 0 lo)
def slD (a : D) (lo hi : Option Int) (S : Sto) : R D := match a with
  | .str x => if x.length ≤ lim then .ok (.str (cutS x lo hi)) S else .stuck
  | .tup xs => .ok (.tup (cutD xs lo hi)) S
  | a => match listOf S a with
    | some xs => .ok (.lv (cutD xs lo hi)) S
    | none => .stuck
def lenD (vs : List D) (S : Sto) : R D := match vs with
  | [d] => match lengthOf S d with
    | some n => .ok (.int (n : Nat)) S
    | none => .stuck
  | _ => .stuck
def absD (vs : List D) (S : Sto) : R D := match vs with
  | [.int i] => .ok (.int (if i < 0 then -i else i)) S
  | _ => .stuck
def intD (vs : List D) (S : Sto) : R D := match vs with
  | [.int i] => .ok (.int i) S
  | [.bl k] => .ok (.int (if k then 1 else 0)) S
  | _ => .stuck
def lstD (vs : List D) (S : Sto) : R D := match vs with
  | [d] => if isSeq d then (match items S d with
    | some xs => .ok (.lv xs) S
    | none => .stuck) else .stuck
  | _ => .stuck
def tupD (vs : List D) (S : Sto) : R D := match vs with
  | [.tup xs] => .ok (.tup xs) S
  | [d] => if isSeq d then (match items S d with
    | some xs => .ok (.tup xs) S
    | none => .stuck) else .stuck
  | _ => .stuck
def strD (vs : List D) (S : Sto) : R D := match vs with
  | [.int i] => if i.natAbs.log2 < 1920 then .ok (.str (toString i)) S else .stuck
  | _ => .stuck
def maxD (vs : List D) (S : Sto) : R D := match vs with
  | [.int i, .int j] => .ok (.int (if j > i then j else i)) S
  | _ => .stuck
def minD (vs : List D) (S : Sto) : R D := match vs with
  | [.int i, .int j] => .ok (.int (if j < i then j else i)) S
  | _ => .stuck
def sumD (vs : List D) (S : Sto) : R D := match vs with
  | [d] => match (listOf S d).bind intsOf with
    | some ns => .ok (.int ns.sum) S
    | none => .stuck
  | _ => .stuck
def sortI (ns : List Int) : List Int := ns.mergeSort fun a b => decide (a ≤ b)
def sortedD (vs : List D) (S : Sto) : R D := match vs with
  | [d] => match (listOf S d).bind intsOf with
    | some ns => .ok (.lv ((sortI ns).map D.int)) S
    | none => .stuck
  | _ => .stuck
def anyD (vs : List D) (S : Sto) : R D := match vs with
  | [d] => match (listOf S d).bind boolsOf with
    | some bs => .ok (.bl (bs.any id)) S
    | none => .stuck
  | _ => .stuck
def allD (vs : List D) (S : Sto) : R D := match vs with
  | [d] => match (listOf S d).bind boolsOf with
    | some bs => .ok (.bl (bs.all id)) S
    | none => .stuck
  | _ => .stuck
def isiD (vs : List D) (S : Sto) : R D := match vs with
  | [d, .ty n] => match tyName S d with
    | some t => (match kitB t n with
      | some b => .ok (.bl b) S
      | none => .stuck)
    | none => .stuck
  | _ => .stuck
def bltD (f : Blt) (vs : List D) (S : Sto) : R D := match f with
  | .len => lenD vs S | .abs => absD vs S | .int => intD vs S | .list => lstD vs S | .tuple => tupD vs S | .str => strD vs S
  | .max => maxD vs S | .min => minD vs S | .sum => sumD vs S | .any => anyD vs S | .all => allD vs S | .isi => isiD vs S | .sorted => sortedD vs S
/-- a new list that may be changed -/
def thaw (d : D) (S : Sto) : R D := match d with
  | .lv xs => .ok (.ref S.length) (S ++ [.lst xs])
  | _ => .stuck
def frzD (d : D) (S : Sto) : R D := match d with
  | .ref n => match S[n]? with
    | some (.lst xs) => .ok (.lv xs) (S.set n .dead)
    | _ => .stuck
  | _ => .stuck
/-- a list turned round -/
def revD (d : D) (S : Sto) : R D := match listOf S d with
  | some xs => .ok (.lv xs.reverse) S
  | none => .stuck
def appF (xs vs : List D) : Option (D × List D) := match vs with
  | [d] => if xs.length < lim then some (.non, xs ++ [d]) else none
  | _ => none
def insF (xs vs : List D) : Option (D × List D) := match vs with
  | [.int i, d] => if xs.length < lim ∧ 0 ≤ i ∧ i < 2 ^ 62 then some (.non, xs.take i.toNat ++ d :: xs.drop i.toNat) else none
  | _ => none
def popF (xs vs : List D) : Option (D × List D) := match vs with
  | [.int i] => if 0 ≤ i ∧ i < xs.length ∧ xs.length ≤ lim then (match xs[i.toNat]? with
    | some d => some (d, xs.eraseIdx i.toNat)
    | none => none) else none
  | _ => none
def Mth.run : Mth → List D → List D → Option (D × List D)
  | .append => appF | .insert => insF | .pop => popF
def methD (m : Mth) (o : D) (vs : List D) (S : Sto) : R D := match o with
  | .ref n => match S[n]? with
    | some (.lst xs) => (match m.run xs vs with
      | some (d, ys) => .ok d (S.set n (.lst ys))
      | none => .stuck)
    | _ => .stuck
  | _ => .stuck
def setiD (o i d : D) (S : Sto) : R Unit := match o, i with
  | .ref n, .int i => match S[n]? with
    | some (.lst xs) => match ixN xs.length i with
      | some j => .ok () (S.set n (.lst (xs.set j d)))
      | none => .stuck
    | _ => .stuck
  | _, _ => .stuck
def setAll : List Nat → List D → Sg → Option Sg
  | [], [], σ => some σ
  | i :: is, d :: ds, σ => setAll is ds (σ.set i (some d))
  | _, _, _ => none
def setTg : Tg → D → Sg → Option Sg
  | .nm i, d, σ => some (σ.set i (some d))
  | .tp is, .tup ds, σ => setAll is ds σ
  | .tp _, _, _ => none
def wipeD (σ : Sg) : List Nat → Sg
  | [] => σ
  | v :: vs => (wipeD σ vs).set v none
def Tg.slots : Tg → List Nat
  | .nm i => [i]
  | .tp is => is

structure Ctx where
  call : Str → Str → List D → Sto → R D
  con : Str → Option D
  w : Nat
inductive Fl where | nx (σ : Sg) | rt (d : D) | bk (σ : Sg) | ct (σ : Sg)
/-- a comprehension's turns -/
def lcGo (d : D) (tg : Tg) (σ : Sg) (cond elt : Sg → Sto → R D) : Nat → Nat → List D → Sto → R D
  | 0, _, _, _ => .stuck
  | n + 1, i, acc, S => match items S d with
    | none => .stuck
    | some xs => match xs[i]? with
      | none => .ok (.lv acc) S
      | some x => match setTg tg x (wipeD σ tg.slots) with
        | none => .stuck
        | some σ1 => ((cond σ1 S).bind tr).bind fun c S1 => match c with
          | true => (elt σ1 S1).bind fun y S2 => if acc.length < lim then lcGo d tg σ cond elt n (i + 1) (acc ++ [y]) S2 else .stuck
          | false => lcGo d tg σ cond elt n (i + 1) acc S1
def lcRg (tg : Tg) (σ : Sg) (cond elt : Sg → Sto → R D) (lo : Int) : Nat → Nat → List D → Sto → R D
  | 0, _, acc, S => .ok (.lv acc) S
  | n + 1, i, acc, S => match setTg tg (.int (lo + i)) (wipeD σ tg.slots) with
    | none => .stuck
    | some σ1 => ((cond σ1 S).bind tr).bind fun c S1 => match c with
      | true => (elt σ1 S1).bind fun y S2 => if acc.length < lim then lcRg tg σ cond elt lo n (i + 1) (acc ++ [y]) S2 else .stuck
      | false => lcRg tg σ cond elt lo n (i + 1) acc S1
def evPart (no : Bool) (f : Sto → R D) (S : Sto) : R (Option Int) := match no with
  | true => .ok none S
  | false => (f S).bind fun x S => match x with
    | .int i => .ok (some i) S
    | _ => .stuck
def E.isNop : E → Bool
  | .nop => true
  | _ => false
def rngOk (i : Int) : Bool := decide (-(2 ^ 62) ≤ i ∧ i < 2 ^ 62)
mutual
def evE (Γ : Ctx) : E → Sg → Sto → R D
  | .var i, σ, S => match σ[i]? with
    | some (some d) => .ok d S
    | _ => .stuck
  | .glob x, _, S => ofOpt S (Γ.con x)
  | .ty n, _, S => .ok (.ty n) S
  | .cint i, _, S => .ok (.int i) S
  | .cstr x, _, S => .ok (.str x) S
  | .cbl b, _, S => .ok (.bl b) S
  | .cnon, _, S => .ok .non S
  | .bin op a b, σ, S => (evE Γ a σ S).bind fun x S => (evE Γ b σ S).bind fun y S => binD op x y S
  | .neg a, σ, S => (evE Γ a σ S).bind fun x S => match x with
    | .int i => .ok (.int (-i)) S
    | _ => .stuck
  | .not a, σ, S => (evE Γ a σ S).bind fun x S => match x with
    | .bl b => .ok (.bl (!b)) S
    | _ => .stuck
  | .cmp op a b, σ, S => (evE Γ a σ S).bind fun x S => (evE Γ b σ S).bind fun y S => cmpD op x y S
  | .chain op op2 a b c, σ, S => (evE Γ a σ S).bind fun x S => (evE Γ b σ S).bind fun y S => (cmpD op x y S).bind fun k S => match k with
    | .bl true => (evE Γ c σ S).bind fun z S => cmpD op2 y z S
    | .bl false => .ok (.bl false) S
    | _ => .stuck
  | .and1 a, σ, S => evE Γ a σ S
  | .and2 a b, σ, S => (evE Γ a σ S).bind fun x S => match x with
    | .bl true => evE Γ b σ S
    | .bl false => .ok (.bl false) S
    | _ => .stuck
  | .or1 a, σ, S => evE Γ a σ S
  | .or2 a b, σ, S => (evE Γ a σ S).bind fun x S => match x with
    | .bl true => .ok (.bl true) S
    | .bl false => evE Γ b σ S
    | _ => .stuck
  | .ife t a b, σ, S => ((evE Γ t σ S).bind tr).bind fun x S => match x with
    | true => evE Γ a σ S
    | false => evE Γ b σ S
  | .tup es, σ, S => (evEs Γ es σ S).bind fun vs S => if vs.length ≤ lim then .ok (.tup vs) S else .stuck
  | .lst es, σ, S => (evEs Γ es σ S).bind fun vs S => if vs.length ≤ lim then .ok (.lv vs) S else .stuck
  | .lstM es, σ, S => (evEs Γ es σ S).bind fun vs S => if vs.length ≤ lim then thaw (.lv vs) S else .stuck
  | .ix a i, σ, S => (evE Γ a σ S).bind fun x S => (evE Γ i σ S).bind fun y S => ixD x y S
  | .sl a lo hi, σ, S => (evE Γ a σ S).bind fun x S => (evPart lo.isNop (evE Γ lo σ) S).bind fun l S => (evPart hi.isNop (evE Γ hi σ) S).bind fun h S => slD x l h S
  | .nop, _, _ => .stuck
  | .call x f es, σ, S => (evEs Γ es σ S).bind fun vs S => Γ.call x f vs S
  | .blt f es, σ, S => (evEs Γ es σ S).bind fun vs S => bltD f vs S
  | .bltM f es, σ, S => (evEs Γ es σ S).bind fun vs S => (bltD f vs S).bind thaw
  | .meth m a es, σ, S => (evE Γ a σ S).bind fun o S => match listOf S o with
    | some _ => (evEs Γ es σ S).bind fun vs S => methD m o vs S
    | none => .stuck
  | .lc elt tg (.seq e) cond, σ, S => (evE Γ e σ S).bind fun d S => match items S d with
    | some xs => lcGo d tg σ (evE Γ cond) (evE Γ elt) (xs.length + 1) 0 [] S
    | none => .stuck
  | .lc elt tg (.rng1 e) cond, σ, S => (evE Γ e σ S).bind fun d S => match d with
    | .int j => if rngOk j then lcRg tg σ (evE Γ cond) (evE Γ elt) 0 j.toNat 0 [] S else .stuck
    | _ => .stuck
  | .lc elt tg (.rng2 a b) cond, σ, S => (evE Γ a σ S).bind fun x S => (evE Γ b σ S).bind fun y S => match x, y with
    | .int i, .int j => if rngOk i && rngOk j then lcRg tg σ (evE Γ cond) (evE Γ elt) i (j - i).toNat 0 [] S else .stuck
    | _, _ => .stuck
  | .frz a, σ, S => (evE Γ a σ S).bind frzD
  | .rev a, σ, S => (evE Γ a σ S).bind revD
  | .binM a b, σ, S => (evE Γ a σ S).bind fun x S => (evE Γ b σ S).bind fun y S => catM x y S
termination_by structural e => e
def evEs (Γ : Ctx) : Es → Sg → Sto → R (List D)
  | .nil, _, S => .ok [] S
  | .cons e es, σ, S => (evE Γ e σ S).bind fun x S => (evEs Γ es σ S).bind fun xs S => .ok (x :: xs) S
termination_by structural e => e
end
/-! ### statements -/
def seqK (g : Sg → Sto → R Fl) : Fl → Sto → R Fl
  | .nx σ, S => g σ S
  | .rt d, S => .ok (.rt d) S
  | .bk σ, S => .ok (.bk σ) S
  | .ct σ, S => .ok (.ct σ) S
def loopK (next : Sg → Sto → R Fl) : Fl → Sto → R Fl
  | .nx σ, S => next σ S
  | .ct σ, S => next σ S
  | .bk σ, S => .ok (.nx σ) S
  | .rt v, S => .ok (.rt v) S
def forGo (d : D) (tg : Tg) (body : Sg → Sto → R Fl) : Nat → Nat → Sg → Sto → R Fl
  | 0, _, _, _ => .stuck
  | n + 1, i, σ, S => match items S d with
    | none => .stuck
    | some xs => match xs[i]? with
      | none => .ok (.nx σ) S
      | some x => match setTg tg x σ with
        | none => .stuck
        | some σ1 => (body σ1 S).bind (loopK (forGo d tg body n (i + 1)))
def forRg (tg : Tg) (body : Sg → Sto → R Fl) (lo : Int) : Nat → Nat → Sg → Sto → R Fl
  | 0, _, σ, S => .ok (.nx σ) S
  | n + 1, i, σ, S => match setTg tg (.int (lo + i)) σ with
    | none => .stuck
    | some σ1 => (body σ1 S).bind (loopK (forRg tg body lo n (i + 1)))
def whGo (c : Sg → Sto → R D) (body : Sg → Sto → R Fl) : Nat → Sg → Sto → R Fl
  | 0, _, _ => .stuck
  | n + 1, σ, S => ((c σ S).bind tr).bind fun x S1 => match x with
    | true => (body σ S1).bind (loopK (whGo c body n))
    | false => .ok (.nx σ) S1
mutual
def evS (Γ : Ctx) : Ev.S → Sg → Sto → R Fl
  | .asg tg e, σ, S => (evE Γ e σ S).bind fun x S => match setTg tg x σ with
    | some σ1 => .ok (.nx σ1) S
    | none => .stuck
  | .seti o i e, σ, S => (evE Γ e σ S).bind fun x S => (evE Γ o σ S).bind fun o S => (evE Γ i σ S).bind fun i S => (setiD o i x S).bind fun _ S => .ok (.nx σ) S
  | .expr e, σ, S => (evE Γ e σ S).bind fun _ S => .ok (.nx σ) S
  | .ret e, σ, S => (evE Γ e σ S).bind fun x S => .ok (.rt x) S
  | .retN, _, S => .ok (.rt .non) S
  | .ifs t a b, σ, S => ((evE Γ t σ S).bind tr).bind fun x S => match x with
    | true => evSs Γ a σ S
    | false => evSs Γ b σ S
  | .for_ tg (.seq e) b, σ, S => (evE Γ e σ S).bind fun d S => match items S d with
    | some xs => forGo d tg (evSs Γ b) (xs.length + 1) 0 σ S
    | none => .stuck
  | .for_ tg (.rng1 e) b, σ, S => (evE Γ e σ S).bind fun d S => match d with
    | .int j => if rngOk j then forRg tg (evSs Γ b) 0 j.toNat 0 σ S else .stuck
    | _ => .stuck
  | .for_ tg (.rng2 x y) b, σ, S => (evE Γ x σ S).bind fun x S => (evE Γ y σ S).bind fun y S => match x, y with
    | .int i, .int j => if rngOk i && rngOk j then forRg tg (evSs Γ b) i (j - i).toNat 0 σ S else .stuck
    | _, _ => .stuck
  | .whl t b, σ, S => whGo (evE Γ t) (evSs Γ b) Γ.w σ S
  | .pass, σ, S => .ok (.nx σ) S
  | .brk, σ, S => .ok (.bk σ) S
  | .ctn, σ, S => .ok (.ct σ) S
  | .never, _, _ => .stuck
termination_by structural e => e
def evSs (Γ : Ctx) : Ss → Sg → Sto → R Fl
  | .nil, σ, S => .ok (.nx σ) S
  | .cons s ss, σ, S => (evS Γ s σ S).bind (seqK (evSs Γ ss))
termination_by structural e => e
end
/-! ### defs -/
structure Fn where
  base : Str
  ns : List Str
  ps : List Str
  body : Ss
structure Prg where
  fns : List (Str × Fn)
  con : List (Str × D)
  w : Nat
def retK : Fl → Sto → R D
  | .nx _, S => .ok .non S
  | .rt d, S => .ok d S
  | _, _ => .stuck
def callN (T : Prg) : Nat → Str → Str → List D → Sto → R D
  | 0, _, _, _, _ => .stuck
  | k + 1, x, f, ds, S => match T.fns.lookup f with
    | none => .stuck
    | some F => if x = F.base ∧ ds.length = F.ps.length then
        (evSs ⟨callN T k, fun x => T.con.lookup x, T.w⟩ F.body (ds.map some ++ List.replicate (F.ns.length - ds.length) none) S).bind retK
      else .stuck
end Ev

namespace Ev
open PySem L2

/-! ### the own syntax against the text -/
def visB (sc : Scope) (x : Str) : Bool := match sc.names.lookup x with
  | some .local => true | some .cell => true | some .free => true
  | _ => false
def glB (sc : Scope) (x : Str) : Bool := (match sc.names.lookup x with
  | some .globalImplicit => true
  | _ => false) && !(x == ("__debug__" : Str))
def stB (sc ws : Scope) (x : Str) : Bool := match sc.names.lookup x with
  | some .local => true
  | some .cell => (match ws.names.lookup x with
    | some .cell => true
    | _ => false)
  | _ => false
def BOp.is : BOp → Operator → Bool
  | .add, .Add => true | .sub, .Sub => true | .mul, .Mult => true | .fdiv, .FloorDiv => true | .mod, .Mod => true | .pow, .Pow => true
  | _, _ => false
def COp.is : COp → CmpOp → Bool
  | .lt, .Lt => true | .le, .LtE => true | .gt, .Gt => true | .ge, .GtE => true | .eq, .Eq => true | .ne, .NotEq => true
  | .in_, .In => true | .nin, .NotIn => true | .is_, .Is => true | .isn, .IsNot => true
  | _, _ => false
def Blt.nm : Blt → Str
  | .len => "len" | .abs => "abs" | .int => "int" | .list => "list" | .tuple => "tuple" | .str => "str" | .max => "max" | .min => "min"
  | .sum => "sum" | .any => "any" | .all => "all" | .isi => "isinstance" | .sorted => "sorted"
def Mth.nm : Mth → Str
  | .append => "append" | .insert => "insert" | .pop => "pop"
def tyOk (n : String) (x : Str) : Bool := ((n == "int" && x == "int") || (n == "bool" && x == "bool") || (n == "str" && x == "str") || (n == "list" && x == "list") || (n == "tuple" && x == "tuple"))
def E.tst : E → Bool
  | .ife _ _ _ => false
  | .not a => a.tst
  | .and1 a => a.tst
  | .and2 a b => a.tst && b.tst
  | .or1 a => a.tst
  | .or2 a b => a.tst && b.tst
  | .frz a => false
  | _ => true
def E.isBo : E → Bool
  | .and1 _ | .and2 _ _ | .or1 _ | .or2 _ _ => true
  | _ => false
def notSl : Expr → Bool
  | .Slice _ _ _ _ => false
  | _ => true
def isBs : Expr → Bool
  | .Name _ _ => true
  | .Subscript _ _ _ => true
  | _ => false
def isM1 : Expr → Bool
  | .UnaryOp .USub (.Constant (.int 1) _ _) _ => true
  | _ => false
def isRv : Expr → Bool
  | .Slice none none (some st) _ => isM1 st
  | _ => false
def isNm : Expr → Bool
  | .Name _ _ => true
  | _ => false
def fitNs (N : List Str) (sc ws : Scope) : List Nat → List Expr → Bool
  | [], [] => true
  | i :: is, .Name x _ :: es => decide (N[i]? = some x) && stB sc ws x && fitNs N sc ws is es
  | _, _ => false
def fitTg (N : List Str) (sc ws : Scope) : Tg → Expr → Bool
  | .nm i, .Name x _ => decide (N[i]? = some x) && stB sc ws x
  | .tp is, .Tuple es _ _ => fitNs N sc ws is es
  | _, _ => false
def ownNs : List Nat → List Expr → List (Str × Nat)
  | i :: is, .Name x _ :: es => (x, i) :: ownNs is es
  | _, _ => []
def ownOf : Tg → Expr → List (Str × Nat)
  | .nm i, .Name x _ => [(x, i)]
  | .tp is, .Tuple es _ _ => ownNs is es
  | _, _ => []
mutual
def fitE (N : List Str) (sc ws : Scope) : E → Expr → Bool
  | .var i, .Name x _ => decide (N[i]? = some x) && visB sc x && !(x == ("__debug__" : Str)) && !(x == ("__classdict__" : Str))
  | .glob y, .Name x _ => decide (x = y) && glB sc x
  | .ty n, .Name x _ => tyOk n x && glB sc x
  | .cint i, .Constant (.int j) _ _ => decide (i = j)
  | .cstr x, .Constant (.str y) _ _ => decide (x = y)
  | .cbl x, .Constant (.bool y) _ _ => decide (x = y)
  | .cnon, .Constant .none _ _ => true
  | .bin op a b, .BinOp ea o eb _ => op.is o && fitE N sc ws a ea && fitE N sc ws b eb
  | .neg a, .UnaryOp .USub ea _ => fitE N sc ws a ea
  | .not a, .UnaryOp .Not ea _ => fitE N sc ws a ea
  | .cmp op a b, .Compare ea [o] [eb] _ => op.is o && fitE N sc ws a ea && fitE N sc ws b eb && !(behindInMarks o eb)
  | .chain op op2 a b c, .Compare ea [o, o2] [eb, ec] _ => op.is o && op2.is o2 && fitE N sc ws a ea && fitE N sc ws b eb && fitE N sc ws c ec && !(lastMarks [o, o2] [eb, ec])
  | .and1 a, .BoolOp .And [ea] _ => fitE N sc ws a ea
  | .and2 a b, .BoolOp .And (ea :: eb :: r) p => fitE N sc ws a ea && b.isBo && fitE N sc ws b (.BoolOp .And (eb :: r) p)
  | .or1 a, .BoolOp .Or [ea] _ => fitE N sc ws a ea
  | .or2 a b, .BoolOp .Or (ea :: eb :: r) p => fitE N sc ws a ea && b.isBo && fitE N sc ws b (.BoolOp .Or (eb :: r) p)
  | .ife t a b, .IfExp et ea eb _ => t.tst && fitE N sc ws t et && fitE N sc ws a ea && fitE N sc ws b eb
  | .tup es, .Tuple ees _ _ => fitEs N sc ws es ees
  | .lst es, .List ees _ => fitEs N sc ws es ees
  | .lstM es, .List ees _ => fitEs N sc ws es ees
  | .ix a i, .Subscript ea ei _ => fitE N sc ws a ea && fitE N sc ws i ei && notSl ei
  | .sl a lo hi, .Subscript ea (.Slice l h none _) _ => fitE N sc ws a ea &&
      (match l with | none => lo.isNop | some e => !lo.isNop && fitE N sc ws lo e) && (match h with | none => hi.isNop | some e => !hi.isNop && fitE N sc ws hi e)
  | .call y f es, .Call (.Name x _) (e :: ees) [] _ => decide (x = y) && glB sc x && fitEs N sc ws es (e :: ees)
  | .blt f es, .Call (.Name x _) (e :: ees) [] _ => decide (x = f.nm) && glB sc x && fitEs N sc ws es (e :: ees)
  | .bltM f es, .Call (.Name x _) (e :: ees) [] _ => decide (x = f.nm) && glB sc x && fitEs N sc ws es (e :: ees) && (decide (f = .list))
  | .meth m a es, .Call (.Attribute ea nm ap) (e :: ees) [] cp => decide (nm = m.nm) && isBs ea && fitE N sc ws a ea && fitEs N sc ws es (e :: ees) && (ap.endLine == cp.line) && decide ((e :: ees).length < 29)
  | .lc elt tg it cond, .ListComp eelt [⟨etg, eit, ifs, asy⟩] scope _ => decide (asy = 0) && decide ((ownOf tg etg).map (·.2) = tg.slots) && blkC N sc scope (ownOf tg etg) && fitTg N (relS scope sc) scope tg etg && fitIt N sc ws it eit &&
      (match ifs with | [] => (match cond with | .cbl true => true | _ => false) | [c] => cond.tst && fitE N (relS scope sc) scope cond c | _ => false) && fitE N (relS scope sc) scope elt eelt
  | .frz a, e => fitE N sc ws a e
  | .rev a, .Subscript ea es _ => isNm ea && isRv es && fitE N sc ws a ea
  | .binM a b, .BinOp ea .Add eb _ => fitE N sc ws a ea && fitE N sc ws b eb
  | _, _ => false
termination_by structural e => e
def fitEs (N : List Str) (sc ws : Scope) : Es → List Expr → Bool
  | .nil, [] => true
  | .cons e es, x :: xs => fitE N sc ws e x && fitEs N sc ws es xs
  | _, _ => false
termination_by structural e => e
def fitIt (N : List Str) (sc ws : Scope) : It → Expr → Bool
  | .seq e, x => fitE N sc ws e x
  | .rng1 e, .Call (.Name x _) [a] [] _ => decide (x = "range") && glB sc x && fitE N sc ws e a
  | .rng2 e f, .Call (.Name x _) [a, b] [] _ => decide (x = "range") && glB sc x && fitE N sc ws e a && fitE N sc ws f b
  | _, _ => false
termination_by structural e => e
end
/-- a right side whose store is the plain one -/
def plainR : Expr → Bool
  | .ListComp _ _ _ _ | .SetComp _ _ _ _ | .DictComp _ _ _ _ _ => false
  | _ => true
def fitLc (sc : Scope) (x : Str) (p : Pos) (e : E) : Expr → Bool
  | .ListComp _ [_] s vp => (match e with
    | .lc _ _ _ _ => (match sc.names.lookup x with
      | some .local => decide (sc.kind = .function) && (p.line == vp.line) && !(s.names.any fun (n, k) => n == x && (k == .local || k == .cell))
      | _ => true)
    | _ => false)
  | _ => false
def isTup : Expr → Bool
  | .Tuple _ _ _ => true
  | _ => false
def fitAsg1 (N : List Str) (sc : Scope) (e : E) (v : Expr) : Tg → Expr → Bool
  | .nm i, .Name x p => fitE N sc sc e v && decide (N[i]? = some x) && stB sc sc x && (plainR v || fitLc sc x p e v)
  | .tp is, .Tuple es _ _ => fitE N sc sc e v && plainR v && !(isTup v) && fitNs N sc sc is es
  | _, _ => false
def fitAsg (N : List Str) (sc : Scope) (tg : Tg) (e : E) (v : Expr) : List Expr → Bool
  | [t] => fitAsg1 N sc e v tg t
  | _ => false
def fitSet1 (N : List Str) (sc : Scope) (o i e : E) (v : Expr) : Expr → Bool
  | .Subscript eo ei _ => fitE N sc sc e v && plainR v && fitE N sc sc o eo && fitE N sc sc i ei && notSl ei
  | _ => false
def fitSet (N : List Str) (sc : Scope) (o i e : E) (v : Expr) : List Expr → Bool
  | [t] => fitSet1 N sc o i e v t
  | _ => false
mutual
def fitS (N : List Str) (sc : Scope) : Ev.S → Stmt → Bool
  | .asg tg e, .Assign tgs v _ => fitAsg N sc tg e v tgs
  | .seti o i e, .Assign tgs v _ => fitSet N sc o i e v tgs
  | .expr e, .Expr v _ => fitE N sc sc e v && plainR v
  | .ret e, .Return (some v) _ => fitE N sc sc e v
  | .retN, .Return none _ => true
  | .ifs t a b, .If et ea eb _ => t.tst && fitE N sc sc t et && fitSs N sc a ea && fitSs N sc b eb
  | .for_ tg it b, .For etg eit eb [] _ => fitTg N sc sc tg etg && fitIt N sc sc it eit && fitSs N sc b eb
  | .whl t b, .While et eb [] _ => t.tst && fitE N sc sc t et && fitSs N sc b eb
  | .pass, .Pass _ => true
  | .brk, .Break _ => true
  | .ctn, .Continue _ => true
  | .never, _ => true
  | _, _ => false
termination_by structural e => e
def fitSs (N : List Str) (sc : Scope) : Ss → List Stmt → Bool
  | .nil, [] => true
  | .cons s ss, x :: xs => fitS N sc s x && fitSs N sc ss xs
  | _, _ => false
termination_by structural e => e
end

/-! ### data against the heap -/
def Own (m : List Addr) (S : Sto) (a : Addr) : Prop := ∃ (i : Nat) (xs : List D), m[i]? = some a ∧ S[i]? = some (O.lst xs)
section
variable (K : PySem.W.Frag) (Z : List Addr) (m : List Addr) (S : Sto) (H : Hp)
mutual
inductive RelD : D → V → Prop where
  | non : RelD .non .non
  | bl (b : Bool) : RelD (.bl b) (.bl b)
  | int (i : Int) : RelD (.int i) (.int i)
  | str (x : Str) : RelD (.str x) (.str x)
  | ty (n : String) : RelD (.ty n) (.ty n)
  | tup {p : Addr} {ds : List D} {vs : List V} (h : H p = some (.tup vs)) (n : ¬ Own m S p) (z : p ∉ Z) (r : RelDs ds vs) : RelD (.tup ds) (.ref p)
  | tupK {p : Addr} {ds : List D} {vs : List V} (h : SqT K (fun _ => none) p vs) (r : RelDs ds vs) : RelD (.tup ds) (.ref p)
  | lv {p : Addr} {ds : List D} {vs : List V} (h : H p = some (.lst vs)) (n : ¬ Own m S p) (z : p ∉ Z) (r : RelDs ds vs) : RelD (.lv ds) (.ref p)
  | fl {p : Addr} {ds : List D} {vs : List V} (h : Rd H p (.lst vs)) (n : ¬ Own m S p) (z : p ∉ Z) (r : RelDs ds vs) : RelD (.fl ds) (.ref p)
  | flK {p : Addr} {ds : List D} {vs : List V} (h : SqL K (fun _ => none) p vs) (r : RelDs ds vs) : RelD (.fl ds) (.ref p)
  | ref {n : Nat} {a : Addr} (h : m[n]? = some a) : RelD (.ref n) (.ref a)
inductive RelDs : List D → List V → Prop where
  | nil : RelDs [] []
  | cons {d : D} {v : V} {ds : List D} {vs : List V} (h : RelD d v) (t : RelDs ds vs) : RelDs (d :: ds) (v :: vs)
end
end
structure RelS (K : PySem.W.Frag) (Z : List Addr) (m : List Addr) (S : Sto) (H : Hp) : Prop where
  len : m.length = S.length
  nd : m.Nodup
  has : ∀ a, a ∈ m → ∃ o, H a = some o
  hid : ∀ z, z ∈ Z → (∃ o, H z = some o) ∧ z ∉ m
  obj : ∀ (i : Nat) (a : Addr) (xs : List D), m[i]? = some a → S[i]? = some (O.lst xs) → ∃ vs, H a = some (.lst vs) ∧ RelDs K Z m S H xs vs
structure Step (m : List Addr) (S : Sto) (H : Hp) (m' : List Addr) (S' : Sto) (H' : Hp) : Prop where
  pre : ∃ t, m' = m ++ t
  keep : ∀ a o, H a = some o → ¬ Own m S a → H' a = some o ∧ ¬ Own m' S' a
section
variable {K : PySem.W.Frag} {Z : List Addr} {m m' m2 : List Addr} {S S' S2 : Sto} {H H' H2 : Hp}
theorem Step.refl : Step m S H m S H := ⟨⟨[], by simp⟩, fun a o h n => ⟨h, n⟩⟩
theorem Step.trans (a : Step m S H m' S' H') (b : Step m' S' H' m2 S2 H2) : Step m S H m2 S2 H2 := by
  obtain ⟨t, e⟩ := a.pre
  obtain ⟨t2, e2⟩ := b.pre
  refine ⟨⟨t ++ t2, by rw [e2, e, List.append_assoc]⟩, fun x o h n => ?_⟩
  obtain ⟨h1, n1⟩ := a.keep x o h n
  exact b.keep x o h1 n1
mutual
theorem RelD.mono (st : Step m S H m' S' H') : ∀ {d : D} {v : V}, RelD K Z m S H d v → RelD K Z m' S' H' d v
  | _, _, .non => .non
  | _, _, .bl b => .bl b
  | _, _, .int i => .int i
  | _, _, .str x => .str x
  | _, _, .ty n => .ty n
  | _, _, .tup h n z r => by
    obtain ⟨h1, n1⟩ := st.keep _ _ h n
    exact .tup h1 n1 z (RelDs.mono st r)
  | _, _, .tupK h r => .tupK h (RelDs.mono st r)
  | _, _, .lv h n z r => by
    obtain ⟨h1, n1⟩ := st.keep _ _ h n
    exact .lv h1 n1 z (RelDs.mono st r)
  | _, _, .fl h n z r => by
    rcases h with h | ⟨o, h⟩
    · obtain ⟨h1, n1⟩ := st.keep _ _ h n
      exact .fl (.inl h1) n1 z (RelDs.mono st r)
    · obtain ⟨h1, n1⟩ := st.keep _ _ h n
      exact .fl (.inr ⟨o, h1⟩) n1 z (RelDs.mono st r)
  | _, _, .flK h r => .flK h (RelDs.mono st r)
  | _, _, .ref h => by
    obtain ⟨t, e⟩ := st.pre
    refine .ref ?_
    rw [e]
    rw [List.getElem?_append_left (List.getElem?_eq_some_iff.mp h).1]
    exact h
theorem RelDs.mono (st : Step m S H m' S' H') : ∀ {d : List D} {v : List V}, RelDs K Z m S H d v → RelDs K Z m' S' H' d v
  | _, _, .nil => .nil
  | _, _, .cons h t => .cons (RelD.mono st h) (RelDs.mono st t)
end
end
end Ev

namespace Ev
open PySem L2

theorem nodup_ixA {m : List Addr} (hN : m.Nodup) {i j : Nat} {x : Addr} (a : m[i]? = some x) (b : m[j]? = some x) : i = j := by
  obtain ⟨h1, e1⟩ := List.getElem?_eq_some_iff.mp a
  obtain ⟨h2, e2⟩ := List.getElem?_eq_some_iff.mp b
  exact (List.getElem_inj hN).mp (e1.trans e2.symm)
section
variable {K : PySem.W.Frag} {Z : List Addr} {m m' m1 m2 : List Addr} {S S' S1 S2 : Sto} {H H' H1 H2 : Hp} {p a : Addr} {o : HO} {xs ds : List D} {vs : List V} {d : D} {v : V} {n i : Nat}
theorem RelDs.length : ∀ {ds : List D} {vs : List V}, RelDs K Z m S H ds vs → ds.length = vs.length
  | _, _, .nil => rfl
  | _, _, .cons _ t => by simp [RelDs.length t]
theorem RelDs.get : ∀ {ds : List D} {vs : List V} {i : Nat} {d : D}, RelDs K Z m S H ds vs → ds[i]? = some d → ∃ v, vs[i]? = some v ∧ RelD K Z m S H d v
  | _, _, _, _, .nil, e => by simp at e
  | _, _, 0, _, .cons h _, e => by simp at e; subst e; exact ⟨_, rfl, h⟩
  | _, _, i + 1, _, .cons _ t, e => by
    obtain ⟨v, h1, h2⟩ := RelDs.get (i := i) t (by simpa using e)
    exact ⟨v, by simpa using h1, h2⟩
theorem RelDs.app : ∀ {ds es : List D} {vs ws : List V}, RelDs K Z m S H ds vs → RelDs K Z m S H es ws → RelDs K Z m S H (ds ++ es) (vs ++ ws)
  | _, _, _, _, .nil, r => r
  | _, _, _, _, .cons h t, r => .cons h (RelDs.app t r)
theorem RelDs.take : ∀ {ds : List D} {vs : List V} (n : Nat), RelDs K Z m S H ds vs → RelDs K Z m S H (ds.take n) (vs.take n)
  | _, _, 0, _ => by simp; exact .nil
  | _, _, _ + 1, .nil => by simp; exact .nil
  | _, _, n + 1, .cons h t => .cons h (RelDs.take n t)
theorem RelDs.drop : ∀ {ds : List D} {vs : List V} (n : Nat), RelDs K Z m S H ds vs → RelDs K Z m S H (ds.drop n) (vs.drop n)
  | _, _, 0, r => by simpa using r
  | _, _, _ + 1, .nil => by simp; exact .nil
  | _, _, n + 1, .cons h t => RelDs.drop n t
theorem RelDs.set : ∀ {ds : List D} {vs : List V} (n : Nat) {d : D} {v : V}, RelDs K Z m S H ds vs → RelD K Z m S H d v → RelDs K Z m S H (ds.set n d) (vs.set n v)
  | _, _, _, _, _, .nil, _ => by simp; exact .nil
  | _, _, 0, _, _, .cons h t, r => .cons r t
  | _, _, n + 1, _, _, .cons h t, r => .cons h (RelDs.set n t r)
theorem RelDs.erase : ∀ {ds : List D} {vs : List V} (n : Nat), RelDs K Z m S H ds vs → RelDs K Z m S H (ds.eraseIdx n) (vs.eraseIdx n)
  | _, _, _, .nil => by simp; exact .nil
  | _, _, 0, .cons h t => t
  | _, _, n + 1, .cons h t => .cons h (RelDs.erase n t)
theorem RelDs.atI (r : RelDs K Z m S H ds vs) {i : Int} {d : D} (e : atI ds i = some d) : ∃ v, L2.atI vs i = some v ∧ RelD K Z m S H d v := by
  unfold L2.atI at e ⊢
  rw [r.length] at e
  cases q : ixN vs.length i with
  | none => rw [q] at e; cases e
  | some j =>
    rw [q] at e
    exact r.get e
theorem RelDs.reverse : ∀ {ds : List D} {vs : List V}, RelDs K Z m S H ds vs → RelDs K Z m S H ds.reverse vs.reverse
  | _, _, .nil => .nil
  | _, _, .cons h t => by
    rw [List.reverse_cons, List.reverse_cons]
    exact (RelDs.reverse t).app (.cons h .nil)
theorem RelDs.cut (r : RelDs K Z m S H ds vs) (lo hi : Option Int) : RelDs K Z m S H (cutD ds lo hi) (cutV vs lo hi) := by
  unfold cutD cutV
  rw [r.length]
  exact (r.drop _).take _

theorem own_some (rs : RelS K Z m S H) (h : Own m S a) : ∃ o, H a = some o := by
  obtain ⟨i, xs, h1, h2⟩ := h
  obtain ⟨vs, h3, _⟩ := rs.obj i a xs h1 h2
  exact ⟨_, h3⟩
theorem own_fresh (rs : RelS K Z m S H) (h : H p = none) : ¬ Own m S p := fun q => by
  obtain ⟨o, e⟩ := own_some rs q
  rw [h] at e; cases e
theorem hid_fresh (rs : RelS K Z m S H) (h : H p = none) : p ∉ Z := fun q => by
  obtain ⟨⟨o, e⟩, _⟩ := rs.hid p q
  rw [h] at e; cases e
theorem mem_of_get {m : List Addr} {i : Nat} {a : Addr} (h : m[i]? = some a) : a ∈ m := List.mem_of_getElem? h
/-- a new object that is not owned -/
theorem step_new (rs : RelS K Z m S H) (h : H p = none) : Step m S H m S (upd H p o) := ⟨⟨[], by simp⟩, fun a u e n => ⟨by rw [upd_ne (ne_of_none e h)]; exact e, n⟩⟩
theorem rels_new (rs : RelS K Z m S H) (h : H p = none) : RelS K Z m S (upd H p o) := by
  refine ⟨rs.len, rs.nd, fun a ha => ?_, fun z hz => ?_, fun i a xs h1 h2 => ?_⟩
  · obtain ⟨u, e⟩ := rs.has a ha
    exact ⟨u, by rw [upd_ne (ne_of_none e h)]; exact e⟩
  · obtain ⟨⟨u, e⟩, n⟩ := rs.hid z hz
    exact ⟨⟨u, by rw [upd_ne (ne_of_none e h)]; exact e⟩, n⟩
  · obtain ⟨vs, h3, r⟩ := rs.obj i a xs h1 h2
    exact ⟨vs, by rw [upd_ne (ne_of_none h3 h)]; exact h3, r.mono (step_new rs h)⟩
/-- a new list that is owned -/
theorem own_app {m : List Addr} {S : Sto} (hl : m.length = S.length) {p a : Addr} {xs : List D} (h : Own (m ++ [p]) (S ++ [O.lst xs]) a) : Own m S a ∨ a = p := by
  obtain ⟨i, ys, h1, h2⟩ := h
  by_cases hi : i < m.length
  · rw [List.getElem?_append_left hi] at h1
    rw [List.getElem?_append_left (by omega)] at h2
    exact .inl ⟨i, ys, h1, h2⟩
  · rw [List.getElem?_append_right (by omega)] at h1
    have : i - m.length = 0 := by
      have := (List.getElem?_eq_some_iff.mp h1).1
      simp at this; omega
    rw [this] at h1
    simp at h1
    exact .inr h1.symm
theorem step_own (rs : RelS K Z m S H) (h : H p = none) : Step m S H (m ++ [p]) (S ++ [O.lst xs]) (upd H p (.lst vs)) := by
  refine ⟨⟨[p], rfl⟩, fun a u e n => ⟨by rw [upd_ne (ne_of_none e h)]; exact e, fun q => ?_⟩⟩
  rcases own_app rs.len q with q | q
  · exact n q
  · exact ne_of_none e h q
theorem rels_own (rs : RelS K Z m S H) (h : H p = none) (r : RelDs K Z m S H xs vs) : RelS K Z (m ++ [p]) (S ++ [O.lst xs]) (upd H p (.lst vs)) := by
  have st : Step m S H (m ++ [p]) (S ++ [O.lst xs]) (upd H p (.lst vs)) := step_own rs h
  refine ⟨by simp [rs.len], ?_, fun a ha => ?_, fun z hz => ?_, fun i a ys h1 h2 => ?_⟩
  · rw [List.nodup_append]
    refine ⟨rs.nd, by simp, fun a ha b hb => ?_⟩
    simp at hb
    subst hb
    obtain ⟨u, e⟩ := rs.has a ha
    exact ne_of_none e h
  · rw [List.mem_append] at ha
    rcases ha with ha | ha
    · obtain ⟨u, e⟩ := rs.has a ha
      exact ⟨u, by rw [upd_ne (ne_of_none e h)]; exact e⟩
    · simp at ha
      subst ha
      exact ⟨_, upd_same⟩
  · obtain ⟨⟨u, e⟩, n⟩ := rs.hid z hz
    refine ⟨⟨u, by rw [upd_ne (ne_of_none e h)]; exact e⟩, fun q => ?_⟩
    rw [List.mem_append] at q
    rcases q with q | q
    · exact n q
    · simp at q
      exact ne_of_none e h q
  · by_cases hi : i < m.length
    · rw [List.getElem?_append_left hi] at h1
      rw [List.getElem?_append_left (by have := rs.len; omega)] at h2
      obtain ⟨ws, h3, r3⟩ := rs.obj i a ys h1 h2
      exact ⟨ws, by rw [upd_ne (ne_of_none h3 h)]; exact h3, r3.mono st⟩
    · have hl := rs.len
      rw [List.getElem?_append_right (by omega)] at h1 h2
      have e0 : i - m.length = 0 := by
        have := (List.getElem?_eq_some_iff.mp h1).1
        simp at this; omega
      have e1 : i - S.length = 0 := by omega
      rw [e0] at h1
      rw [e1] at h2
      simp at h1 h2
      subst h1 h2
      exact ⟨vs, upd_same, r.mono st⟩
theorem reld_own (rs : RelS K Z m S H) : RelD K Z (m ++ [p]) S' H' (.ref S.length) (.ref p) := .ref (by rw [← rs.len]; simp)
/-- an owned list changed -/
theorem own_set {xs : List D} {k : Nat} (q : Own m (S.set k (O.lst xs)) a) {ys : List D} (hk : S[k]? = some (O.lst ys)) : Own m S a := by
  obtain ⟨i, zs, h1, h2⟩ := q
  by_cases e : k = i
  · subst e
    exact ⟨k, ys, h1, hk⟩
  · rw [List.getElem?_set_ne e] at h2
    exact ⟨i, zs, h1, h2⟩
theorem step_set {ys : List D} (hk : S[n]? = some (O.lst ys)) (hm : m[n]? = some p) : Step m S H m (S.set n (O.lst xs)) (upd H p o) := by
  refine ⟨⟨[], by simp⟩, fun a u e q => ⟨?_, fun z => q (own_set z hk)⟩⟩
  rw [upd_ne (fun z => q (by subst z; exact ⟨n, ys, hm, hk⟩))]
  exact e
theorem rels_set {ys : List D} (rs : RelS K Z m S H) (hk : S[n]? = some (O.lst ys)) (hm : m[n]? = some p) (r : RelDs K Z m S H xs vs) : RelS K Z m (S.set n (O.lst xs)) (upd H p (.lst vs)) := by
  have st : Step m S H m (S.set n (O.lst xs)) (upd H p (.lst vs)) := step_set hk hm
  refine ⟨by simp [rs.len], rs.nd, fun a ha => ?_, fun z hz => ?_, fun i a zs h1 h2 => ?_⟩
  · obtain ⟨u, e⟩ := rs.has a ha
    by_cases z : a = p
    · subst z; exact ⟨_, upd_same⟩
    · exact ⟨u, by rw [upd_ne z]; exact e⟩
  · obtain ⟨⟨u, e⟩, n⟩ := rs.hid z hz
    exact ⟨⟨u, by rw [upd_ne (fun q => n (by rw [q]; exact mem_of_get hm))]; exact e⟩, n⟩
  · by_cases e : n = i
    · subst e
      rw [hm] at h1
      cases h1
      have hn : n < S.length := (List.getElem?_eq_some_iff.mp hk).1
      rw [List.getElem?_set_self hn] at h2
      cases h2
      exact ⟨vs, upd_same, r.mono st⟩
    · rw [List.getElem?_set_ne e] at h2
      obtain ⟨ws, h3, r3⟩ := rs.obj i a zs h1 h2
      have ne : a ≠ p := fun z => e ((nodup_ixA rs.nd (z ▸ hm) h1))
      exact ⟨ws, by rw [upd_ne ne]; exact h3, r3.mono st⟩
/-- an owned list is let go -/
theorem own_dead {k : Nat} (q : Own m (S.set k O.dead) a) : Own m S a ∧ m[k]? ≠ some a ∨ (Own m S a) := by
  obtain ⟨i, zs, h1, h2⟩ := q
  by_cases e : k = i
  · subst e
    rw [List.getElem?_set] at h2
    split at h2
    · split at h2 <;> cases h2
    · exact absurd rfl (by assumption)
  · rw [List.getElem?_set_ne e] at h2
    exact .inr ⟨i, zs, h1, h2⟩
theorem not_own_dead (rs : RelS K Z m S H) {k : Nat} (hm : m[k]? = some a) : ¬ Own m (S.set k O.dead) a := fun ⟨i, zs, h1, h2⟩ => by
  have e : k = i := nodup_ixA rs.nd hm h1
  subst e
  rw [List.getElem?_set] at h2
  split at h2
  · split at h2 <;> cases h2
  · exact absurd rfl (by assumption)
theorem step_dead : Step m S H m (S.set n O.dead) H := ⟨⟨[], by simp⟩, fun a u e q => ⟨e, fun z => q ((own_dead z).elim (·.1) id)⟩⟩
theorem rels_dead (rs : RelS K Z m S H) : RelS K Z m (S.set n O.dead) H := by
  refine ⟨by simp [rs.len], rs.nd, rs.has, rs.hid, fun i a xs h1 h2 => ?_⟩
  by_cases e : n = i
  · subst e
    rw [List.getElem?_set] at h2
    split at h2
    · split at h2 <;> cases h2
    · exact absurd rfl (by assumption)
  · rw [List.getElem?_set_ne e] at h2
    obtain ⟨vs, h3, r⟩ := rs.obj i a xs h1 h2
    exact ⟨vs, h3, r.mono step_dead⟩
end

/-! ### configurations, wishes -/
structure Cf (K : PySem.W.Frag) (Z : List Addr) (m : List Addr) (S : Sto) (H : Hp) (σd : Sg) (σ : St) : Prop where
  s : RelS K Z m S H
  len : σd.length = σ.length
  get : ∀ (i : Nat) (d : D), σd[i]? = some (some d) → ∃ v, σ[i]? = some (some v) ∧ RelD K Z m S H d v
abbrev Rel (α β : Type) := List Addr → Sto → Hp → α → β → Prop
def WR {α β : Type} (K : PySem.W.Frag) (Z : List Addr) (rel : Rel α β) (m : List Addr) (S : Sto) (H : Hp) (Q : β → Hp → Prop) : R α → Prop
  | .ok a S' => ∀ m' H' b, Step m S H m' S' H' → RelS K Z m' S' H' → rel m' S' H' a b → Q b H'
  | .ex _ _ _ => False
  | .stuck => False
def eqRel {α : Type} : Rel α α := fun _ _ _ a b => a = b
section
variable {α β γ δ : Type} {K : PySem.W.Frag} {Z : List Addr} {m m' m1 m2 : List Addr} {S S' S1 S2 : Sto} {H H' H1 H2 : Hp} {σd : Sg} {σ : St}
theorem Cf.step (c : Cf K Z m S H σd σ) (st : Step m S H m' S' H') (rs : RelS K Z m' S' H') : Cf K Z m' S' H' σd σ :=
  ⟨rs, c.len, fun i d e => let ⟨v, h1, h2⟩ := c.get i d e; ⟨v, h1, h2.mono st⟩⟩
theorem WR.step {rel : Rel α β} {Q : β → Hp → Prop} {r : R α} (h : WR K Z rel m S H Q r) (st : Step m S H m' S' H') : WR K Z rel m' S' H' Q r := by
  cases r with
  | ok a S2 => exact fun m2 H2 b st2 rs r => h m2 H2 b (st.trans st2) rs r
  | ex _ _ _ => exact h
  | stuck => exact h
theorem WR.bind {rel : Rel α β} {rel' : Rel γ δ} {Q : δ → Hp → Prop} {Q1 : β → Hp → Prop} {x : R α} {f : α → Sto → R γ} (h : WR K Z rel' m S H Q (x.bind f))
    (k : ∀ a S1 m1 H1 b, Step m S H m1 S1 H1 → RelS K Z m1 S1 H1 → rel m1 S1 H1 a b → WR K Z rel' m1 S1 H1 Q (f a S1) → Q1 b H1) : WR K Z rel m S H Q1 x := by
  cases x with
  | ok a S1 => exact fun m1 H1 b st rs r => k a S1 m1 H1 b st rs r (WR.step h st)
  | ex _ _ _ => exact h
  | stuck => exact h
end
def RE (K : PySem.W.Frag) (f : Sg → Sto → R D) : TE := fun σ H Q => ∃ Z m S σd, Cf K Z m S H σd σ ∧ WR K Z (RelD K Z) m S H Q (f σd S)
def RT (K : PySem.W.Frag) (f : Sg → Sto → R D) : TT := fun σ H Q => ∃ Z m S σd, Cf K Z m S H σd σ ∧ WR K Z eqRel m S H Q ((f σd S).bind tr)
def RA (K : PySem.W.Frag) (f : Sg → Sto → R (List D)) : TA := fun σ H Q => ∃ Z m S σd, Cf K Z m S H σd σ ∧ WR K Z (RelDs K Z) m S H Q (f σd S)
def RO (K : PySem.W.Frag) (f : Sg → Sto → R (Option Int)) : TO := fun σ H Q => ∃ Z m S σd, Cf K Z m S H σd σ ∧ WR K Z eqRel m S H Q (f σd S)
theorem PE.mono {X : Cx} {e : Expr} {t t' : TE} (h : PE X e t) (k : ∀ σ H Q, t' σ H Q → t σ H Q) : PE X e t' := ⟨fun pins s σ H Q I q => h.run pins s σ H Q I (k σ H Q q)⟩
theorem PT.mono {X : Cx} {e : Expr} {t t' : TT} (h : PT X e t) (k : ∀ σ H Q, t' σ H Q → t σ H Q) : PT X e t' := ⟨fun pins s σ H Q I q => h.run pins s σ H Q I (k σ H Q q)⟩
theorem PW.mono {X : Cx} {e : Expr} {t t' : TT} (h : PW X e t) (k : ∀ σ H Q, t' σ H Q → t σ H Q) : PW X e t' := ⟨fun w pins s σ H Q I q => h.run w pins s σ H Q I (k σ H Q q)⟩
theorem PA.mono {X : Cx} {e : List Expr} {t t' : TA} (h : PA X e t) (k : ∀ σ H Q, t' σ H Q → t σ H Q) : PA X e t' := ⟨fun pos pins s σ H Q I q => h.run pos pins s σ H Q I (k σ H Q q)⟩
theorem PO.mono {X : Cx} {e : Option Expr} {t t' : TO} (h : PO X e t) (k : ∀ σ H Q, t' σ H Q → t σ H Q) : PO X e t' := ⟨fun pins s σ H Q I q => h.run pins s σ H Q I (k σ H Q q)⟩
theorem PS.mono {X : Cx} {e : Stmt} {t t' : TS} (h : PS X e t) (k : ∀ D σ H, t' D σ H → t D σ H) : PS X e t' := ⟨fun pins s σ H D I q => h.run pins s σ H D I (k D σ H q)⟩
theorem PSs.mono {X : Cx} {e : List Stmt} {t t' : TS} (h : PSs X e t) (k : ∀ D σ H, t' D σ H → t D σ H) : PSs X e t' := ⟨fun pins s σ H D I q => h.run pins s σ H D I (k D σ H q)⟩
end Ev

namespace Ev
open PySem L2

theorem lim_le {n : Nat} (h : n ≤ lim) : n ≤ sizeLine := Nat.le_trans h (by decide)
theorem lim_lt {n : Nat} (h : n < lim) : n < sizeLine := Nat.lt_of_lt_of_le h (by decide)
section
variable {K : PySem.W.Frag} {Z : List Addr} {m : List Addr} {S : Sto} {H : Hp} {Q : VK} {d : D} {v : V}
/-- an answer that leaves the store -/
theorem WR.here {α β : Type} {rel : Rel α β} {Q : β → Hp → Prop} {a : α} {b : β} (w : WR K Z rel m S H Q (.ok a S)) (rs : RelS K Z m S H) (r : rel m S H a b) : Q b H := w m H b Step.refl rs r
theorem WR.newT (w : WR K Z (RelD K Z) m S H Q (.ok (.tup ds) S)) (rs : RelS K Z m S H) {ds' : List V} (r : RelDs K Z m S H ds ds') {p : Addr} (h : H p = none) : Q (.ref p) (upd H p (.tup ds')) :=
  w m _ _ (step_new rs h) (rels_new rs h) (.tup upd_same (own_fresh rs h) (hid_fresh rs h) (r.mono (step_new rs h)))
theorem WR.newL (w : WR K Z (RelD K Z) m S H Q (.ok (.lv ds) S)) (rs : RelS K Z m S H) {ds' : List V} (r : RelDs K Z m S H ds ds') {p : Addr} (h : H p = none) : Q (.ref p) (upd H p (.lst ds')) :=
  w m _ _ (step_new rs h) (rels_new rs h) (.lv upd_same (own_fresh rs h) (hid_fresh rs h) (r.mono (step_new rs h)))
theorem WR.newO (w : WR K Z (RelD K Z) m S H Q (.ok (.ref S.length) (S ++ [O.lst ds]))) (rs : RelS K Z m S H) {ds' : List V} (r : RelDs K Z m S H ds ds') {p : Addr} (h : H p = none) : Q (.ref p) (upd H p (.lst ds')) :=
  w _ _ _ (step_own rs h) (rels_own rs h r) (reld_own rs)
theorem WR.stuckF {α β : Type} {rel : Rel α β} {Q : β → Hp → Prop} (w : WR K Z rel m S H Q (.stuck : R α)) : False := w
end
/-- what is to be read of data, by the heap -/
theorem RelD.listOf {K : PySem.W.Frag} {Z : List Addr} {m : List Addr} {S : Sto} {H : Hp} {d : D} {v : V} {xs : List D} (rs : RelS K Z m S H) (r : RelD K Z m S H d v) (e : listOf S d = some xs) :
    ∃ p vs, v = .ref p ∧ H p = some (.lst vs) ∧ RelDs K Z m S H xs vs := by
  cases d <;> simp only [Ev.listOf] at e <;> try (cases e; done)
  case lv ys =>
    cases e
    cases r with
    | lv h n _ r => exact ⟨_, _, rfl, h, r⟩
  case ref n =>
    split at e
    · rename_i zs hz
      cases e
      cases r with
      | ref h =>
        obtain ⟨vs, h1, h2⟩ := rs.obj n _ _ h hz
        exact ⟨_, vs, rfl, h1, h2⟩
    · cases e
theorem RelD.seqOf {K : PySem.W.Frag} {Z : List Addr} {m : List Addr} {S : Sto} {H : Hp} {d : D} {v : V} {xs : List D} (rs : RelS K Z m S H) (r : RelD K Z m S H d v) (hs : isSeq d = true) (e : items S d = some xs) :
    ∃ p vs, v = .ref p ∧ (SqL K H p vs ∨ SqT K H p vs) ∧ RelDs K Z m S H xs vs := by
  cases d <;> simp only [isSeq, Bool.false_eq_true] at hs <;> simp only [Ev.items] at e
  case tup ys =>
    cases e
    cases r with
    | tup h n _ r => exact ⟨_, _, rfl, .inr (SqT.of h), r⟩
    | tupK h r => exact ⟨_, _, rfl, .inr (h.elim (fun z => by rcases z with z | ⟨o, z⟩ <;> cases z) .inr), r⟩
  case lv ys =>
    cases e
    cases r with
    | lv h n _ r => exact ⟨_, _, rfl, .inl (SqL.of h), r⟩
  case fl ys =>
    cases e
    cases r with
    | fl h n _ r => exact ⟨_, _, rfl, .inl (.inl h), r⟩
    | flK h r => exact ⟨_, _, rfl, .inl (h.elim (fun z => by rcases z with z | ⟨o, z⟩ <;> cases z) .inr), r⟩
  case ref n =>
    split at e
    · rename_i zs hz
      cases e
      cases r with
      | ref h =>
        obtain ⟨vs, h1, h2⟩ := rs.obj n _ _ h hz
        exact ⟨_, vs, rfl, .inl (SqL.of h1), h2⟩
    · cases e
theorem RelD.tupOf {K : PySem.W.Frag} {Z : List Addr} {m : List Addr} {S : Sto} {H : Hp} {v : V} {xs : List D} (r : RelD K Z m S H (.tup xs) v) : ∃ p vs, v = .ref p ∧ SqT K H p vs ∧ RelDs K Z m S H xs vs := by
  cases r with
  | tup h n _ r => exact ⟨_, _, rfl, SqT.of h, r⟩
  | tupK h r => exact ⟨_, _, rfl, (h.elim (fun z => by rcases z with z | ⟨o, z⟩ <;> cases z) .inr), r⟩
theorem isSeq_of {S : Sto} {d : D} {xs : List D} (e : items S d = some xs) : isSeq d = true ∨ ∃ x, d = .str x := by
  cases d <;> simp [isSeq, items] at e ⊢

/-! ### two-place operations -/
def rD (K : PySem.W.Frag) (f : D → D → Sto → R D) : R2 := fun vx vy H Q => ∃ Z m S x y, RelS K Z m S H ∧ RelD K Z m S H x vx ∧ RelD K Z m S H y vy ∧ WR K Z (RelD K Z) m S H Q (f x y S)
theorem re_op {K : PySem.W.Frag} {fa fb : Sg → Sto → R D} {f : D → D → Sto → R D} {σ : St} {H : Hp} {Q : VK}
    (h : RE K (fun σ S => (fa σ S).bind fun x S => (fb σ S).bind fun y S => f x y S) σ H Q) : tOp (rD K f) (RE K fa) (RE K fb) σ H Q := by
  obtain ⟨Z, m, S, σd, c, w⟩ := h
  refine ⟨Z, m, S, σd, c, WR.bind w fun x S1 m1 H1 vx st1 rs1 rx w1 => ?_⟩
  refine ⟨Z, m1, S1, σd, c.step st1 rs1, WR.bind w1 fun y S2 m2 H2 vy st2 rs2 ry w2 => ?_⟩
  exact ⟨Z, m2, S2, x, y, rs2, rx.mono st2, ry, w2⟩
section
variable {X : Cx}
theorem op_binD {op : BOp} {o : Operator} (ho : op.is o = true) : OpR X (binaryOp o) (rD X.K (binD op)) := by
  intro pins s σ H vx vy v u Q I rv ru ⟨Z, m, S, x, y, rs, dx, dy, w⟩
  have key : ∀ {xs ys : List D}, listOf S x = some xs → listOf S y = some ys → xs.length + ys.length ≤ lim → WR X.K Z (RelD X.K Z) m S H Q (.ok (.lv (xs ++ ys)) S) →
      wpAny (model X.prog X.w) X.A (binaryOp .Add v u) (EP X pins σ Q) X.xe s := fun {xs ys} e1 e2 hl w => by
    obtain ⟨p, vs, rfl, h1, r1⟩ := dx.listOf rs e1
    obtain ⟨q, ws, rfl, h2, r2⟩ := dy.listOf rs e2
    exact op_cat pins s σ H _ _ v u Q I rv ru ⟨p, q, vs, ws, rfl, rfl, h1, h2, by rw [← r1.length, ← r2.length]; exact lim_le hl, fun l hl => w.newL rs (r1.app r2) hl⟩
  cases op <;> cases o <;> simp only [BOp.is, Bool.false_eq_true] at ho
  case add =>
    unfold binD at w
    split at w <;> simp_all only [reduceCtorEq]
    · cases dx; cases dy
      exact op_add pins s σ H _ _ v u Q I rv ru ⟨_, _, rfl, rfl, w.here rs (.int _)⟩
    · split at w
      · rename_i hl
        cases dx; cases dy
        exact op_add_str pins s σ H _ _ v u Q I rv ru ⟨_, _, rfl, rfl, lim_le hl, w.here rs (.str _)⟩
      · exact w.elim
    · split at w
      · rename_i hl
        obtain ⟨p, vs, rfl, h1, r1⟩ := dx.tupOf
        obtain ⟨q, ws, rfl, h2, r2⟩ := dy.tupOf
        refine op_catA pins s σ H _ _ v u Q I rv ru ⟨p, q, vs, ws, rfl, rfl, h1, h2, by rw [← r1.length, ← r2.length]; exact lim_le hl, ?_⟩
        refine ⟨fun e => ?_, fun _ e => ?_, fun _ _ l hl => w.newT rs (r1.app r2) hl⟩
        · subst e
          cases r1
          exact w.here rs dy
        · subst e
          cases r2
          rw [List.append_nil] at w
          exact w.here rs dx
      · exact w.elim
    · split at w
      · rename_i e1 e2
        split at w
        · rename_i hl
          exact key e1 e2 hl w
        · exact w.elim
      · exact w.elim
    · exact w.elim
  case sub =>
    unfold binD at w
    split at w <;> simp_all only [reduceCtorEq] <;> try exact w.elim
    cases dx; cases dy
    exact op_sub pins s σ H _ _ v u Q I rv ru ⟨_, _, rfl, rfl, w.here rs (.int _)⟩
  case mul =>
    unfold binD at w
    split at w <;> simp_all only [reduceCtorEq] <;> try exact w.elim
    split at w
    · rename_i hc
      cases dx; cases dy
      refine op_mul pins s σ H _ _ v u Q I rv ru ⟨_, _, rfl, rfl, ?_, w.here rs (.int _)⟩
      unfold CMulD at hc
      rw [Bool.or_eq_true, decide_eq_true_eq, decide_eq_true_eq] at hc
      exact hc
    · exact w.elim
  case fdiv =>
    unfold binD at w
    split at w <;> simp_all only [reduceCtorEq] <;> try exact w.elim
    split at w
    · rename_i hc
      cases dx; cases dy
      exact op_fdivW pins s σ H _ _ v u Q I rv ru ⟨_, _, rfl, rfl, hc, w.here rs (.int _)⟩
    · exact w.elim
  case mod =>
    unfold binD at w
    split at w <;> simp_all only [reduceCtorEq] <;> try exact w.elim
    split at w
    · rename_i hc
      cases dx; cases dy
      exact op_mod pins s σ H _ _ v u Q I rv ru ⟨_, _, rfl, rfl, hc, w.here rs (.int _)⟩
    · exact w.elim
  case pow =>
    unfold binD at w
    split at w <;> simp_all only [reduceCtorEq] <;> try exact w.elim
    split at w
    · rename_i hc
      cases dx; cases dy
      exact op_pow pins s σ H _ _ v u Q I rv ru ⟨_, _, rfl, rfl, hc, w.here rs (.int _)⟩
    · exact w.elim
end
section
variable {X : Cx}
theorem op_catM : OpR X (binaryOp .Add) (rD X.K catM) := by
  intro pins s σ H vx vy v u Q I rv ru ⟨Z, m, S, x, y, rs, dx, dy, w⟩
  unfold catM at w
  split at w
  · rename_i e1 e2
    split at w
    · rename_i hl
      obtain ⟨p, vs, rfl, h1, r1⟩ := dx.listOf rs e1
      obtain ⟨q, ws, rfl, h2, r2⟩ := dy.listOf rs e2
      exact op_cat pins s σ H _ _ v u Q I rv ru ⟨p, q, vs, ws, rfl, rfl, h1, h2, by rw [← r1.length, ← r2.length]; exact lim_le hl, fun l hl => w.newO rs (r1.app r2) hl⟩
    · exact w.elim
  · exact w.elim
end
/-! ### comparisons -/
mutual
theorem RelD.dp {K : PySem.W.Frag} {Z : List Addr} {m : List Addr} {S : Sto} {H : Hp} : ∀ {d : D} {v : V} {p : PyData}, RelD K Z m S H d v → toPy d = some p → Dp K H v p
  | .non, _, _, r, e => by cases r; simp [toPy] at e; subst e; exact .non
  | .bl _, _, _, r, e => by cases r; simp [toPy] at e; subst e; exact .bl _
  | .int _, _, _, r, e => by cases r; simp [toPy] at e; subst e; exact .int _
  | .str _, _, _, r, e => by cases r; simp [toPy] at e; subst e; exact .str _
  | .tup xs, _, _, r, e => by
    simp only [toPy, Option.map_eq_some_iff] at e
    obtain ⟨ps, e1, rfl⟩ := e
    obtain ⟨p, vs, rfl, h, r⟩ := r.tupOf
    exact .tup h (RelDs.dp r e1)
  | .lv xs, _, _, r, e => by
    simp only [toPy, Option.map_eq_some_iff] at e
    obtain ⟨ps, e1, rfl⟩ := e
    cases r with
    | lv h n _ r => exact .lst (SqL.of h) (RelDs.dp r e1)
  | .fl xs, _, _, r, e => by
    simp only [toPy, Option.map_eq_some_iff] at e
    obtain ⟨ps, e1, rfl⟩ := e
    cases r with
    | fl h n _ r => exact .lst (.inl h) (RelDs.dp r e1)
    | flK h r => exact .lst (h.elim (fun z => by rcases z with z | ⟨o, z⟩ <;> cases z) .inr) (RelDs.dp r e1)
  | .ref _, _, _, _, e => by simp [toPy] at e
  | .ty _, _, _, _, e => by simp [toPy] at e
theorem RelDs.dp {K : PySem.W.Frag} {Z : List Addr} {m : List Addr} {S : Sto} {H : Hp} : ∀ {d : List D} {v : List V} {p : List PyData}, RelDs K Z m S H d v → toPys d = some p → DpAll K H v p
  | [], _, _, r, e => by cases r; simp [toPys] at e; subst e; exact .nil
  | d :: ds, _, _, r, e => by
    cases r with
    | cons h t =>
      simp only [toPys] at e
      split at e
      · rename_i e1 e2
        cases e
        exact .cons (RelD.dp h e1) (RelDs.dp t e2)
      · cases e
end
theorem RelD.tdp {K : PySem.W.Frag} {Z : List Addr} {m : List Addr} {S : Sto} {H : Hp} {d : D} {v : V} {p : PyData} (rs : RelS K Z m S H) (r : RelD K Z m S H d v) (e : topPy S d = some p) : Dp K H v p := by
  unfold topPy at e
  split at e
  · split at e
    · rename_i n _ xs hz
      simp only [Option.map_eq_some_iff] at e
      obtain ⟨ps, e1, rfl⟩ := e
      cases r with
      | ref h =>
        obtain ⟨vs, h1, h2⟩ := rs.obj n _ _ h hz
        exact .lst (SqL.of h1) (h2.dp e1)
    · cases e
  · exact r.dp e
theorem RelD.flat {K : PySem.W.Frag} {Z : List Addr} {m : List Addr} {S : Sto} {H : Hp} {d : D} {v : V} (r : RelD K Z m S H d v) (h : flatD d = true) : v = toV d ∧ flatV v = true := by
  cases r <;> simp [flatD, toV, flatV] at h ⊢
theorem RelDs.flat {K : PySem.W.Frag} {Z : List Addr} {m : List Addr} {S : Sto} {H : Hp} : ∀ {d : List D} {v : List V}, RelDs K Z m S H d v → d.all flatD = true → v = d.map toV ∧ v.all flatV = true
  | _, _, .nil, _ => ⟨rfl, rfl⟩
  | _, _, .cons h t, e => by
    simp only [List.all_cons, Bool.and_eq_true] at e
    obtain ⟨h1, h2⟩ := h.flat e.1
    obtain ⟨h3, h4⟩ := RelDs.flat t e.2
    refine ⟨by rw [List.map_cons, ← h1, ← h3], by simp [h2, h4]⟩
theorem RelDs.ints {K : PySem.W.Frag} {Z : List Addr} {m : List Addr} {S : Sto} {H : Hp} : ∀ {d : List D} {v : List V} {ns : List Int}, RelDs K Z m S H d v → intsOf d = some ns → v = ns.map V.int
  | _, _, _, .nil, e => by simp [intsOf] at e; subst e; rfl
  | _, _, _, .cons (d := d) h t, e => by
    cases d <;> simp only [intsOf] at e <;> try (cases e; done)
    simp only [Option.map_eq_some_iff] at e
    obtain ⟨ms, e1, rfl⟩ := e
    cases h
    rw [RelDs.ints t e1]
    rfl
theorem RelDs.bools {K : PySem.W.Frag} {Z : List Addr} {m : List Addr} {S : Sto} {H : Hp} : ∀ {d : List D} {v : List V} {ns : List Bool}, RelDs K Z m S H d v → boolsOf d = some ns → v = ns.map V.bl
  | _, _, _, .nil, e => by simp [boolsOf] at e; subst e; rfl
  | _, _, _, .cons (d := d) h t, e => by
    cases d <;> simp only [boolsOf] at e <;> try (cases e; done)
    simp only [Option.map_eq_some_iff] at e
    obtain ⟨ms, e1, rfl⟩ := e
    cases h
    rw [RelDs.bools t e1]
    rfl
theorem WR.opt {K : PySem.W.Frag} {Z : List Addr} {m : List Addr} {S : Sto} {H : Hp} {Q : VK} {o : Option Bool} (rs : RelS K Z m S H) (w : WR K Z (RelD K Z) m S H Q ((ofOpt S o).bind fun b S => .ok (.bl b) S)) : ∃ b, o = some b ∧ Q (.bl b) H := by
  cases o with
  | none => exact w.elim
  | some b => exact ⟨b, rfl, WR.here w rs (.bl b)⟩
section
variable {X : Cx}
def rInTD (K : PySem.W.Frag) (neg : Bool) : R2 := fun x y H Q => ∃ d ds, Dp K H x d ∧ Dp K H y (.tuple ds) ∧ SeqAt.shaped d = true ∧ SeqAt.shaped (.tuple ds) = true ∧ Q (.bl (if neg then !ds.any fun z => PyData.eqv z d else ds.any fun z => PyData.eqv z d)) H
theorem op_inTD (hu : X.A.units + 65 < cLine) : OpR X (compareOp .In) (rInTD X.K false) := by
  intro pins s σ H x y v u Q I rx ry h
  obtain ⟨d, ds, hd, he, sd, se, q⟩ := h
  obtain ⟨as, r1⟩ := Dp.reads I d x v hd rx
  obtain ⟨bs, r2⟩ := Dp.reads I (.tuple ds) y u he ry
  exact SeqAt.in_tuple_reads r2 r1 (SeqAt.canLay_of_shaped se) (SeqAt.canLay_of_shaped sd) (PyProof.Rows.room_in_shaped sd hu) ⟨.bl _, H, I, rfl, q⟩
theorem op_notInTD (hu : X.A.units + 65 < cLine) : OpR X (compareOp .NotIn) (rInTD X.K true) := by
  intro pins s σ H x y v u Q I rx ry h
  obtain ⟨d, ds, hd, he, sd, se, q⟩ := h
  obtain ⟨as, r1⟩ := Dp.reads I d x v hd rx
  obtain ⟨bs, r2⟩ := Dp.reads I (.tuple ds) y u he ry
  exact SeqAt.notIn_tuple_reads r2 r1 (SeqAt.canLay_of_shaped se) (SeqAt.canLay_of_shaped sd) (PyProof.Rows.room_in_shaped sd hu) ⟨.bl _, H, I, rfl, q⟩
theorem op_cmpD {op : COp} {o : CmpOp} (hu : X.A.units + 65 < cLine) (ho : op.is o = true) : OpR X (compareOp o) (rD X.K (cmpD op)) := by
  intro pins s σ H vx vy v u Q I rv ru ⟨Z, m, S, x, y, rs, dx, dy, w⟩
  unfold cmpD at w
  obtain ⟨b, e, q⟩ := WR.opt rs w
  clear w
  have eq2 : ∀ {k : Bool}, eqD S x y = some k → (scal vx vy = true ∧ k = decide (vx = vy)) ∨ ∃ d e, Dp X.K H vx d ∧ Dp X.K H vy e ∧ SeqAt.shaped d = true ∧ SeqAt.shaped e = true ∧ PyData.eqv d e = k := fun {k} e => by
    unfold eqD at e
    split at e
    · rename_i kk e1
      cases e
      refine .inl ?_
      unfold eqS at e1
      split at e1
      · cases dx; cases dy; cases e1; exact ⟨rfl, by simp⟩
      · cases dx; cases dy; cases e1; exact ⟨rfl, by simp⟩
      · cases dx; cases dy; cases e1; exact ⟨rfl, by simp⟩
      · cases e1
    · split at e
      · rename_i e1 e2
        split at e
        · rename_i hs
          rw [Bool.and_eq_true] at hs
          cases e
          exact .inr ⟨_, _, dx.tdp rs e1, dy.tdp rs e2, hs.1, hs.2, rfl⟩
        · cases e
      · cases e
  have in2 : ∀ {k : Bool}, inD S x y = some k → (∃ (c : Nat) (z : Str), vx = .str ⟨#[c]⟩ ∧ vy = .str z ∧ k = decide (c ∈ z.cps.toList)) ∨ (∃ d ds, Dp X.K H vx d ∧ Dp X.K H vy (.list ds) ∧ SeqAt.shaped d = true ∧ SeqAt.shaped (.list ds) = true ∧ k = ds.any fun z => PyData.eqv z d) ∨ (∃ d ds, Dp X.K H vx d ∧ Dp X.K H vy (.tuple ds) ∧ SeqAt.shaped d = true ∧ SeqAt.shaped (.tuple ds) = true ∧ k = ds.any fun z => PyData.eqv z d) ∨
      (∃ p xs, vy = .ref p ∧ (SqL X.K H p xs ∨ SqT X.K H p xs) ∧ flatV vx = true ∧ xs.all flatV = true ∧ k = inV vx xs) := fun {k} e => by
    unfold inD at e
    split at e
    · rename_i x y _
      split at e
      · rename_i c hc
        cases e
        cases dx; cases dy
        refine .inl ⟨c, y, ?_, rfl, rfl⟩
        obtain ⟨⟨l⟩⟩ := x
        simp at hc
        subst hc
        rfl
      · cases e
    · split at e
      · rename_i ys hi
        split at e
        · rename_i hs
          rw [Bool.and_eq_true, Bool.and_eq_true] at hs
          cases e
          obtain ⟨p, vs, rfl, h1, r1⟩ := dy.seqOf rs hs.1.1 hi
          obtain ⟨h2, h3⟩ := dx.flat hs.1.2
          obtain ⟨h4, h5⟩ := r1.flat hs.2
          exact .inr (.inr (.inr ⟨p, vs, rfl, h1, h3, h5, by rw [h2, h4]⟩))
        · split at e
          · rename_i e1 e2
            split at e
            · rename_i hs
              rw [Bool.and_eq_true] at hs
              cases e
              exact .inr (.inl ⟨_, _, dx.tdp rs e1, dy.tdp rs e2, hs.1, hs.2, rfl⟩)
            · cases e
          · rename_i e1 e2
            split at e
            · rename_i hs
              rw [Bool.and_eq_true] at hs
              cases e
              exact .inr (.inr (.inl ⟨_, _, dx.tdp rs e1, dy.tdp rs e2, hs.1, hs.2, rfl⟩))
            · cases e
          · cases e
      · cases e
  cases op <;> cases o <;> simp only [COp.is, Bool.false_eq_true] at ho <;> simp only [cmpO] at e
  case lt =>
    unfold ltD at e
    split at e
    · cases e; cases dx; cases dy
      exact op_lt pins s σ H _ _ v u Q I rv ru ⟨_, _, rfl, rfl, q⟩
    · cases e; cases dx; cases dy
      exact op_lt_str pins s σ H _ _ v u Q I rv ru ⟨_, _, rfl, rfl, q⟩
    · split at e
      · rename_i e1 e2
        cases e
        obtain ⟨p, vs, rfl, h1, r1⟩ := dx.tupOf
        obtain ⟨p2, vs2, rfl, h2, r2⟩ := dy.tupOf
        have z1 := r1.ints e1
        have z2 := r2.ints e2
        subst z1 z2
        exact op_ltT (by omega) pins s σ H _ _ v u Q I rv ru ⟨_, _, _, _, rfl, rfl, h1, h2, q⟩
      · cases e
    · cases e
  case le =>
    unfold leD at e
    split at e <;> cases e <;> cases dx <;> cases dy
    · exact op_le pins s σ H _ _ v u Q I rv ru ⟨_, _, rfl, rfl, q⟩
    · exact op_le_str pins s σ H _ _ v u Q I rv ru ⟨_, _, rfl, rfl, q⟩
  case gt =>
    unfold gtD at e
    split at e <;> cases e <;> cases dx <;> cases dy
    · exact op_gt pins s σ H _ _ v u Q I rv ru ⟨_, _, rfl, rfl, q⟩
    · exact op_gt_str pins s σ H _ _ v u Q I rv ru ⟨_, _, rfl, rfl, q⟩
  case ge =>
    unfold geD at e
    split at e <;> cases e <;> cases dx <;> cases dy
    · exact op_ge pins s σ H _ _ v u Q I rv ru ⟨_, _, rfl, rfl, q⟩
    · exact op_ge_str pins s σ H _ _ v u Q I rv ru ⟨_, _, rfl, rfl, q⟩
  case eq =>
    rcases eq2 e with ⟨h1, rfl⟩ | ⟨d, f, h1, h2, h3, h4, rfl⟩
    · exact op_eq pins s σ H _ _ v u Q I rv ru ⟨h1, q⟩
    exact op_eqD (by omega) pins s σ H _ _ v u Q I rv ru ⟨d, f, h1, h2, h3, h4, q⟩
  case ne =>
    simp only [Option.map_eq_some_iff] at e
    obtain ⟨k, e, rfl⟩ := e
    rcases eq2 e with ⟨h1, rfl⟩ | ⟨d, f, h1, h2, h3, h4, rfl⟩
    · exact op_ne pins s σ H _ _ v u Q I rv ru ⟨h1, q⟩
    exact op_neD (by omega) pins s σ H _ _ v u Q I rv ru ⟨d, f, h1, h2, h3, h4, q⟩
  case in_ =>
    rcases in2 e with ⟨c, z, rfl, rfl, rfl⟩ | ⟨d, ds, h1, h2, h3, h4, rfl⟩ | ⟨d, ds, h1, h2, h3, h4, rfl⟩ | ⟨p, xs, rfl, h1, h2, h3, rfl⟩
    · exact op_in_sign pins s σ H _ _ v u Q I rv ru ⟨c, z, rfl, rfl, q⟩
    · exact op_inD hu pins s σ H _ _ v u Q I rv ru ⟨d, ds, h1, h2, h3, h4, q⟩
    · exact op_inTD hu pins s σ H _ _ v u Q I rv ru ⟨d, ds, h1, h2, h3, h4, q⟩
    · exact op_in_seq pins s σ H _ _ v u Q I rv ru ⟨p, xs, rfl, h1, h2, h3, q⟩
  case nin =>
    simp only [Option.map_eq_some_iff] at e
    obtain ⟨k, e, rfl⟩ := e
    rcases in2 e with ⟨c, z, rfl, rfl, rfl⟩ | ⟨d, ds, h1, h2, h3, h4, rfl⟩ | ⟨d, ds, h1, h2, h3, h4, rfl⟩ | ⟨p, xs, rfl, h1, h2, h3, rfl⟩
    · exact op_notIn_sign pins s σ H _ _ v u Q I rv ru ⟨c, z, rfl, rfl, q⟩
    · exact op_notInD hu pins s σ H _ _ v u Q I rv ru ⟨d, ds, h1, h2, h3, h4, q⟩
    · exact op_notInTD hu pins s σ H _ _ v u Q I rv ru ⟨d, ds, h1, h2, h3, h4, q⟩
    · exact op_notIn_seq pins s σ H _ _ v u Q I rv ru ⟨p, xs, rfl, h1, h2, h3, q⟩
  case is_ =>
    have : vy = .non ∧ b = decide (vx = .non) := by
      unfold isD at e
      split at e <;> cases e <;> cases dx <;> cases dy <;> exact ⟨rfl, rfl⟩
    obtain ⟨rfl, rfl⟩ := this
    exact op_isN pins s σ H _ _ v u Q I rv ru ⟨rfl, q⟩
  case isn =>
    simp only [Option.map_eq_some_iff] at e
    obtain ⟨k, e, rfl⟩ := e
    have : vy = .non ∧ k = decide (vx = .non) := by
      unfold isD at e
      split at e <;> cases e <;> cases dx <;> cases dy <;> exact ⟨rfl, rfl⟩
    obtain ⟨rfl, rfl⟩ := this
    exact op_notN pins s σ H _ _ v u Q I rv ru ⟨rfl, q⟩
end
end Ev

namespace Ev
open PySem L2
/-! ### subscripts, slices -/
section
variable {X : Cx}
theorem ix_D : IxR X (rD X.K ixD) := by
  intro value slice pins s σ H vx vy v u Q I rv ru ⟨Z, m, S, x, y, rs, dx, dy, w⟩ hs
  unfold ixD at w
  split at w
  · rename_i z i
    split at w
    · rename_i hl
      cases dx; cases dy
      cases e : atI z.cps.toList i with
      | none => rw [e] at w; exact w.elim
      | some c =>
        rw [e] at w
        exact ix_str value slice pins s σ H _ _ v u Q I rv ru ⟨z, i, c, rfl, rfl, lim_le hl, e, WR.here w rs (.str _)⟩ hs
    · exact w.elim
  · rename_i i hns
    cases dy
    split at w
    · rename_i xs e
      cases e2 : atI xs i with
      | none => rw [e2] at w; exact w.elim
      | some d =>
        rw [e2] at w
        have sq : isSeq x = true := by
          rcases isSeq_of e with h | ⟨z, rfl⟩
          · exact h
          · exact (hns z rfl).elim
        obtain ⟨p, vs, rfl, hq, r⟩ := dx.seqOf rs sq e
        obtain ⟨vd, h1, h2⟩ := r.atI e2
        rcases hq with hq | hq
        · exact ix_list value slice pins s σ H _ _ v u Q I rv ru ⟨p, vs, i, vd, rfl, rfl, hq, h1, WR.here w rs h2⟩ hs
        · exact ix_tup value slice pins s σ H _ _ v u Q I rv ru ⟨p, vs, i, vd, rfl, rfl, hq, h1, WR.here w rs h2⟩ hs
    · exact w.elim
  · exact w.elim
def rSl (K : PySem.W.Frag) : V → Option Int → Option Int → Hp → VK → Prop := fun vx lo hi H Q => ∃ Z m S x, RelS K Z m S H ∧ RelD K Z m S H x vx ∧ WR K Z (RelD K Z) m S H Q (slD x lo hi S)
theorem sl_D : SlR X (rSl X.K) := by
  intro pins s σ H vx v vl vu lo hi sl Q I rv hs pl pu ⟨Z, m, S, x, rs, dx, w⟩
  unfold slD at w
  split at w
  · rename_i z
    split at w
    · rename_i hl
      cases dx
      exact sl_str pins s σ H _ v vl vu lo hi sl Q I rv hs pl pu ⟨z, rfl, lim_le hl, WR.here w rs (.str _)⟩
    · exact w.elim
  · rename_i xs
    obtain ⟨p, vs, rfl, h1, r1⟩ := dx.tupOf
    refine sl_tupA pins s σ H _ v vl vu lo hi sl Q I rv hs pl pu ⟨p, vs, rfl, h1, fun hw => ?_, fun _ l hl => w.newT rs (r1.cut lo hi) hl⟩
    have e : cutD xs lo hi = xs := by
      unfold cutD
      rw [r1.length, hw.1, hw.2]
      simp [← r1.length]
    rw [e] at w
    exact WR.here w rs dx
  · split at w
    · rename_i e
      obtain ⟨p, vs, rfl, h1, r1⟩ := dx.listOf rs e
      exact sl_list pins s σ H _ v vl vu lo hi sl Q I rv hs pl pu ⟨p, vs, rfl, SqL.of h1, fun l hl => w.newL rs (r1.cut lo hi) hl⟩
    · exact w.elim
/-! ### built-ins by values -/
def rC (K : PySem.W.Frag) (f : List D → Sto → R D) : List V → Hp → VK → Prop := fun vs H Q => ∃ Z m S ds, RelS K Z m S H ∧ RelDs K Z m S H ds vs ∧ WR K Z (RelD K Z) m S H Q (f ds S)
theorem RelDs.one {K : PySem.W.Frag} {Z : List Addr} {m : List Addr} {S : Sto} {H : Hp} {d : D} {vs : List V} (r : RelDs K Z m S H [d] vs) : ∃ v, vs = [v] ∧ RelD K Z m S H d v := by
  cases r with
  | cons h t => cases t; exact ⟨_, rfl, h⟩
theorem RelDs.two {K : PySem.W.Frag} {Z : List Addr} {m : List Addr} {S : Sto} {H : Hp} {d e : D} {vs : List V} (r : RelDs K Z m S H [d, e] vs) : ∃ v u, vs = [v, u] ∧ RelD K Z m S H d v ∧ RelD K Z m S H e u := by
  cases r with
  | cons h t =>
    obtain ⟨u, rfl, r⟩ := RelDs.one t
    exact ⟨_, u, rfl, h, r⟩
theorem cb_len : CallR X (.builtin "len") (rC X.K (bltD .len)) := by
  intro pins s σ H vs us Q I rv ⟨Z, m, S, ds, rs, rd, w⟩
  simp only [bltD] at w
  unfold lenD at w
  split at w <;> try exact w.elim
  obtain ⟨v, rfl, r⟩ := rd.one
  rename_i d
  cases e : lengthOf S d with
  | none => rw [e] at w; exact w.elim
  | some n =>
    rw [e] at w
    simp only at w
    have q := WR.here w rs (.int _)
    refine call_len pins s σ H _ us Q I rv ⟨v, n, rfl, ?_, q⟩
    unfold lengthOf at e
    split at e
    · split at e
      · rename_i hl
        cases e; cases r
        exact ⟨lim_le hl, rfl⟩
      · cases e
    · rename_i hns
      simp only [Option.map_eq_some_iff] at e
      obtain ⟨xs, e, rfl⟩ := e
      have sq : isSeq d = true := by
        rcases isSeq_of e with h | ⟨z, rfl⟩
        · exact h
        · exact (hns z rfl).elim
      obtain ⟨p, ws, rfl, hq, r1⟩ := r.seqOf rs sq e
      rcases hq with hq | hq
      · exact .inl ⟨ws, hq, r1.length⟩
      · exact .inr ⟨ws, hq, r1.length⟩
theorem cb_abs : CallR X (.builtin "abs") (rC X.K (bltD .abs)) := by
  intro pins s σ H vs us Q I rv ⟨Z, m, S, ds, rs, rd, w⟩
  simp only [bltD] at w
  unfold absD at w
  split at w <;> try exact w.elim
  obtain ⟨v, rfl, r⟩ := rd.one
  cases r
  exact call_abs pins s σ H _ us Q I rv ⟨_, rfl, WR.here w rs (.int _)⟩
theorem cb_int : CallR X (.type "int") (rC X.K (bltD .int)) := by
  intro pins s σ H vs us Q I rv ⟨Z, m, S, ds, rs, rd, w⟩
  simp only [bltD] at w
  unfold intD at w
  split at w <;> try exact w.elim
  · obtain ⟨v, rfl, r⟩ := rd.one
    cases r
    exact call_int1 pins s σ H _ us Q I rv (.inl ⟨_, rfl, WR.here w rs (.int _)⟩)
  · obtain ⟨v, rfl, r⟩ := rd.one
    cases r
    exact call_int1 pins s σ H _ us Q I rv (.inr ⟨_, rfl, WR.here w rs (.int _)⟩)
theorem cb_list : CallR X (.type "list") (rC X.K (bltD .list)) := by
  intro pins s σ H vs us Q I rv ⟨Z, m, S, ds, rs, rd, w⟩
  simp only [bltD] at w
  unfold lstD at w
  split at w <;> try exact w.elim
  split at w
  · rename_i d hq
    obtain ⟨v, rfl, r⟩ := rd.one
    cases e : items S d with
    | none => rw [e] at w; exact w.elim
    | some xs =>
      rw [e] at w
      obtain ⟨p, ws, rfl, hq, r1⟩ := r.seqOf rs hq e
      exact call_list_of pins s σ H _ us Q I rv ⟨p, ws, rfl, hq, fun l hl => WR.newL w rs r1 hl⟩
  · exact w.elim
theorem cb_listM : CallR X (.type "list") (rC X.K (fun ds S => (bltD .list ds S).bind thaw)) := by
  intro pins s σ H vs us Q I rv ⟨Z, m, S, ds, rs, rd, w⟩
  simp only [bltD] at w
  unfold lstD at w
  split at w <;> try exact w.elim
  split at w
  · rename_i d hq
    obtain ⟨v, rfl, r⟩ := rd.one
    cases e : items S d with
    | none => rw [e] at w; exact w.elim
    | some xs =>
      rw [e] at w
      obtain ⟨p, ws, rfl, hq, r1⟩ := r.seqOf rs hq e
      exact call_list_of pins s σ H _ us Q I rv ⟨p, ws, rfl, hq, fun l hl => WR.newO w rs r1 hl⟩
  · exact w.elim
theorem cb_tuple : CallR X (.type "tuple") (rC X.K (bltD .tuple)) := by
  intro pins s σ H vs us Q I rv ⟨Z, m, S, ds, rs, rd, w⟩
  simp only [bltD] at w
  unfold tupD at w
  split at w <;> try exact w.elim
  · obtain ⟨v, rfl, r⟩ := rd.one
    obtain ⟨p, ws, rfl, h1, r1⟩ := r.tupOf
    exact call_tuple_of pins s σ H _ us Q I rv ⟨p, ws, rfl, .inr ⟨h1, WR.here w rs r⟩⟩
  · split at w
    · rename_i d hn hq
      obtain ⟨v, rfl, r⟩ := rd.one
      cases e : items S d with
      | none => rw [e] at w; exact w.elim
      | some xs =>
        rw [e] at w
        obtain ⟨p, ws, rfl, hq2, r1⟩ := r.seqOf rs hq e
        rcases hq2 with hq2 | hq2
        · exact call_tuple_of pins s σ H _ us Q I rv ⟨p, ws, rfl, .inl ⟨hq2, fun l hl => WR.newT w rs r1 hl⟩⟩
        · cases d <;> simp only [isSeq, Bool.false_eq_true] at hq
          case tup ys => exact (hn ys rfl).elim
          case lv ys =>
            cases r with
            | lv h n _ r2 => cases e; exact call_tuple_of pins s σ H _ us Q I rv ⟨p, _, rfl, .inl ⟨SqL.of h, fun l hl => WR.newT w rs r2 hl⟩⟩
          case fl ys =>
            cases r with
            | fl h n _ r2 => cases e; exact call_tuple_of pins s σ H _ us Q I rv ⟨p, _, rfl, .inl ⟨.inl h, fun l hl => WR.newT w rs r2 hl⟩⟩
            | flK h r2 => cases e; exact call_tuple_of pins s σ H _ us Q I rv ⟨p, _, rfl, .inl ⟨(h.elim (fun z => by rcases z with z | ⟨o, z⟩ <;> cases z) .inr), fun l hl => WR.newT w rs r2 hl⟩⟩
          case ref n =>
            simp only [items] at e
            split at e
            · rename_i zs hz
              cases e
              cases r with
              | ref h =>
                obtain ⟨ws2, h1, h2⟩ := rs.obj n _ _ h hz
                exact call_tuple_of pins s σ H _ us Q I rv ⟨p, ws2, rfl, .inl ⟨SqL.of h1, fun l hl => WR.newT w rs h2 hl⟩⟩
            · cases e
    · exact w.elim
theorem cb_str : CallR X (.type "str") (rC X.K (bltD .str)) := by
  intro pins s σ H vs us Q I rv ⟨Z, m, S, ds, rs, rd, w⟩
  simp only [bltD] at w
  unfold strD at w
  split at w <;> try exact w.elim
  split at w
  · rename_i hc
    obtain ⟨v, rfl, r⟩ := rd.one
    cases r
    exact call_str_int pins s σ H _ us Q I rv ⟨_, rfl, hc, WR.here w rs (.str _)⟩
  · exact w.elim
theorem cb_max (hc : X.calm = true) : CallR X (.builtin "max") (rC X.K (bltD .max)) := by
  intro pins s σ H vs us Q I rv ⟨Z, m, S, ds, rs, rd, w⟩
  simp only [bltD] at w
  unfold maxD at w
  split at w <;> try exact w.elim
  obtain ⟨v, u, rfl, r1, r2⟩ := rd.two
  cases r1; cases r2
  exact call_max2 hc pins s σ H _ us Q I rv ⟨_, _, rfl, WR.here w rs (.int _)⟩
theorem cb_min (hc : X.calm = true) : CallR X (.builtin "min") (rC X.K (bltD .min)) := by
  intro pins s σ H vs us Q I rv ⟨Z, m, S, ds, rs, rd, w⟩
  simp only [bltD] at w
  unfold minD at w
  split at w <;> try exact w.elim
  obtain ⟨v, u, rfl, r1, r2⟩ := rd.two
  cases r1; cases r2
  exact call_min2 hc pins s σ H _ us Q I rv ⟨_, _, rfl, WR.here w rs (.int _)⟩
theorem cb_sum (hc : X.calm = true) : CallR X (.builtin "sum") (rC X.K (bltD .sum)) := by
  intro pins s σ H vs us Q I rv ⟨Z, m, S, ds, rs, rd, w⟩
  simp only [bltD] at w
  unfold sumD at w
  split at w <;> try exact w.elim
  split at w
  · rename_i ns e
    obtain ⟨v, rfl, r⟩ := rd.one
    simp only [Option.bind_eq_some_iff] at e
    obtain ⟨xs, e1, e2⟩ := e
    obtain ⟨p, ws, rfl, h1, r1⟩ := r.listOf rs e1
    have z := r1.ints e2
    subst z
    exact cr_sum hc pins s σ H _ us Q I rv ⟨p, ns, rfl, SqL.of h1, WR.here w rs (.int _)⟩
  · exact w.elim
theorem RelDs.ofInts {K : PySem.W.Frag} {Z : List Addr} {m : List Addr} {S : Sto} {H : Hp} : ∀ (ns : List Int), RelDs K Z m S H (ns.map D.int) (ns.map V.int)
  | [] => .nil
  | n :: r => .cons (.int n) (RelDs.ofInts r)
theorem sortI_eq {ns ns' : List Int} (p : ns'.Perm ns) (h : ns'.Pairwise (· ≤ ·)) : ns' = sortI ns := by
  have h1 : (sortI ns).Pairwise (· ≤ ·) := by
    have := List.pairwise_mergeSort (le := fun a b : Int => decide (a ≤ b)) (fun a b c h1 h2 => by simp at h1 h2 ⊢; omega) (fun a b => by simp; omega) ns
    exact List.Pairwise.imp (fun h => by simpa using h) this
  exact List.Perm.eq_of_pairwise (fun a b _ _ h1 h2 => Int.le_antisymm h1 h2) h h1 (p.trans (List.mergeSort_perm _ _).symm)
theorem cb_sorted : CallR X (.builtin "sorted") (rC X.K (bltD .sorted)) := by
  intro pins s σ H vs us Q I rv ⟨Z, m, S, ds, rs, rd, w⟩
  simp only [bltD] at w
  unfold sortedD at w
  split at w <;> try exact w.elim
  split at w
  · rename_i ns e
    obtain ⟨v, rfl, r⟩ := rd.one
    simp only [Option.bind_eq_some_iff] at e
    obtain ⟨xs, e1, e2⟩ := e
    obtain ⟨p, ws, rfl, h1, r1⟩ := r.listOf rs e1
    have z := r1.ints e2
    subst z
    refine cr_sortedI pins s σ H _ us Q I rv ⟨p, ns, rfl, SqL.of h1, fun ns' q hp hr hq => ?_⟩
    rw [sortI_eq hp hr]
    exact w.newL rs (RelDs.ofInts _) hq
  · exact w.elim
theorem cb_any (hc : X.calm = true) : CallR X (.builtin "any") (rC X.K (bltD .any)) := by
  intro pins s σ H vs us Q I rv ⟨Z, m, S, ds, rs, rd, w⟩
  simp only [bltD] at w
  unfold anyD at w
  split at w <;> try exact w.elim
  split at w
  · rename_i ns e
    obtain ⟨v, rfl, r⟩ := rd.one
    simp only [Option.bind_eq_some_iff] at e
    obtain ⟨xs, e1, e2⟩ := e
    obtain ⟨p, ws, rfl, h1, r1⟩ := r.listOf rs e1
    have z := r1.bools e2
    subst z
    exact cr_any hc pins s σ H _ us Q I rv ⟨p, ns, rfl, SqL.of h1, WR.here w rs (.bl _)⟩
  · exact w.elim
theorem cb_all (hc : X.calm = true) : CallR X (.builtin "all") (rC X.K (bltD .all)) := by
  intro pins s σ H vs us Q I rv ⟨Z, m, S, ds, rs, rd, w⟩
  simp only [bltD] at w
  unfold allD at w
  split at w <;> try exact w.elim
  split at w
  · rename_i ns e
    obtain ⟨v, rfl, r⟩ := rd.one
    simp only [Option.bind_eq_some_iff] at e
    obtain ⟨xs, e1, e2⟩ := e
    obtain ⟨p, ws, rfl, h1, r1⟩ := r.listOf rs e1
    have z := r1.bools e2
    subst z
    exact cr_all hc pins s σ H _ us Q I rv ⟨p, ns, rfl, SqL.of h1, WR.here w rs (.bl _)⟩
  · exact w.elim
theorem cb_isi : CallR X (.builtin "isinstance") (rC X.K (bltD .isi)) := by
  intro pins s σ H vs us Q I rv ⟨Z, m, S, ds, rs, rd, w⟩
  simp only [bltD] at w
  unfold isiD at w
  split at w <;> try exact w.elim
  split at w
  · rename_i d n _ t e
    obtain ⟨v, u, rfl, r1, r2⟩ := rd.two
    cases r2
    cases e2 : kitB t n with
    | none => rw [e2] at w; exact w.elim
    | some b =>
      rw [e2] at w
      refine call_isi pins s σ H _ us Q I rv ⟨v, .ty n, .type t, .type n, b, rfl, .ty n, ?_, kit_ty e2, WR.here w rs (.bl _)⟩
      unfold tyName at e
      split at e
      · cases e; cases r1; exact .base .non
      · cases e; cases r1; exact .base (.bl _)
      · cases e; cases r1; exact .base (.int _)
      · cases e; cases r1; exact .base (.str _)
      · cases e
        cases r1 with
        | tup h n _ r => exact .base (.tup h)
        | tupK h r =>
          rcases h with (z | ⟨o, z⟩) | ⟨o, its, k, h1, h2, h3⟩
          · cases z
          · cases z
          · exact .kTuple h1 h2
      · cases e
        cases r1 with
        | lv h n _ r => exact .base (.lst h)
      · cases e
      · split at e
        · rename_i k _ zs hz
          cases e
          cases r1 with
          | ref h =>
            obtain ⟨ws2, h1, h2⟩ := rs.obj k _ _ h hz
            exact .base (.lst h1)
        · cases e
      · cases e
  · exact w.elim
/-! ### methods that change a list, stores to a place -/
def rM (K : PySem.W.Frag) (f : D → List D → Sto → R D) : V → List V → Hp → VK → Prop := fun v vs H Q => ∃ Z m S o ds, RelS K Z m S H ∧ RelD K Z m S H o v ∧ RelDs K Z m S H ds vs ∧ WR K Z (RelD K Z) m S H Q (f o ds S)
theorem methD_ref {mt : Mth} {o : D} {ds : List D} {S : Sto} {K : PySem.W.Frag} {Z : List Addr} {m : List Addr} {H : Hp} {Q : VK} (w : WR K Z (RelD K Z) m S H Q (methD mt o ds S)) :
    ∃ n xs d ys, o = .ref n ∧ S[n]? = some (O.lst xs) ∧ mt.run xs ds = some (d, ys) ∧ WR K Z (RelD K Z) m S H Q (.ok d (S.set n (O.lst ys))) := by
  unfold methD at w
  split at w
  · split at w
    · split at w
      · rename_i n _ xs e _ d ys e2
        exact ⟨n, xs, d, ys, rfl, e, e2, w⟩
      · exact w.elim
    · exact w.elim
  · exact w.elim
def Mth.id : Mth → String
  | .append => "list.append" | .insert => "list.insert" | .pop => "list.pop"
theorem mtD (mt : Mth) : MtR X mt.id (rM X.K (methD mt)) := by
  intro pins s σ H vx vs v us Q I rv ru ⟨Z, m, S, o, ds, rs, rd, rds, w⟩
  obtain ⟨n, xs, d, ys, rfl, hx, he, w⟩ := methD_ref w
  cases rd with
  | @ref _ a hm =>
    obtain ⟨ws, h1, r1⟩ := rs.obj n a xs hm hx
    cases mt with
    | append =>
      simp only [Mth.run] at he
      unfold appF at he
      split at he
      · split at he
        · rename_i hl
          cases he
          obtain ⟨y, rfl, ry⟩ := rds.one
          refine mt_append pins s σ H _ _ v us Q I rv ru ⟨a, ws, y, rfl, rfl, h1, by rw [← r1.length]; exact lim_lt hl, ?_⟩
          exact w m _ _ (step_set hx hm) (rels_set rs hx hm (r1.app (.cons ry .nil))) .non
        · cases he
      · cases he
    | insert =>
      simp only [Mth.run] at he
      unfold insF at he
      split at he
      · split at he
        · rename_i i e hl
          cases he
          obtain ⟨y1, y2, rfl, ry1, ry2⟩ := rds.two
          cases ry1
          refine mt_insert pins s σ H _ _ v us Q I rv ru ⟨a, ws, i, y2, rfl, rfl, h1, by rw [← r1.length]; exact lim_lt hl.1, hl.2.1, by have := hl.2.2; omega, ?_⟩
          refine w m _ _ (step_set hx hm) (rels_set rs hx hm ?_) .non
          rw [List.append_assoc]
          exact (r1.take _).app (.cons ry2 (r1.drop _))
        · cases he
      · cases he
    | pop =>
      simp only [Mth.run] at he
      unfold popF at he
      split at he
      · split at he
        · rename_i i hl
          split at he
          · rename_i e hd
            cases he
            obtain ⟨y, rfl, ry⟩ := rds.one
            cases ry
            obtain ⟨vd, hv, rvd⟩ := r1.get hd
            have hlen := r1.length
            have h63 := line63
            have hlim := lim_le hl.2.2
            have hs : seqIndex? i ws.length = some i.toNat := PySem.seqIndex_of hl.1 (by omega)
            refine mt_popAt pins s σ H _ _ v us Q I rv ru ⟨a, ws, i, i.toNat, vd, rfl, rfl, h1, by omega, by omega, hs, hv, ?_⟩
            exact w m _ _ (step_set hx hm) (rels_set rs hx hm (r1.erase _)) (rvd.mono (step_set hx hm))
          · cases he
        · cases he
      · cases he
def rSt (K : PySem.W.Frag) : V → V → V → Hp → (Hp → Prop) → Prop := fun o i v H Q => ∃ Z m S od id d, RelS K Z m S H ∧ RelD K Z m S H od o ∧ RelD K Z m S H id i ∧ RelD K Z m S H d v ∧ WR K Z (eqRel (α := Unit)) m S H (fun _ H => Q H) (setiD od id d S)
theorem set_D : PSet X (rSt X.K) := by
  intro pins s σ H o i v ov iv u Q I ro ri rv ⟨Z, m, S, od, id, d, rs, r1, r2, r3, w⟩
  unfold setiD at w
  split at w
  · rename_i n k
    split at w
    · rename_i xs hx
      split at w
      · rename_i j hj
        cases r1 with
        | @ref _ a hm =>
          cases r2
          obtain ⟨ws, h1, r4⟩ := rs.obj n a xs hm hx
          refine set_list pins s σ H _ _ v ov iv u Q I ro ri rv ⟨a, ws, k, j, rfl, rfl, h1, by rw [← r4.length]; exact hj, ?_⟩
          exact w m _ () (step_set hx hm) (rels_set rs hx hm (r4.set j r3)) rfl
      · exact w.elim
    · exact w.elim
  · exact w.elim
/-! ### truth -/
theorem truV {K : PySem.W.Frag} {Z : List Addr} {m : List Addr} {S : Sto} {H : Hp} {d : D} {v : V} {b : Bool} (rs : RelS K Z m S H) (r : RelD K Z m S H d v) (e : truth S d = some b) : TruV K v H b := by
  unfold truth at e
  split at e
  · cases e; cases r; exact rfl
  · cases e; cases r; exact rfl
  · cases e; cases r; exact rfl
  · split at e
    · rename_i hl
      cases e; cases r; exact ⟨lim_le hl, rfl⟩
    · cases e
  · cases e
    obtain ⟨p, vs, rfl, h, r1⟩ := r.tupOf
    refine .inr (.inl ⟨vs, h, ?_⟩)
    cases r1 <;> rfl
  · cases e
    cases r with
    | lv h n _ r1 =>
      refine .inl ⟨_, SqL.of h, ?_⟩
      cases r1 <;> rfl
  · cases e
    cases r with
    | fl h n _ r1 =>
      refine .inl ⟨_, .inl h, ?_⟩
      cases r1 <;> rfl
    | flK h r1 =>
      refine .inl ⟨_, (h.elim (fun z => by rcases z with z | ⟨o, z⟩ <;> cases z) .inr), ?_⟩
      cases r1 <;> rfl
  · split at e
    · rename_i k _ zs hz
      cases e
      cases r with
      | ref h =>
        obtain ⟨ws2, h1, h2⟩ := rs.obj k _ _ h hz
        refine .inl ⟨_, SqL.of h1, ?_⟩
        cases h2 <;> rfl
    · cases e
  · cases e
theorem pt_re {e : Expr} {f : Sg → Sto → R D} (h : PE X e (RE X.K f)) (he : ∀ whole, isTrue e X.env whole = (do let v ← whole; standAt e.pos; holding [v] (truthy v))) : PT X e (RT X.K f) := by
  refine PT.mono (pt_truth h he) fun σ H Q ⟨Z, m, S, σd, c, w⟩ => ⟨Z, m, S, σd, c, WR.bind w fun d S1 m1 H1 v st rs r w1 => ?_⟩
  unfold tr at w1
  split at w1
  · rename_i b hb
    exact ⟨b, truV rs r hb, WR.here w1 rs rfl⟩
  · exact w1.elim
end
end Ev

namespace Ev
open PySem L2

/-! ### hidden places -/
section
variable {K : PySem.W.Frag} {Z : List Addr} {m m1 : List Addr} {S S1 : Sto} {H H' H1 : Hp} {p z : Addr} {o : HO} {σd : Sg} {σ : St}
mutual
/-- what was not there is not mentioned -/
theorem RelD.hide (hz : H z = none) : ∀ {d : D} {v : V}, RelD K Z m S H d v → RelD K (z :: Z) m S H d v
  | _, _, .non => .non
  | _, _, .bl b => .bl b
  | _, _, .int i => .int i
  | _, _, .str x => .str x
  | _, _, .ty n => .ty n
  | _, _, .tup h n q r => .tup h n (by rw [List.mem_cons]; exact fun e => e.elim (ne_of_none h hz) q) (RelDs.hide hz r)
  | _, _, .tupK h r => .tupK h (RelDs.hide hz r)
  | _, _, .lv h n q r => .lv h n (by rw [List.mem_cons]; exact fun e => e.elim (ne_of_none h hz) q) (RelDs.hide hz r)
  | _, _, .fl h n q r => .fl h n (by
      rw [List.mem_cons]
      rcases h with h | ⟨o, h⟩
      · exact fun e => e.elim (ne_of_none h hz) q
      · exact fun e => e.elim (ne_of_none h hz) q) (RelDs.hide hz r)
  | _, _, .flK h r => .flK h (RelDs.hide hz r)
  | _, _, .ref h => .ref h
theorem RelDs.hide (hz : H z = none) : ∀ {d : List D} {v : List V}, RelDs K Z m S H d v → RelDs K (z :: Z) m S H d v
  | _, _, .nil => .nil
  | _, _, .cons h t => .cons (RelD.hide hz h) (RelDs.hide hz t)
end
mutual
/-- what is hidden may change, and may come to light -/
theorem RelD.free (hk : ∀ a o, a ≠ z → H a = some o → H' a = some o) : ∀ {d : D} {v : V}, RelD K (z :: Z) m S H d v → RelD K Z m S H' d v
  | _, _, .non => .non
  | _, _, .bl b => .bl b
  | _, _, .int i => .int i
  | _, _, .str x => .str x
  | _, _, .ty n => .ty n
  | _, _, .tup h n q r => by
    rw [List.mem_cons, not_or] at q
    exact .tup (hk _ _ q.1 h) n q.2 (RelDs.free hk r)
  | _, _, .tupK h r => .tupK h (RelDs.free hk r)
  | _, _, .lv h n q r => by
    rw [List.mem_cons, not_or] at q
    exact .lv (hk _ _ q.1 h) n q.2 (RelDs.free hk r)
  | _, _, .fl h n q r => by
    rw [List.mem_cons, not_or] at q
    rcases h with h | ⟨o, h⟩
    · exact .fl (.inl (hk _ _ q.1 h)) n q.2 (RelDs.free hk r)
    · exact .fl (.inr ⟨o, hk _ _ q.1 h⟩) n q.2 (RelDs.free hk r)
  | _, _, .flK h r => .flK h (RelDs.free hk r)
  | _, _, .ref h => .ref h
theorem RelDs.free (hk : ∀ a o, a ≠ z → H a = some o → H' a = some o) : ∀ {d : List D} {v : List V}, RelDs K (z :: Z) m S H d v → RelDs K Z m S H' d v
  | _, _, .nil => .nil
  | _, _, .cons h t => .cons (RelD.free hk h) (RelDs.free hk t)
end
/-- the heap without one place -/
def cutH (H : Hp) (z : Addr) : Hp := fun a => if a = z then none else H a
theorem cutH_ne {a : Addr} (h : a ≠ z) : cutH H z a = H a := by unfold cutH; rw [if_neg h]
theorem cutH_same : cutH H z z = none := by unfold cutH; rw [if_pos rfl]
theorem cutH_some {a : Addr} {o : HO} (h : cutH H z a = some o) : a ≠ z ∧ H a = some o := by
  unfold cutH at h
  split at h
  · cases h
  · exact ⟨by assumption, h⟩
theorem cutH_upd (h : H z = none) : cutH (upd H z o) z = H := by
  funext a
  unfold cutH upd
  by_cases e : a = z
  · simp [e, h]
  · simp [e]
theorem cutH_upd2 : cutH (upd H z o) z = cutH H z := by
  funext a
  unfold cutH upd
  by_cases e : a = z
  · simp [e]
  · simp [e]
/-- the config at the heap with the hidden list, from the one without -/
theorem Cf.hide (c : Cf K Z m S (cutH H z) σd σ) (hz : H z = some o) (hm : z ∉ m) : Cf K (z :: Z) m S H σd σ := by
  have st : ∀ {d : D} {v : V}, RelD K Z m S (cutH H z) d v → RelD K (z :: Z) m S H d v := fun r =>
    RelD.mono (H' := H) ⟨⟨[], by simp⟩, fun a o e n => ⟨(cutH_some e).2, n⟩⟩ (RelD.hide cutH_same r)
  have sts : ∀ {d : List D} {v : List V}, RelDs K Z m S (cutH H z) d v → RelDs K (z :: Z) m S H d v := fun r =>
    RelDs.mono (H' := H) ⟨⟨[], by simp⟩, fun a o e n => ⟨(cutH_some e).2, n⟩⟩ (RelDs.hide cutH_same r)
  refine ⟨⟨c.s.len, c.s.nd, fun a ha => ?_, fun y hy => ?_, fun i a xs h1 h2 => ?_⟩, c.len, fun i d e => ?_⟩
  · obtain ⟨u, e⟩ := c.s.has a ha
    exact ⟨u, (cutH_some e).2⟩
  · rcases List.mem_cons.mp hy with e | hy
    · subst e; exact ⟨⟨o, hz⟩, hm⟩
    · obtain ⟨⟨u, e⟩, n⟩ := c.s.hid y hy
      exact ⟨⟨u, (cutH_some e).2⟩, n⟩
  · obtain ⟨vs, h3, r⟩ := c.s.obj i a xs h1 h2
    exact ⟨vs, (cutH_some h3).2, sts r⟩
  · obtain ⟨v, h1, r⟩ := c.get i d e
    exact ⟨v, h1, st r⟩
theorem RelS.show (c : RelS K (z :: Z) m S H) (hz : z ∉ Z) : RelS K Z m S (cutH H z) := by
  have hm : z ∉ m := (c.hid z List.mem_cons_self).2
  refine ⟨c.len, c.nd, fun a ha => ?_, fun y hy => ?_, fun i a xs h1 h2 => ?_⟩
  · obtain ⟨u, e⟩ := c.has a ha
    exact ⟨u, by rw [cutH_ne (show a ≠ z from fun q => hm (q ▸ ha))]; exact e⟩
  · obtain ⟨⟨u, e⟩, n⟩ := c.hid y (List.mem_cons_of_mem _ hy)
    exact ⟨⟨u, by rw [cutH_ne (show y ≠ z from fun q => hz (q ▸ hy))]; exact e⟩, n⟩
  · obtain ⟨vs, h3, r⟩ := c.obj i a xs h1 h2
    exact ⟨vs, by rw [cutH_ne (show a ≠ z from fun q => hm (q ▸ mem_of_get h1))]; exact h3, RelDs.free (fun a o ne e => by rw [cutH_ne ne]; exact e) r⟩
/-- a step with the hidden list is a step without it -/
theorem Step.cut (st : Step m S H m1 S1 H1) : Step m S (cutH H z) m1 S1 (cutH H1 z) := ⟨st.pre, fun a o e n => by
  obtain ⟨ne, e⟩ := cutH_some e
  obtain ⟨h1, h2⟩ := st.keep a o e n
  exact ⟨by rw [cutH_ne ne]; exact h1, h2⟩⟩
theorem Step.uncut : Step m S (cutH H z) m S H := ⟨⟨[], by simp⟩, fun a o e n => ⟨(cutH_some e).2, n⟩⟩
end

/-! ### contexts -/
def spR (K : PySem.W.Frag) (g : List D → Sto → R D) : Sp := fun vs H Q _ => rC K g vs H Q
structure WldF (T : Prg) (k : Nat) (P : Program) (w : World) (K : PySem.W.Frag) (mg : Str → Option Value) (base : Heap) : Prop where
  blt : ∀ f : Blt, mg f.nm = none
  rng : mg "range" = none
  boo : mg "bool" = none
  con : ∀ x d, T.con.lookup x = some d → ∃ u v, mg x = some u ∧ RelV v u ∧ ∀ Z m S H, RelD K Z m S H d v
  fns : ∀ f F, T.fns.lookup f = some F → ∃ a fd, mg F.base = some (.ref a) ∧ PySem.W.keepIn K (.ref a) = true ∧ Binds K fd F.ps [] ∧ FnOk P w K mg base CX0 k a fd F.ps (spR K (callN T k F.base f))
structure XOk (T : Prg) (k : Nat) (N : List Str) (sc ws : Scope) (X : Cx) : Prop where
  wld : WldF T k X.prog X.w X.K X.mg X.base
  room : Room k X.A
  xe : X.xe = fun _ _ => False
  calm : X.calm = true
  nN : X.N = N
  nd : N.Nodup
  sc : X.env.scope = sc
  fn : ∀ x, ws.names.lookup x = some .cell → X.fn x = true
abbrev ctxOf (T : Prg) (k : Nat) : Ctx := ⟨callN T k, fun x => T.con.lookup x, T.w⟩

/-! ### small facts of the fit -/
theorem visB_of {sc : Scope} {x : Str} (h : visB sc x = true) : Vis sc x := by
  unfold visB at h
  unfold Vis
  split at h <;> simp_all
theorem glB_of {sc : Scope} {x : Str} (h : glB sc x = true) : sc.names.lookup x = some .globalImplicit ∧ (x == ("__debug__" : Str)) = false := by
  unfold glB at h
  rw [Bool.and_eq_true] at h
  obtain ⟨h1, h2⟩ := h
  refine ⟨?_, by simpa using h2⟩
  split at h1
  · assumption
  · cases h1
theorem noStar {N : List Str} {sc ws : Scope} : ∀ (ir : E) {e : Expr} {p : Pos}, fitE N sc ws ir (.Starred e p) = false
  | .frz a, _, _ => by simp only [fitE]; exact noStar a
  | .var _, _, _ | .glob _, _, _ | .ty _, _, _ | .cint _, _, _ | .cstr _, _, _ | .cbl _, _, _ | .cnon, _, _ | .bin _ _ _, _, _ | .neg _, _, _ | .not _, _, _ | .cmp _ _ _, _, _ | .chain _ _ _ _ _, _, _
  | .and1 _, _, _ | .and2 _ _, _, _ | .or1 _, _, _ | .or2 _ _, _, _ | .ife _ _ _, _, _ | .tup _, _, _ | .lst _, _, _ | .lstM _, _, _ | .ix _ _, _, _ | .sl _ _ _, _, _ | .nop, _, _ | .call _ _ _, _, _ | .blt _ _, _, _ | .bltM _ _, _, _ | .meth _ _ _, _, _ | .binM _ _, _, _ | .rev _, _, _ | .lc _ _ _ _, _, _ => by simp [fitE]
theorem noSet {N : List Str} {sc ws : Scope} : ∀ (ir : E) {e : List Expr} {k : Nat} {p : Pos}, fitE N sc ws ir (.Set e k p) = false
  | .frz a, _, _, _ => by simp only [fitE]; exact noSet a
  | .var _, _, _, _ | .glob _, _, _, _ | .ty _, _, _, _ | .cint _, _, _, _ | .cstr _, _, _, _ | .cbl _, _, _, _ | .cnon, _, _, _ | .bin _ _ _, _, _, _ | .neg _, _, _, _ | .not _, _, _, _ | .cmp _ _ _, _, _, _ | .chain _ _ _ _ _, _, _, _
  | .and1 _, _, _, _ | .and2 _ _, _, _, _ | .or1 _, _, _, _ | .or2 _ _, _, _, _ | .ife _ _ _, _, _, _ | .tup _, _, _, _ | .lst _, _, _, _ | .lstM _, _, _, _ | .ix _ _, _, _, _ | .sl _ _ _, _, _, _ | .nop, _, _, _ | .call _ _ _, _, _, _ | .blt _ _, _, _, _ | .bltM _ _, _, _, _ | .meth _ _ _, _, _, _ | .binM _ _, _, _, _ | .rev _, _, _, _ | .lc _ _ _ _, _, _, _ => by simp [fitE]
theorem star_of {N : List Str} {sc ws : Scope} {ir : E} {e : Expr} {es : List Expr} {env : Env} (h : fitE N sc ws ir e = true) : starEach (e :: es) env = (false, eval e env) :: starEach es env := by
  cases e <;> first | rfl | (rw [noStar] at h; cases h)
theorem stars_of {N : List Str} {sc ws : Scope} {env : Env} {pos : Pos} : ∀ {irs : Es} {es : List Expr}, fitEs N sc ws irs es = true → (backTo pos (starEach es env)).any (·.1) = false ∧ (backTo pos (starEach es env)).all (fun x => !x.1) = true
  | .nil, [], _ => ⟨rfl, rfl⟩
  | .nil, _ :: _, h => by simp [fitEs] at h
  | .cons _ _, [], h => by simp [fitEs] at h
  | .cons ir irs, e :: es, h => by
    simp only [fitEs, Bool.and_eq_true] at h
    obtain ⟨h1, h2⟩ := stars_of (env := env) (pos := pos) h.2
    rw [star_of h.1]
    show (false || (backTo pos (starEach es env)).any (·.1)) = false ∧ (true && (backTo pos (starEach es env)).all (fun x => !x.1)) = true
    rw [h1, h2]
    exact ⟨rfl, rfl⟩
theorem folded_of {N : List Str} {sc ws : Scope} {ir : E} {e : Expr} {env : Env} (h : fitE N sc ws ir e = true) : ∀ x, foldedSetIterable e env x = pure x := fun x => by
  cases e <;> first | rfl | (rw [noSet] at h; cases h)
theorem foldedI_of {N : List Str} {sc ws : Scope} {ir : It} {e : Expr} {env : Env} (h : fitIt N sc ws ir e = true) : ∀ x, foldedSetIterable e env x = pure x := fun x => by
  cases ir with
  | seq a => simp only [fitIt] at h; exact folded_of h x
  | rng1 a => cases e <;> first | rfl | (simp [fitIt] at h; done)
  | rng2 a b => cases e <;> first | rfl | (simp [fitIt] at h; done)
theorem swaps_of {e : Expr} {t : Option Expr} {l : Nat} {env : Env} (h : plainR e = true) : swapsWith e t l env = pure false := by
  cases e <;> first | rfl | (simp [plainR] at h; done)
end Ev

namespace Ev
open PySem L2
/-! ### targets -/
def RG (K : PySem.W.Frag) (tg : Tg) : TG := fun v σ H Q => ∃ Z m S σd d, Cf K Z m S H σd σ ∧ RelD K Z m S H d v ∧ ∃ σd', setTg tg d σd = some σd' ∧ ∀ σ', Cf K Z m S H σd' σ' → Q σ' H
theorem PG.mono {X : Cx} {e : Expr} {t t' : TG} (h : PG X e t) (k : ∀ v σ H Q, t' v σ H Q → t v σ H Q) : PG X e t' := ⟨fun pins s σ H v u Q I r q => h.run pins s σ H v u Q I r (k v σ H Q q)⟩
theorem Cf.set {K : PySem.W.Frag} {Z m : List Addr} {S : Sto} {H : Hp} {σd : Sg} {σ : St} {i : Nat} {d : D} {v : V} (c : Cf K Z m S H σd σ) (r : RelD K Z m S H d v) : Cf K Z m S H (σd.set i (some d)) (σ.set i (some v)) := by
  refine ⟨c.s, by simp [c.len], fun j e h => ?_⟩
  by_cases hj : i = j
  · subst hj
    have hi : i < σd.length := by
      have := (List.getElem?_eq_some_iff.mp h).1
      simpa using this
    rw [List.getElem?_set_self hi] at h
    cases h
    exact ⟨v, by rw [List.getElem?_set_self (by rw [← c.len]; exact hi)], r⟩
  · rw [List.getElem?_set_ne hj] at h
    obtain ⟨u, h1, h2⟩ := c.get j e h
    exact ⟨u, by rw [List.getElem?_set_ne hj]; exact h1, h2⟩
def gNs : List Nat → TGs
  | [] => gNil
  | i :: is => gCons (gName i) (gNs is)
theorem gNs_ok {K : PySem.W.Frag} {Z m : List Addr} {S : Sto} {H : Hp} {Q : St → Hp → Prop} : ∀ {is : List Nat} {ds : List D} {vs : List V} {σd σd' : Sg} {σ : St}, Cf K Z m S H σd σ → RelDs K Z m S H ds vs → setAll is ds σd = some σd' → (∀ σ', Cf K Z m S H σd' σ' → Q σ' H) → gNs is vs σ H Q
  | [], _, _, _, _, _, c, .nil, e, q => by
    simp only [setAll, Option.some.injEq] at e
    subst e
    exact ⟨rfl, q _ c⟩
  | _ :: _, _, _, _, _, _, _, .nil, e, _ => by simp [setAll] at e
  | [], _, _, _, _, _, _, .cons _ _, e, _ => by simp [setAll] at e
  | i :: is, _, _, _, _, _, c, .cons h t, e, q => by
    simp only [setAll] at e
    exact ⟨_, _, rfl, gNs_ok (c.set h) t e q⟩
section
variable {T : Prg} {k : Nat} {N : List Str} {sc ws : Scope} {X : Cx}
theorem stB_of (x : XOk T k N sc ws X) {y : Str} (h : stB sc ws y = true) : Loc X.env.scope y ∧ (X.fn y = true ∨ X.env.scope.names.lookup y = some .local) := by
  rw [x.sc]
  unfold stB at h
  split at h
  · rename_i e
    exact ⟨.inl e, .inr e⟩
  · rename_i e
    split at h
    · rename_i e2
      exact ⟨.inr e, .inl (x.fn y e2)⟩
    · cases h
  · cases h
theorem pgs_ns (x : XOk T k N sc ws X) : ∀ {is : List Nat} {es : List Expr}, fitNs N sc ws is es = true → PGs X es (gNs is) ∧ (assignEach es X.env).length = is.length ∧ (assignEach es X.env).findIdx? (·.1) = none
  | [], [], _ => ⟨pgs_nil, rfl, rfl⟩
  | [], _ :: _, h => by simp [fitNs] at h
  | _ :: _, [], h => by simp [fitNs] at h
  | i :: is, e :: es, h => by
    cases e <;> simp only [fitNs, Bool.false_eq_true, Bool.and_eq_true, decide_eq_true_eq] at h
    obtain ⟨⟨h1, h2⟩, h3⟩ := h
    obtain ⟨r1, r2, r3⟩ := pgs_ns x h3
    obtain ⟨l1, l2⟩ := stB_of x h2
    refine ⟨pgs_cons (pg_name (by rw [x.nN]; exact x.nd) (by rw [x.nN]; exact h1) l1 l2) r1 rfl, ?_, ?_⟩
    · show (assignEach es X.env).length + 1 = is.length + 1
      rw [r2]
    · show List.findIdx? (·.1) ((false, _) :: assignEach es X.env) = none
      rw [List.findIdx?_cons]
      simp [r3]
theorem pg_tg (x : XOk T k N sc ws X) {tg : Tg} {e : Expr} (h : fitTg N sc ws tg e = true) : PG X e (RG X.K tg) := by
  cases tg with
  | nm i =>
    cases e <;> simp only [fitTg, Bool.false_eq_true, Bool.and_eq_true, decide_eq_true_eq] at h
    obtain ⟨l1, l2⟩ := stB_of x h.2
    refine PG.mono (pg_name (by rw [x.nN]; exact x.nd) (by rw [x.nN]; exact h.1) l1 l2) fun v σ H Q ⟨Z, m, S, σd, d, c, r, σd', e, q⟩ => ?_
    simp only [setTg, Option.some.injEq] at e
    subst e
    exact q _ (c.set r)
  | tp is =>
    cases e <;> simp only [fitTg, Bool.false_eq_true] at h
    obtain ⟨r1, r2, r3⟩ := pgs_ns x h
    refine PG.mono (pg_tup x.calm r1 r2 r3) fun v σ H Q ⟨Z, m, S, σd, d, c, r, σd', e, q⟩ => ?_
    cases d <;> simp only [setTg, reduceCtorEq] at e
    obtain ⟨p, vs, rfl, h1, r4⟩ := r.tupOf
    refine ⟨p, vs, rfl, h1, ?_, gNs_ok c r4 e q⟩
    rw [← r4.length]
    exact len_of e
where len_of : ∀ {is : List Nat} {ds : List D} {σ σ' : Sg}, setAll is ds σ = some σ' → ds.length = is.length
    | [], [], _, _, _ => rfl
    | _ :: _, [], _, _, e => by simp [setAll] at e
    | [], _ :: _, _, _, e => by simp [setAll] at e
    | _ :: is, _ :: ds, _, _, e => by
      simp only [setAll] at e
      simp [len_of e]
/-! ### walks -/
structure JW (K : PySem.W.Frag) (d : D) (v : V) (J : L2.It) : Prop where
  go : ∀ Z m S H xs (i : Nat) x, RelS K Z m S H → RelD K Z m S H d v → items S d = some xs → xs[i]? = some x → J.go i H
  yld : ∀ Z m S H xs (i : Nat) x y H', RelS K Z m S H → RelD K Z m S H d v → items S d = some xs → xs[i]? = some x → J.yld i H y H' → H' = H ∧ RelD K Z m S H x y
  stop : ∀ Z m S H xs (i : Nat), RelS K Z m S H → RelD K Z m S H d v → items S d = some xs → xs[i]? = none → J.stop i H
theorem sqt_k {K : PySem.W.Frag} {H : Hp} {p : Addr} {vs : List V} (h : SqT K (fun _ => none) p vs) : SqT K H p vs := h.elim (fun z => by rcases z with z | ⟨o, z⟩ <;> cases z) .inr
theorem sql_k {K : PySem.W.Frag} {H : Hp} {p : Addr} {vs : List V} (h : SqL K (fun _ => none) p vs) : SqL K H p vs := h.elim (fun z => by rcases z with z | ⟨o, z⟩ <;> cases z) .inr
theorem jw_l {K : PySem.W.Frag} {d : D} {a : Addr} (h : ∀ Z m S H xs, RelS K Z m S H → RelD K Z m S H d (.ref a) → items S d = some xs → ∃ vs, SqL K H a vs ∧ RelDs K Z m S H xs vs) : JW K d (.ref a) (Itl K a) where
  go := fun Z m S H xs i x rs r e ex => by
    obtain ⟨vs, h1, h2⟩ := h Z m S H xs rs r e
    obtain ⟨v, h3, _⟩ := h2.get ex
    exact ⟨vs, v, h1, h3⟩
  yld := fun Z m S H xs i x y H' rs r e ex q => by
    obtain ⟨vs, h1, h2⟩ := h Z m S H xs rs r e
    obtain ⟨v, h3, h4⟩ := h2.get ex
    obtain ⟨q1, q2⟩ := q
    have q3 := q2 vs h1
    rw [h3] at q3
    cases q3
    exact ⟨q1, h4⟩
  stop := fun Z m S H xs i rs r e ex => by
    obtain ⟨vs, h1, h2⟩ := h Z m S H xs rs r e
    exact ⟨vs, h1, by rw [← h2.length]; exact List.getElem?_eq_none_iff.mp ex⟩
theorem jw_t {K : PySem.W.Frag} {d : D} {a : Addr} (h : ∀ Z m S H xs, RelS K Z m S H → RelD K Z m S H d (.ref a) → items S d = some xs → ∃ vs, SqT K H a vs ∧ RelDs K Z m S H xs vs) : JW K d (.ref a) (Itt K a) where
  go := fun Z m S H xs i x rs r e ex => by
    obtain ⟨vs, h1, h2⟩ := h Z m S H xs rs r e
    obtain ⟨v, h3, _⟩ := h2.get ex
    exact ⟨vs, v, h1, h3⟩
  yld := fun Z m S H xs i x y H' rs r e ex q => by
    obtain ⟨vs, h1, h2⟩ := h Z m S H xs rs r e
    obtain ⟨v, h3, h4⟩ := h2.get ex
    obtain ⟨q1, q2⟩ := q
    have q3 := q2 vs h1
    rw [h3] at q3
    cases q3
    exact ⟨q1, h4⟩
  stop := fun Z m S H xs i rs r e ex => by
    obtain ⟨vs, h1, h2⟩ := h Z m S H xs rs r e
    exact ⟨vs, h1, by rw [← h2.length]; exact List.getElem?_eq_none_iff.mp ex⟩
def iSeq (K : PySem.W.Frag) (te : TE) : TI := fun σ H R => te σ H fun x H1 => (∃ a, x = .ref a ∧ (∃ xs, SqL K H1 a xs) ∧ R (Itl K a) H1) ∨ (∃ a, x = .ref a ∧ (∃ xs, SqT K H1 a xs) ∧ R (Itt K a) H1) ∨ ∃ z, x = .str z ∧ R (Its z) H1
theorem pi_seq {tg e : Expr} {te : TE} (he : PE X e te) : PI X tg e (iSeq X.K te) := by
  refine ⟨fun pins s σ H R I h => ?_⟩
  refine thn (he.run pins s σ H _ I h) fun v s1 ⟨x, H1, I1, r1, q1⟩ => ?_
  rcases q1 with ⟨a, e, ⟨xs, hq⟩, q⟩ | ⟨a, e, ⟨xs, hq⟩, q⟩ | ⟨z, e, q⟩
  · subst e
    cases r1
    obtain ⟨its, rv, p, hz⟩ := I1.list hq
    refine wpAny_pyIter_list p.isList ?_
    refine ⟨s1.heap.objs.size, [s1.heap.objs.size], _, _, H1, rfl, I1.kept (t' := s1.toks) fun b o e => Heap.get?_push_of_some _ e, turn_list a _, ⟨_, Heap.get?_push_size _ rfl, rfl, rfl⟩, fun b hb => ?_, q⟩
    have e : b = s1.heap.objs.size := by simpa using hb
    subst e
    exact I1.fpOk (Nat.le_refl _) (I1.hok.fresh (Nat.le_refl _))
  · subst e
    cases r1
    obtain ⟨its, rv, p, hz⟩ := I1.tuple hq
    refine wpAny_pyIter_tuple (show s1.heap.IsTuple a its.toArray from p) ?_
    refine ⟨s1.heap.objs.size, [s1.heap.objs.size], _, _, H1, rfl, I1.kept (t' := s1.toks) fun b o e => Heap.get?_push_of_some _ e, turn_tuple a _, ⟨_, Heap.get?_push_size _ rfl, rfl, rfl⟩, fun b hb => ?_, q⟩
    have e : b = s1.heap.objs.size := by simpa using hb
    subst e
    exact I1.fpOk (Nat.le_refl _) (I1.hok.fresh (Nat.le_refl _))
  · subst e
    obtain ⟨t, rfl⟩ := r1
    cases ha : z.cps.all (· < 128)
    · exact wpAny_pyIter_wide ha (pi_one (tk := s1.toks) I1 _ (turn_str _ z t "str_iterator" (.inr rfl)) ⟨_, Heap.get?_push_size _ rfl, rfl, rfl⟩ q)
    · exact wpAny_pyIter_ascii ha (pi_one (tk := s1.toks) I1 _ (turn_str _ z t "str_ascii_iterator" (.inl rfl)) ⟨_, Heap.get?_push_size _ rfl, rfl, rfl⟩ q)
/-- the iterator of a datum that has items -/
theorem jw_of {K : PySem.W.Frag} {Z m : List Addr} {S : Sto} {H : Hp} {d : D} {v : V} {xs : List D} (rs : RelS K Z m S H) (r : RelD K Z m S H d v) (e : items S d = some xs) {R : L2.It → Hp → Prop} (h : ∀ J, JW K d v J → R J H) :
    (∃ a, v = .ref a ∧ (∃ xs, SqL K H a xs) ∧ R (Itl K a) H) ∨ (∃ a, v = .ref a ∧ (∃ xs, SqT K H a xs) ∧ R (Itt K a) H) ∨ ∃ z, v = .str z ∧ R (Its z) H := by
  cases d <;> simp only [items, reduceCtorEq] at e
  case str z =>
    cases r
    refine .inr (.inr ⟨z, rfl, h _ ⟨fun Z m S H xs i x _ _ e ex => ?_, fun Z m S H xs i x y H' _ _ e ex q => ?_, fun Z m S H xs i _ _ e ex => ?_⟩⟩)
    · simp only [items, Option.some.injEq] at e
      subst e
      have := (List.getElem?_eq_some_iff.mp ex).1
      simp at this
      exact this
    · simp only [items, Option.some.injEq] at e
      subst e
      obtain ⟨q1, c, q2, q3⟩ := q
      subst q3
      rw [List.getElem?_map] at ex
      have : z.cps.toList[i]? = some c := by simpa using q2
      rw [this] at ex
      cases ex
      exact ⟨q1, .str _⟩
    · simp only [items, Option.some.injEq] at e
      subst e
      have := List.getElem?_eq_none_iff.mp ex
      simp at this
      exact this
  case tup ys =>
    obtain ⟨p, vs, rfl, h1, r1⟩ := r.tupOf
    refine .inr (.inl ⟨p, rfl, ⟨vs, h1⟩, h _ (jw_t fun Z m S H xs rs r e => ?_)⟩)
    simp only [items, Option.some.injEq] at e
    subst e
    obtain ⟨p2, vs2, e2, h2, r2⟩ := r.tupOf
    cases e2
    exact ⟨vs2, h2, r2⟩
  case lv ys =>
    cases r with
    | lv h0 n z r1 =>
      refine .inl ⟨_, rfl, ⟨_, SqL.of h0⟩, h _ (jw_l fun Z m S H xs rs r e => ?_)⟩
      simp only [items, Option.some.injEq] at e
      subst e
      cases r with
      | lv h1 n1 z1 r2 => exact ⟨_, SqL.of h1, r2⟩
  case fl ys =>
    have k : ∀ p, v = .ref p → JW K (.fl ys) (.ref p) (Itl K p) := fun p _ => jw_l fun Z m S H xs rs r e => by
      simp only [items, Option.some.injEq] at e
      subst e
      cases r with
      | fl h1 n1 z1 r2 => exact ⟨_, .inl h1, r2⟩
      | flK h1 r2 => exact ⟨_, sql_k h1, r2⟩
    cases r with
    | fl h0 n z r1 => exact .inl ⟨_, rfl, ⟨_, .inl h0⟩, h _ (k _ rfl)⟩
    | flK h0 r1 => exact .inl ⟨_, rfl, ⟨_, sql_k h0⟩, h _ (k _ rfl)⟩
  case ref n =>
    cases r with
    | ref hm =>
      split at e
      · rename_i zs hz
        obtain ⟨vs, h1, h2⟩ := rs.obj n _ _ hm hz
        refine .inl ⟨_, rfl, ⟨_, SqL.of h1⟩, h _ (jw_l fun Z m S H xs rs r e => ?_)⟩
        simp only [items] at e
        split at e
        · rename_i ys hy
          cases e
          cases r with
          | ref hm2 =>
            obtain ⟨vs2, h3, h4⟩ := rs.obj n _ _ hm2 hy
            exact ⟨vs2, SqL.of h3, h4⟩
        · cases e
      · cases e
end
end Ev

namespace Ev
open PySem L2
/-! ### comprehensions -/
theorem wipeD_length (σ : Sg) : ∀ vs : List Nat, (wipeD σ vs).length = σ.length
  | [] => rfl
  | v :: vs => by unfold wipeD; rw [List.length_set, wipeD_length σ vs]
theorem wipeD_some {σ : Sg} {i : Nat} {x : D} : ∀ {vs : List Nat}, (wipeD σ vs)[i]? = some (some x) → σ[i]? = some (some x) ∧ i ∉ vs
  | [], h => ⟨h, by simp⟩
  | v :: vs, h => by
    unfold wipeD at h
    by_cases hi : v = i
    · subst hi
      by_cases hv : v < (wipeD σ vs).length
      · rw [List.getElem?_set_self hv] at h; cases h
      · rw [List.getElem?_eq_none (by simpa using hv)] at h; cases h
    · rw [List.getElem?_set_ne hi] at h
      obtain ⟨h1, h2⟩ := wipeD_some h
      exact ⟨h1, by simp only [List.mem_cons, not_or]; exact ⟨fun e => hi e.symm, h2⟩⟩
theorem Cf.wipe {K : PySem.W.Frag} {Z m : List Addr} {S : Sto} {H : Hp} {σd : Sg} {σ : St} (c : Cf K Z m S H σd σ) (vs : List Nat) : Cf K Z m S H (wipeD σd vs) (L2.wipe σ vs) := by
  refine ⟨c.s, by rw [wipeD_length, wipe_length, c.len], fun i d e => ?_⟩
  obtain ⟨h1, h2⟩ := wipeD_some e
  obtain ⟨v, h3, r⟩ := c.get i d h1
  exact ⟨v, by rw [wipe_out h2]; exact h3, r⟩
theorem wipe_set {σ : St} {i : Nat} {x : Option V} : ∀ {vs : List Nat}, i ∈ vs → wipe (σ.set i x) vs = wipe σ vs
  | v :: vs, h => by
    unfold wipe
    by_cases hv : i ∈ vs
    · rw [wipe_set hv]
    · have e : i = v := by
        rcases List.mem_cons.mp h with e | e
        · exact e
        · exact absurd e hv
      subst e
      apply List.ext_getElem?
      intro j
      by_cases hj : i = j
      · subst hj
        by_cases hl : i < σ.length
        · rw [List.getElem?_set_self (by rw [wipe_length, List.length_set]; exact hl), List.getElem?_set_self (by rw [wipe_length]; exact hl)]
        · rw [List.getElem?_eq_none (by rw [List.length_set, wipe_length, List.length_set]; omega), List.getElem?_eq_none (by rw [List.length_set, wipe_length]; omega)]
      · rw [List.getElem?_set_ne hj, List.getElem?_set_ne hj]
        by_cases hjv : j ∈ vs
        · have : ∀ (τ : St), (wipe τ vs)[j]? = if j < τ.length then some none else none := fun τ => wipe_in hjv
          rw [this, this, List.length_set]
        · rw [wipe_out hjv, wipe_out hjv, List.getElem?_set_ne hj]
where wipe_in {τ : St} {j : Nat} : ∀ {vs : List Nat}, j ∈ vs → (wipe τ vs)[j]? = if j < τ.length then some none else none
    | v :: vs, h => by
      unfold wipe
      by_cases e : v = j
      · subst e
        by_cases hl : v < τ.length
        · rw [List.getElem?_set_self (by rw [wipe_length]; exact hl), if_pos hl]
        · rw [List.getElem?_eq_none (by rw [List.length_set, wipe_length]; omega), if_neg hl]
      · rw [List.getElem?_set_ne e]
        rcases List.mem_cons.mp h with q | q
        · exact absurd q.symm e
        · exact wipe_in q
theorem wipe_wipe {σ : St} {us : List Nat} : ∀ {vs : List Nat}, (∀ i, i ∈ vs → i ∈ us) → wipe (wipe σ vs) us = wipe σ us
  | [], _ => rfl
  | v :: vs, h => by
    show wipe ((wipe σ vs).set v none) us = _
    rw [wipe_set (h v List.mem_cons_self), wipe_wipe fun i hi => h i (List.mem_cons_of_mem _ hi)]
/-- a target's store that tells which slots it takes -/
def RGw (K : PySem.W.Frag) (tg : Tg) : TG := fun v σ H Q => ∃ Z m S σd d, Cf K Z m S H σd σ ∧ RelD K Z m S H d v ∧ ∃ σd', setTg tg d σd = some σd' ∧ ∀ σ', Cf K Z m S H σd' σ' → wipe σ' tg.slots = wipe σ tg.slots → Q σ' H
theorem gNs_okW {K : PySem.W.Frag} {Z m : List Addr} {S : Sto} {H : Hp} {us : List Nat} {Q : St → Hp → Prop} : ∀ {is : List Nat} {ds : List D} {vs : List V} {σd σd' : Sg} {σ : St}, (∀ i, i ∈ is → i ∈ us) → Cf K Z m S H σd σ → RelDs K Z m S H ds vs → setAll is ds σd = some σd' → (∀ σ', Cf K Z m S H σd' σ' → wipe σ' us = wipe σ us → Q σ' H) → gNs is vs σ H Q
  | [], _, _, _, _, _, _, c, .nil, e, q => by
    simp only [setAll, Option.some.injEq] at e
    subst e
    exact ⟨rfl, q _ c rfl⟩
  | _ :: _, _, _, _, _, _, _, _, .nil, e, _ => by simp [setAll] at e
  | [], _, _, _, _, _, _, _, .cons _ _, e, _ => by simp [setAll] at e
  | i :: is, _, _, _, _, _, hu, c, .cons h t, e, q => by
    simp only [setAll] at e
    exact ⟨_, _, rfl, gNs_okW (fun j hj => hu j (List.mem_cons_of_mem _ hj)) (c.set h) t e fun σ' c' w' => q σ' c' (by rw [w', wipe_set (hu i List.mem_cons_self)])⟩
section
variable {T : Prg} {k : Nat} {N : List Str} {sc ws : Scope} {X : Cx}
theorem pg_tgW (x : XOk T k N sc ws X) {tg : Tg} {e : Expr} (h : fitTg N sc ws tg e = true) : PG X e (RGw X.K tg) := by
  cases tg with
  | nm i =>
    cases e <;> simp only [fitTg, Bool.false_eq_true, Bool.and_eq_true, decide_eq_true_eq] at h
    obtain ⟨l1, l2⟩ := stB_of x h.2
    refine PG.mono (pg_name (by rw [x.nN]; exact x.nd) (by rw [x.nN]; exact h.1) l1 l2) fun v σ H Q ⟨Z, m, S, σd, d, c, r, σd', e, q⟩ => ?_
    simp only [setTg, Option.some.injEq] at e
    subst e
    exact q _ (c.set r) (wipe_set (by simp [Tg.slots]))
  | tp is =>
    cases e <;> simp only [fitTg, Bool.false_eq_true] at h
    obtain ⟨r1, r2, r3⟩ := pgs_ns x h
    refine PG.mono (pg_tup x.calm r1 r2 r3) fun v σ H Q ⟨Z, m, S, σd, d, c, r, σd', e, q⟩ => ?_
    cases d <;> simp only [setTg, reduceCtorEq] at e
    obtain ⟨p, vs, rfl, h1, r4⟩ := r.tupOf
    refine ⟨p, vs, rfl, h1, ?_, gNs_okW (us := is) (fun _ h => h) c r4 e q⟩
    rw [← r4.length]
    exact pg_tg.len_of e
end
/-- a turn's test and item -/
theorem lc_turn {K : PySem.W.Frag} {Z m : List Addr} {S : Sto} {H : Hp} {Q : VK} {σd : Sg} {σ : St} {cond elt : Sg → Sto → R D} {tg : Tg} {x : D} {y : V} {L : Addr} {acc : List D} {accV : List V} {next : List D → Sto → R D} {Nx : Hp → Prop}
    (hL : H L = some (.lst accV)) (hz : L ∉ Z) (hm : L ∉ m) (c : Cf K Z m S (cutH H L) σd σ) (ra : RelDs K Z m S (cutH H L) acc accV) (rx : RelD K Z m S (cutH H L) x y)
    (w : WR K Z (RelD K Z) m S (cutH H L) Q (match setTg tg x (wipeD σd tg.slots) with
      | none => .stuck
      | some σ1 => ((cond σ1 S).bind tr).bind fun c S1 => match c with
        | true => (elt σ1 S1).bind fun y S2 => if acc.length < lim then next (acc ++ [y]) S2 else .stuck
        | false => next acc S1))
    (hN : ∀ m' S' H' acc' accV', H' L = some (.lst accV') → L ∉ m' → Cf K Z m' S' (cutH H' L) σd σ → RelDs K Z m' S' (cutH H' L) acc' accV' → Step m S (cutH H L) m' S' (cutH H' L) → WR K Z (RelD K Z) m' S' (cutH H' L) Q (next acc' S') → Nx H') :
    RGw K tg y (wipe σ tg.slots) H fun σ2 H2 => wipe σ2 tg.slots = wipe σ tg.slots ∧ RT K cond σ2 H2 fun b H3 =>
      if b = true then RE K elt σ2 H3 fun y H4 => ∃ acc, H4 L = some (.lst acc) ∧ acc.length < sizeLine ∧ Nx (upd H4 L (.lst (acc ++ [y]))) else Nx H3 := by
  have cz : Cf K (L :: Z) m S H (wipeD σd tg.slots) (wipe σ tg.slots) := (c.wipe tg.slots).hide hL hm
  have st0 : Step m S (cutH H L) m S H := Step.uncut
  have rxz : RelD K (L :: Z) m S H x y := (RelD.hide cutH_same rx).mono st0
  split at w
  · exact w.elim
  · rename_i σ1 e1
    refine ⟨L :: Z, m, S, _, x, cz, rxz, σ1, e1, fun σ' c' hw => ⟨by rw [hw, wipe_wipe fun _ h => h], ?_⟩⟩
    have nown : ∀ {m' S'}, RelS K (L :: Z) m' S' H → L ∉ m' := fun r => (r.hid L List.mem_cons_self).2
    -- the test
    refine ⟨L :: Z, m, S, σ1, c', ?_⟩
    generalize hb : (cond σ1 S).bind tr = rb at w
    cases rb with
    | ex _ _ _ => exact w.elim
    | stuck => exact w.elim
    | ok b S1 =>
      intro m1 H1 b' st1 rs1 eb
      have eb : b = b' := eb
      subst eb
      have nO : ¬ Own m S L := fun ⟨i, xs, q, _⟩ => hm (mem_of_get q)
      obtain ⟨hL1, nO1⟩ := st1.keep L _ hL nO
      have hm1 : L ∉ m1 := (rs1.hid L List.mem_cons_self).2
      have w1 := WR.step w (st1.cut (z := L))
      simp only [R.bind_ok] at w1
      have c1 : Cf K Z m1 S1 (cutH H1 L) σd σ := c.step st1.cut (rs1.show hz)
      have ra1 : RelDs K Z m1 S1 (cutH H1 L) acc accV := ra.mono st1.cut
      cases b with
      | false =>
        rw [if_neg Bool.false_ne_true]
        exact hN m1 S1 H1 acc accV hL1 hm1 c1 ra1 st1.cut w1
      | true =>
        rw [if_pos rfl]
        refine ⟨L :: Z, m1, S1, σ1, c'.step st1 rs1, ?_⟩
        simp only at w1
        generalize he : elt σ1 S1 = re at w1
        cases re with
        | ex _ _ _ => exact w1.elim
        | stuck => exact w1.elim
        | ok d S2 =>
          intro m2 H2 v2 st2 rs2 r2
          obtain ⟨hL2, nO2⟩ := st2.keep L _ hL1 nO1
          have hm2 : L ∉ m2 := (rs2.hid L List.mem_cons_self).2
          have w2 := WR.step w1 (st2.cut (z := L))
          simp only [R.bind_ok] at w2
          split at w2
          · rename_i hl
            refine ⟨accV, hL2, ?_, ?_⟩
            · rw [← ra.length]; exact lim_lt hl
            · have ec : cutH (upd H2 L (.lst (accV ++ [v2]))) L = cutH H2 L := cutH_upd2
              refine hN m2 S2 _ (acc ++ [d]) (accV ++ [v2]) upd_same hm2 ?_ ?_ ?_ ?_
              · rw [ec]; exact c1.step st2.cut (rs2.show hz)
              · rw [ec]; exact (ra1.mono st2.cut).app (.cons (RelD.free (fun a o ne e => by rw [cutH_ne ne]; exact e) r2) .nil)
              · rw [ec]; exact st1.cut.trans st2.cut
              · rw [ec]; exact w2
          · exact w2.elim
theorem lc_go {K : PySem.W.Frag} {d : D} {v : V} {J : L2.It} (jw : JW K d v J) {Q : VK} {σd : Sg} {σ : St} {cond elt : Sg → Sto → R D} {tg : Tg} {Z m : List Addr} {S : Sto} {H1 : Hp} {n : Nat}
    (c : Cf K Z m S H1 σd σ) (r : RelD K Z m S H1 d v) (w : WR K Z (RelD K Z) m S H1 Q (lcGo d tg σd cond elt n 0 [] S)) :
    ∀ L, H1 L = none → ∃ W : Nat → Nat → Hp → Prop, (∃ m, W 0 m (upd H1 L (.lst []))) ∧ ∀ i m H, W i m H →
      (J.stop i H ∧ Q (.ref L) H) ∨ (J.go i H ∧ ∃ Nx : Hp → Prop, (∀ H', Nx H' → ∃ m', m' < m ∧ W (i + 1) m' H') ∧ ∀ x H', J.yld i H x H' → RGw K tg x (wipe σ tg.slots) H' fun σ2 H2 => wipe σ2 tg.slots = wipe σ tg.slots ∧ RT K cond σ2 H2 fun b H3 =>
        if b = true then RE K elt σ2 H3 fun y H4 => ∃ acc, H4 L = some (.lst acc) ∧ acc.length < sizeLine ∧ Nx (upd H4 L (.lst (acc ++ [y]))) else Nx H3) := by
  intro L hL
  have hz : L ∉ Z := hid_fresh c.s hL
  refine ⟨fun i n H => ∃ m S acc accV, H L = some (.lst accV) ∧ L ∉ m ∧ Cf K Z m S (cutH H L) σd σ ∧ RelD K Z m S (cutH H L) d v ∧ RelDs K Z m S (cutH H L) acc accV ∧ WR K Z (RelD K Z) m S (cutH H L) Q (lcGo d tg σd cond elt n i acc S),
    ⟨n, m, S, [], [], upd_same, fun q => ?_, ?_, ?_, .nil, ?_⟩, ?_⟩
  · obtain ⟨o, e⟩ := c.s.has L q
    rw [hL] at e; cases e
  · rw [cutH_upd hL]; exact c
  · rw [cutH_upd hL]; exact r
  · rw [cutH_upd hL]; exact w
  · rintro i n H ⟨m, S, acc, accV, hLs, hm, c, r, ra, w⟩
    cases n with
    | zero => exact w.elim
    | succ n =>
      have st0 : Step m S (cutH H L) m S H := Step.uncut
      have cz : Cf K (L :: Z) m S H σd σ := c.hide hLs hm
      have rz : RelD K (L :: Z) m S H d v := (RelD.hide cutH_same r).mono st0
      unfold lcGo at w
      split at w
      · exact w.elim
      · rename_i xs ex
        split at w
        · rename_i e0
          refine .inl ⟨jw.stop _ m S H xs i cz.s rz ex e0, ?_⟩
          have nO : ¬ Own m S L := fun ⟨i, xs, q, _⟩ => hm (mem_of_get q)
          have rsZ : RelS K Z m S H := ⟨cz.s.len, cz.s.nd, cz.s.has, fun y hy => cz.s.hid y (List.mem_cons_of_mem _ hy), fun i a xs h1 h2 => by
            obtain ⟨vs, h3, r3⟩ := c.s.obj i a xs h1 h2
            exact ⟨vs, (cutH_some h3).2, r3.mono st0⟩⟩
          exact w m H (.ref L) st0 rsZ (.lv hLs nO hz (ra.mono st0))
        · rename_i x e0
          refine .inr ⟨jw.go _ m S H xs i x cz.s rz ex e0, fun H' => ∃ m S acc accV, H' L = some (.lst accV) ∧ L ∉ m ∧ Cf K Z m S (cutH H' L) σd σ ∧ RelD K Z m S (cutH H' L) d v ∧ RelDs K Z m S (cutH H' L) acc accV ∧ WR K Z (RelD K Z) m S (cutH H' L) Q (lcGo d tg σd cond elt n (i + 1) acc S), fun H' q => ⟨n, Nat.lt_succ_self n, q⟩, fun y H' hy => ?_⟩
          obtain ⟨rfl, _⟩ := jw.yld _ m S H xs i x y H' cz.s rz ex e0 hy
          obtain ⟨_, ry⟩ := jw.yld _ m S H' xs i x y H' cz.s rz ex e0 hy
          have ryc : RelD K Z m S (cutH H' L) x y := RelD.free (fun a o ne e => by rw [cutH_ne ne]; exact e) ry
          exact lc_turn hLs hz hm c ra ryc w fun m' S' H' acc' accV' h1 h2 h3 h4 h5 h6 => ⟨m', S', acc', accV', h1, h2, h3, r.mono h5, h4, h6⟩
theorem lc_rg {K : PySem.W.Frag} {lo : Int} {Q : VK} {σd : Sg} {σ : St} {cond elt : Sg → Sto → R D} {tg : Tg} {Z m : List Addr} {S : Sto} {H1 : Hp} {n : Nat}
    (c : Cf K Z m S H1 σd σ) (w : WR K Z (RelD K Z) m S H1 Q (lcRg tg σd cond elt lo n 0 [] S)) :
    ∀ L, H1 L = none → ∃ W : Nat → Nat → Hp → Prop, (∃ m, W 0 m (upd H1 L (.lst []))) ∧ ∀ i m H, W i m H →
      ((Itr lo n).stop i H ∧ Q (.ref L) H) ∨ ((Itr lo n).go i H ∧ ∃ Nx : Hp → Prop, (∀ H', Nx H' → ∃ m', m' < m ∧ W (i + 1) m' H') ∧ ∀ x H', (Itr lo n).yld i H x H' → RGw K tg x (wipe σ tg.slots) H' fun σ2 H2 => wipe σ2 tg.slots = wipe σ tg.slots ∧ RT K cond σ2 H2 fun b H3 =>
        if b = true then RE K elt σ2 H3 fun y H4 => ∃ acc, H4 L = some (.lst acc) ∧ acc.length < sizeLine ∧ Nx (upd H4 L (.lst (acc ++ [y]))) else Nx H3) := by
  intro L hL
  have hz : L ∉ Z := hid_fresh c.s hL
  refine ⟨fun i k H => i + k = n ∧ ∃ m S acc accV, H L = some (.lst accV) ∧ L ∉ m ∧ Cf K Z m S (cutH H L) σd σ ∧ RelDs K Z m S (cutH H L) acc accV ∧ WR K Z (RelD K Z) m S (cutH H L) Q (lcRg tg σd cond elt lo k i acc S),
    ⟨n, by omega, m, S, [], [], upd_same, fun q => ?_, ?_, .nil, ?_⟩, ?_⟩
  · obtain ⟨o, e⟩ := c.s.has L q
    rw [hL] at e; cases e
  · rw [cutH_upd hL]; exact c
  · rw [cutH_upd hL]; exact w
  · rintro i k H ⟨hk, m, S, acc, accV, hLs, hm, c, ra, w⟩
    have st0 : Step m S (cutH H L) m S H := Step.uncut
    have cz : Cf K (L :: Z) m S H σd σ := c.hide hLs hm
    cases k with
    | zero =>
      refine .inl ⟨by show n ≤ i; omega, ?_⟩
      have nO : ¬ Own m S L := fun ⟨i, xs, q, _⟩ => hm (mem_of_get q)
      have rsZ : RelS K Z m S H := ⟨cz.s.len, cz.s.nd, cz.s.has, fun y hy => cz.s.hid y (List.mem_cons_of_mem _ hy), fun i a xs h1 h2 => by
        obtain ⟨vs, h3, r3⟩ := c.s.obj i a xs h1 h2
        exact ⟨vs, (cutH_some h3).2, r3.mono st0⟩⟩
      exact w m H (.ref L) st0 rsZ (.lv hLs nO hz (ra.mono st0))
    | succ k =>
      unfold lcRg at w
      refine .inr ⟨by show i < n; omega, fun H' => i + 1 + k = n ∧ ∃ m S acc accV, H' L = some (.lst accV) ∧ L ∉ m ∧ Cf K Z m S (cutH H' L) σd σ ∧ RelDs K Z m S (cutH H' L) acc accV ∧ WR K Z (RelD K Z) m S (cutH H' L) Q (lcRg tg σd cond elt lo k (i + 1) acc S), fun H' q => ⟨k, Nat.lt_succ_self k, q⟩, fun y H' hy => ?_⟩
      obtain ⟨rfl, rfl⟩ := hy
      exact lc_turn hLs hz hm c ra (.int _) w fun m' S' H' acc' accV' h1 h2 h3 h4 h5 h6 => ⟨by omega, m', S', acc', accV', h1, h2, h3, h4, h6⟩
end Ev

namespace Ev
open PySem L2
section
variable {T : Prg} {k : Nat} {N : List Str} {sc ws : Scope} {X : Cx}
def SE (T : Prg) (k : Nat) (X : Cx) (ir : E) (e : Expr) : Prop :=
  PE X e (RE X.K (evE (ctxOf T k) ir)) ∧ (ir.tst = true → PT X e (RT X.K (evE (ctxOf T k) ir)) ∧ (ir.isBo = true → PW X e (RT X.K (evE (ctxOf T k) ir))))
theorem se_mk {ir : E} {e : Expr} (h : PE X e (RE X.K (evE (ctxOf T k) ir))) (he : ∀ whole, isTrue e X.env whole = (do let v ← whole; standAt e.pos; holding [v] (truthy v)) := by intro _; rfl) (hb : ir.isBo = false := by rfl) : SE T k X ir e :=
  ⟨h, fun _ => ⟨pt_re h he, fun q => by rw [hb] at q; cases q⟩⟩
theorem gl_of (x : XOk T k N sc ws X) {y : Str} (h : glB sc y = true) : Gl X y ∧ (y == ("__debug__" : Str)) = false := by
  obtain ⟨h1, h2⟩ := glB_of h
  exact ⟨by show X.env.scope.names.lookup y = _; rw [x.sc]; exact h1, h2⟩
theorem no_PE {e : Expr} {t : TE} (h : ∀ σ H Q, ¬ t σ H Q) : PE X e t := ⟨fun _ _ σ H Q _ q => (h σ H Q q).elim⟩
theorem no_RE {f : Sg → Sto → R D} (h : ∀ σ S, f σ S = .stuck) {K : PySem.W.Frag} : ∀ σ H Q, ¬ RE K f σ H Q := fun σ H Q ⟨Z, m, S, σd, c, w⟩ => by rw [h] at w; exact w
theorem units (x : XOk T k N sc ws X) : X.A.units + 65 < cLine := by
  have := x.room.un
  omega
theorem c_var (x : XOk T k N sc ws X) {i : Nat} {y : Str} {p : Pos} (h : fitE N sc ws (.var i) (.Name y p) = true) : SE T k X (.var i) (.Name y p) := by
  simp only [fitE, Bool.and_eq_true, decide_eq_true_eq, Bool.not_eq_true'] at h
  obtain ⟨⟨⟨h1, h2⟩, h3⟩, h4⟩ := h
  refine se_mk (PE.mono (pe_var (i := i) (by rw [x.nN]; exact h1) (by rw [x.sc]; exact visB_of h2) h3 h4) fun σ H Q ⟨Z, m, S, σd, c, w⟩ => ?_)
  unfold evE at w
  split at w
  · rename_i d e
    obtain ⟨v, e2, r⟩ := c.get i d e
    exact ⟨v, e2, WR.here w c.s r⟩
  · exact w.elim
theorem c_glob (x : XOk T k N sc ws X) {z y : Str} {p : Pos} (h : fitE N sc ws (.glob z) (.Name y p) = true) : SE T k X (.glob z) (.Name y p) := by
  simp only [fitE, Bool.and_eq_true, decide_eq_true_eq] at h
  obtain ⟨rfl, h2⟩ := h
  obtain ⟨g1, g2⟩ := gl_of x h2
  cases e : T.con.lookup y with
  | none => exact se_mk (no_PE (no_RE fun σ S => by simp [evE, e]))
  | some d =>
    obtain ⟨u, v, m1, r1, r2⟩ := x.wld.con y d e
    refine se_mk (PE.mono (pe_glob g1 m1 r1 g2) fun σ H Q ⟨Z, m, S, σd, c, w⟩ => ?_)
    simp only [evE, e, ofOpt_some] at w
    exact WR.here w c.s (r2 Z m S H)
theorem boot_bool' : bootBuiltins "bool" = some (.type "bool") := by decide +kernel
theorem boot_int' : bootBuiltins "int" = some (.type "int") := by decide +kernel
theorem boot_str' : bootBuiltins "str" = some (.type "str") := by decide +kernel
theorem boot_list' : bootBuiltins "list" = some (.type "list") := by decide +kernel
theorem boot_tuple' : bootBuiltins "tuple" = some (.type "tuple") := by decide +kernel
theorem c_ty (x : XOk T k N sc ws X) {n : String} {y : Str} {p : Pos} (h : fitE N sc ws (.ty n) (.Name y p) = true) : SE T k X (.ty n) (.Name y p) := by
  simp only [fitE, Bool.and_eq_true, tyOk, Bool.or_eq_true, beq_iff_eq] at h
  obtain ⟨h1, h2⟩ := h
  obtain ⟨g1, g2⟩ := gl_of x h2
  have key : X.mg y = none → bootBuiltins y = some (.type n) → y ≠ "__name__" → SE T k X (.ty n) (.Name y p) := fun a b c => by
    refine se_mk (PE.mono (pe_bltn (v := .ty n) g1 a b rfl c g2) fun σ H Q ⟨Z, m, S, σd, c, w⟩ => ?_)
    simp only [evE] at w
    exact WR.here w c.s (.ty n)
  rcases h1 with (((⟨rfl, rfl⟩ | ⟨rfl, rfl⟩) | ⟨rfl, rfl⟩) | ⟨rfl, rfl⟩) | ⟨rfl, rfl⟩
  · exact key (x.wld.blt .int) boot_int' (by decide +kernel)
  · exact key x.wld.boo boot_bool' (by decide +kernel)
  · exact key (x.wld.blt .str) boot_str' (by decide +kernel)
  · exact key (x.wld.blt .list) boot_list' (by decide +kernel)
  · exact key (x.wld.blt .tuple) boot_tuple' (by decide +kernel)
theorem c_bin (x : XOk T k N sc ws X) {op : BOp} {o : Operator} {a b : E} {ea eb : Expr} {p : Pos} (ho : op.is o = true) (ha : SE T k X a ea) (hb : SE T k X b eb) : SE T k X (.bin op a b) (.BinOp ea o eb p) :=
  se_mk (PE.mono (pe_op (op_binD ho) ha.1 hb.1) fun σ H Q h => re_op (by simpa only [RE, evE] using h))
theorem c_binM (x : XOk T k N sc ws X) {a b : E} {ea eb : Expr} {p : Pos} (ha : SE T k X a ea) (hb : SE T k X b eb) : SE T k X (.binM a b) (.BinOp ea .Add eb p) :=
  se_mk (PE.mono (pe_op op_catM ha.1 hb.1) fun σ H Q h => re_op (by simpa only [RE, evE] using h))
theorem c_neg (x : XOk T k N sc ws X) {a : E} {ea : Expr} {p : Pos} (ha : SE T k X a ea) : SE T k X (.neg a) (.UnaryOp .USub ea p) := by
  refine se_mk (PE.mono (pe_un un_neg ha.1) fun σ H Q ⟨Z, m, S, σd, c, w⟩ => ?_)
  simp only [evE] at w
  refine ⟨Z, m, S, σd, c, WR.bind w fun d S1 m1 H1 v st rs r w1 => ?_⟩
  split at w1
  · cases r
    exact ⟨_, rfl, WR.here w1 rs (.int _)⟩
  · exact w1.elim
theorem c_not (x : XOk T k N sc ws X) {a : E} {ea : Expr} {p : Pos} (ha : SE T k X a ea) : SE T k X (.not a) (.UnaryOp .Not ea p) := by
  refine ⟨PE.mono (pe_not ha.1) fun σ H Q ⟨Z, m, S, σd, c, w⟩ => ?_, fun ht => ⟨PT.mono (pt_not (ha.2 ht).1) fun σ H Q ⟨Z, m, S, σd, c, w⟩ => ?_, fun q => by cases q⟩⟩
  · simp only [evE] at w
    refine ⟨Z, m, S, σd, c, WR.bind w fun d S1 m1 H1 v st rs r w1 => ?_⟩
    split at w1
    · cases r
      exact ⟨_, rfl, WR.here w1 rs (.bl _)⟩
    · exact w1.elim
  · simp only [evE] at w
    refine ⟨Z, m, S, σd, c, ?_⟩
    generalize evE (ctxOf T k) a σd S = ra at w ⊢
    cases ra with
    | ex _ _ _ => exact w.elim
    | stuck => exact w.elim
    | ok d S1 =>
      cases d <;> simp only [R.bind_ok, R.bind_stuck] at w <;> try exact w.elim
      intro m1 H1 b st rs eb
      have eb : _ = b := eb
      subst eb
      exact w m1 H1 _ st rs rfl
theorem WR.bindE {α β γ δ : Type} {K : PySem.W.Frag} {Z m : List Addr} {S : Sto} {H : Hp} {rel : Rel α β} {rel' : Rel γ δ} {Q : δ → Hp → Prop} {Q1 : β → Hp → Prop} {x : R α} {f : α → Sto → R γ} (h : WR K Z rel' m S H Q (x.bind f))
    (k : ∀ a S1 m1 H1 b, x = .ok a S1 → Step m S H m1 S1 H1 → RelS K Z m1 S1 H1 → rel m1 S1 H1 a b → WR K Z rel' m1 S1 H1 Q (f a S1) → Q1 b H1) : WR K Z rel m S H Q1 x := by
  cases x with
  | ok a S1 => exact fun m1 H1 b st rs r => k a S1 m1 H1 b rfl st rs r (WR.step h st)
  | ex _ _ _ => exact h
  | stuck => exact h
theorem cmp_bl {op : COp} {a b d : D} {S S' : Sto} (e : cmpD op a b S = .ok d S') : ∃ c, d = .bl c ∧ S' = S := by
  unfold cmpD at e
  generalize cmpO op a b S = o at e
  cases o with
  | none => simp at e
  | some c =>
    simp only [ofOpt_some, R.bind_ok] at e
    cases e
    exact ⟨c, rfl, rfl⟩
theorem bind_ok_of {α β : Type} {x : R α} {f : α → Sto → R β} {b : β} {S : Sto} (e : x.bind f = .ok b S) : ∃ a S1, x = .ok a S1 ∧ f a S1 = .ok b S := by
  cases x with
  | ok a S1 => exact ⟨a, S1, rfl, e⟩
  | ex _ _ _ => cases e
  | stuck => cases e
/-- a run whose values are bools: as a test -/
theorem wr_test {K : PySem.W.Frag} {Z m : List Addr} {S : Sto} {H : Hp} {Q : Bool → Hp → Prop} {r : R D} (hb : ∀ d S', r = .ok d S' → ∃ c, d = .bl c) (w : WR K Z eqRel m S H Q (r.bind tr)) : WR K Z (RelD K Z) m S H (fun y H' => ∃ k, y = V.bl k ∧ Q k H') r := by
  refine WR.bindE w fun d S1 m1 H1 v e st rs r w1 => ?_
  obtain ⟨c, rfl⟩ := hb d S1 e
  cases r
  exact ⟨c, rfl, WR.here (b := c) w1 rs rfl⟩
theorem c_cmp (x : XOk T k N sc ws X) {op : COp} {o : CmpOp} {a b : E} {ea eb : Expr} {p : Pos} (ho : op.is o = true) (hm : behindInMarks o eb = false) (ha : SE T k X a ea) (hb : SE T k X b eb) : SE T k X (.cmp op a b) (.Compare ea [o] [eb] p) := by
  refine ⟨PE.mono (pe_cmpR (op_cmpD (units x) ho) ha.1 hb.1 hm) fun σ H Q h => re_op (by simpa only [RE, evE] using h), fun ht => ⟨PT.mono (pt_cmpR (op_cmpD (units x) ho) ha.1 hb.1 hm) fun σ H Q ⟨Z, m, S, σd, c, w⟩ => ?_, fun q => by cases q⟩⟩
  refine re_op (f := cmpD op) ⟨Z, m, S, σd, c, ?_⟩
  have w' := wr_test (fun d S' e => ?_) w
  · simpa only [evE] using w'
  · simp only [evE] at e
    obtain ⟨_, _, _, e⟩ := bind_ok_of e
    obtain ⟨_, _, _, e⟩ := bind_ok_of e
    obtain ⟨c, h, _⟩ := cmp_bl e
    exact ⟨c, h⟩
theorem re_chain {op op2 : COp} {a b c : E} {K : PySem.W.Frag} {σ : St} {H : Hp} {Q : VK} (h : RE K (evE (ctxOf T k) (.chain op op2 a b c)) σ H Q) :
    tChain (rD K (cmpD op)) (rD K (cmpD op2)) (RE K (evE (ctxOf T k) a)) (RE K (evE (ctxOf T k) b)) (RE K (evE (ctxOf T k) c)) σ H Q := by
  obtain ⟨Z, m, S, σd, cf, w⟩ := h
  simp only [evE] at w
  refine ⟨Z, m, S, σd, cf, WR.bind w fun x S1 m1 H1 vx st1 rs1 rx w1 => ?_⟩
  refine ⟨Z, m1, S1, σd, cf.step st1 rs1, WR.bind w1 fun y S2 m2 H2 vy st2 rs2 ry w2 => ?_⟩
  refine ⟨Z, m2, S2, x, y, rs2, rx.mono st2, ry, WR.bindE w2 fun d S3 m3 H3 v e st3 rs3 r w3 => ?_⟩
  obtain ⟨kb, rfl, rfl⟩ := cmp_bl e
  cases r
  refine ⟨kb, rfl, ?_⟩
  cases kb with
  | false =>
    rw [if_neg Bool.false_ne_true]
    exact WR.here w3 rs3 (.bl _)
  | true =>
    rw [if_pos rfl]
    refine ⟨Z, m3, _, σd, (cf.step st1 rs1).step (st2.trans st3) rs3, WR.bind w3 fun z S4 m4 H4 vz st4 rs4 rz w4 => ?_⟩
    exact ⟨Z, m4, S4, y, z, rs4, ry.mono (st3.trans st4), rz, w4⟩
theorem c_chain (x : XOk T k N sc ws X) {op op2 : COp} {o o2 : CmpOp} {a b c : E} {ea eb ec : Expr} {p : Pos} (ho : op.is o = true) (ho2 : op2.is o2 = true) (hm : lastMarks [o, o2] [eb, ec] = false) (ha : SE T k X a ea) (hb : SE T k X b eb) (hc : SE T k X c ec) :
    SE T k X (.chain op op2 a b c) (.Compare ea [o, o2] [eb, ec] p) := by
  refine ⟨PE.mono (pe_chain (op_cmpD (units x) ho) (op_cmpD (units x) ho2) ha.1 hb.1 hc.1 hm) fun σ H Q h => re_chain h,
    fun ht => ⟨PT.mono (pt_chain (op_cmpD (units x) ho) (op_cmpD (units x) ho2) ha.1 hb.1 hc.1 hm) fun σ H Q ⟨Z, m, S, σd, c, w⟩ => re_chain ⟨Z, m, S, σd, c, wr_test (fun d S' e => ?_) w⟩, fun q => by cases q⟩⟩
  simp only [evE] at e
  obtain ⟨_, _, _, e⟩ := bind_ok_of e
  obtain ⟨_, _, _, e⟩ := bind_ok_of e
  obtain ⟨_, _, h1, e⟩ := bind_ok_of e
  obtain ⟨kb, rfl, rfl⟩ := cmp_bl h1
  cases kb with
  | false => cases e; exact ⟨_, rfl⟩
  | true =>
    simp only at e
    obtain ⟨_, _, _, e⟩ := bind_ok_of e
    obtain ⟨c, h, _⟩ := cmp_bl e
    exact ⟨c, h⟩
theorem c_and1 (x : XOk T k N sc ws X) {a : E} {ea : Expr} {p : Pos} (ha : SE T k X a ea) : SE T k X (.and1 a) (.BoolOp .And [ea] p) := by
  refine ⟨PE.mono (pe_one ha.1) fun σ H Q h => by simpa only [RE, evE] using h, fun ht => ?_⟩
  have w : PW X (.BoolOp .And [ea] p) (RT X.K (evE (ctxOf T k) (.and1 a))) := PW.mono (pw_and1 (ha.2 ht).1) fun σ H Q h => by simpa only [RT, evE] using h
  exact ⟨w.pt, fun _ => w⟩
theorem c_or1 (x : XOk T k N sc ws X) {a : E} {ea : Expr} {p : Pos} (ha : SE T k X a ea) : SE T k X (.or1 a) (.BoolOp .Or [ea] p) := by
  refine ⟨PE.mono (pe_one ha.1) fun σ H Q h => by simpa only [RE, evE] using h, fun ht => ?_⟩
  have w : PW X (.BoolOp .Or [ea] p) (RT X.K (evE (ctxOf T k) (.or1 a))) := PW.mono (pw_or1 (ha.2 ht).1) fun σ H Q h => by simpa only [RT, evE] using h
  exact ⟨w.pt, fun _ => w⟩
theorem c_and2 (x : XOk T k N sc ws X) {a b : E} {ea eb : Expr} {r : List Expr} {p : Pos} (hbo : b.isBo = true) (ha : SE T k X a ea) (hb : SE T k X b (.BoolOp .And (eb :: r) p)) : SE T k X (.and2 a b) (.BoolOp .And (ea :: eb :: r) p) := by
  refine ⟨PE.mono (pe_and ha.1 hb.1) fun σ H Q ⟨Z, m, S, σd, c, w⟩ => ?_, fun ht => ?_⟩
  · simp only [evE] at w
    refine ⟨Z, m, S, σd, c, WR.bind w fun d S1 m1 H1 v st rs r w1 => ?_⟩
    split at w1
    · cases r
      exact ⟨true, rfl, by rw [if_pos rfl]; exact ⟨Z, m1, S1, σd, c.step st rs, w1⟩⟩
    · cases r
      exact ⟨false, rfl, by rw [if_neg Bool.false_ne_true]; exact WR.here w1 rs (.bl _)⟩
    · exact w1.elim
  · simp only [E.tst, Bool.and_eq_true] at ht
    have w : PW X (.BoolOp .And (ea :: eb :: r) p) (RT X.K (evE (ctxOf T k) (.and2 a b))) := PW.mono (pw_and (ha.2 ht.1).1 ((hb.2 ht.2).2 hbo)) fun σ H Q ⟨Z, m, S, σd, c, w⟩ => by
      refine ⟨Z, m, S, σd, c, ?_⟩
      simp only [evE] at w
      generalize evE (ctxOf T k) a σd S = ra at w ⊢
      cases ra with
      | ex _ _ _ => exact w.elim
      | stuck => exact w.elim
      | ok d S1 =>
        cases d <;> simp only [R.bind_ok, R.bind_stuck] at w <;> try exact w.elim
        rename_i bb
        intro m1 H1 b' st rs eb'
        have eb' : bb = b' := eb'
        subst eb'
        cases bb with
        | true =>
          simp only [if_true] at w ⊢
          exact ⟨Z, m1, S1, σd, c.step st rs, WR.step w st⟩
        | false =>
          simp only [Bool.false_eq_true, if_false] at w ⊢
          exact w m1 H1 false st rs rfl
    exact ⟨w.pt, fun _ => w⟩
theorem c_or2 (x : XOk T k N sc ws X) {a b : E} {ea eb : Expr} {r : List Expr} {p : Pos} (hbo : b.isBo = true) (ha : SE T k X a ea) (hb : SE T k X b (.BoolOp .Or (eb :: r) p)) : SE T k X (.or2 a b) (.BoolOp .Or (ea :: eb :: r) p) := by
  refine ⟨PE.mono (pe_or ha.1 hb.1) fun σ H Q ⟨Z, m, S, σd, c, w⟩ => ?_, fun ht => ?_⟩
  · simp only [evE] at w
    refine ⟨Z, m, S, σd, c, WR.bind w fun d S1 m1 H1 v st rs r w1 => ?_⟩
    split at w1
    · cases r
      exact ⟨true, rfl, by rw [if_pos rfl]; exact WR.here w1 rs (.bl _)⟩
    · cases r
      exact ⟨false, rfl, by rw [if_neg Bool.false_ne_true]; exact ⟨Z, m1, S1, σd, c.step st rs, w1⟩⟩
    · exact w1.elim
  · simp only [E.tst, Bool.and_eq_true] at ht
    have w : PW X (.BoolOp .Or (ea :: eb :: r) p) (RT X.K (evE (ctxOf T k) (.or2 a b))) := PW.mono (pw_or (ha.2 ht.1).1 ((hb.2 ht.2).2 hbo)) fun σ H Q ⟨Z, m, S, σd, c, w⟩ => by
      refine ⟨Z, m, S, σd, c, ?_⟩
      simp only [evE] at w
      generalize evE (ctxOf T k) a σd S = ra at w ⊢
      cases ra with
      | ex _ _ _ => exact w.elim
      | stuck => exact w.elim
      | ok d S1 =>
        cases d <;> simp only [R.bind_ok, R.bind_stuck] at w <;> try exact w.elim
        rename_i bb
        intro m1 H1 b' st rs eb'
        have eb' : bb = b' := eb'
        subst eb'
        cases bb with
        | false =>
          simp only [Bool.false_eq_true, if_false] at w ⊢
          exact ⟨Z, m1, S1, σd, c.step st rs, WR.step w st⟩
        | true =>
          simp only [if_true] at w ⊢
          exact w m1 H1 true st rs rfl
    exact ⟨w.pt, fun _ => w⟩
theorem c_ife (x : XOk T k N sc ws X) {t a b : E} {et ea eb : Expr} {p : Pos} (ht : PT X et (RT X.K (evE (ctxOf T k) t))) (ha : SE T k X a ea) (hb : SE T k X b eb) : SE T k X (.ife t a b) (.IfExp et ea eb p) := by
  refine ⟨PE.mono (pe_ifExp ht ha.1 hb.1) fun σ H Q ⟨Z, m, S, σd, c, w⟩ => ?_, fun q => by cases q⟩
  simp only [evE] at w
  refine ⟨Z, m, S, σd, c, WR.bind w fun d S1 m1 H1 v st rs r w1 => ?_⟩
  have r : d = v := r
  subst r
  cases d with
  | true => rw [if_pos rfl]; exact ⟨Z, m1, S1, σd, c.step st rs, w1⟩
  | false => rw [if_neg Bool.false_ne_true]; exact ⟨Z, m1, S1, σd, c.step st rs, w1⟩
/-! ### arguments -/
theorem pa_mono_cons {ir : E} {irs : Es} {e : Expr} {es : List Expr} (h : fitE N sc ws ir e = true) (he : PE X e (RE X.K (evE (ctxOf T k) ir))) (hs : PA X es (RA X.K (evEs (ctxOf T k) irs))) : PA X (e :: es) (RA X.K (evEs (ctxOf T k) (.cons ir irs))) := by
  refine PA.mono (pa_cons he hs (star_of h)) fun σ H Q ⟨Z, m, S, σd, c, w⟩ => ?_
  simp only [evEs] at w
  refine ⟨Z, m, S, σd, c, WR.bind w fun d S1 m1 H1 v st rs r w1 => ?_⟩
  refine ⟨Z, m1, S1, σd, c.step st rs, WR.bind w1 fun ds S2 m2 H2 vs st2 rs2 r2 w2 => ?_⟩
  exact WR.here w2 rs2 (.cons (r.mono st2) r2)
theorem c_tup (x : XOk T k N sc ws X) {es : Es} {ees : List Expr} {n : Nat} {p : Pos} (h : PA X ees (RA X.K (evEs (ctxOf T k) es))) : SE T k X (.tup es) (.Tuple ees n p) := by
  refine se_mk (PE.mono (pe_tup h) fun σ H Q ⟨Z, m, S, σd, c, w⟩ => ?_)
  simp only [evE] at w
  refine ⟨Z, m, S, σd, c, WR.bind w fun ds S1 m1 H1 vs st rs r w1 => ?_⟩
  split at w1
  · rename_i hl
    exact ⟨by rw [← r.length]; exact lim_le hl, fun l hl => WR.newT w1 rs r hl⟩
  · exact w1.elim
theorem c_lst (x : XOk T k N sc ws X) {es : Es} {ees : List Expr} {p : Pos} (h : PA X ees (RA X.K (evEs (ctxOf T k) es))) : SE T k X (.lst es) (.List ees p) := by
  refine se_mk (PE.mono (pe_lst h) fun σ H Q ⟨Z, m, S, σd, c, w⟩ => ?_)
  simp only [evE] at w
  refine ⟨Z, m, S, σd, c, WR.bind w fun ds S1 m1 H1 vs st rs r w1 => ?_⟩
  split at w1
  · rename_i hl
    exact ⟨by rw [← r.length]; exact lim_le hl, fun l hl => WR.newL w1 rs r hl⟩
  · exact w1.elim
theorem c_lstM (x : XOk T k N sc ws X) {es : Es} {ees : List Expr} {p : Pos} (h : PA X ees (RA X.K (evEs (ctxOf T k) es))) : SE T k X (.lstM es) (.List ees p) := by
  refine se_mk (PE.mono (pe_lst h) fun σ H Q ⟨Z, m, S, σd, c, w⟩ => ?_)
  simp only [evE] at w
  refine ⟨Z, m, S, σd, c, WR.bind w fun ds S1 m1 H1 vs st rs r w1 => ?_⟩
  split at w1
  · rename_i hl
    exact ⟨by rw [← r.length]; exact lim_le hl, fun l hl => WR.newO w1 rs r hl⟩
  · exact w1.elim
theorem c_ix (x : XOk T k N sc ws X) {a b : E} {ea eb : Expr} {p : Pos} (hn : notSl eb = true) (ha : SE T k X a ea) (hb : SE T k X b eb) : SE T k X (.ix a b) (.Subscript ea eb p) :=
  se_mk (PE.mono (pe_ix ix_D ha.1 hb.1 (fun o i => by cases eb <;> first | rfl | (simp [notSl] at hn; done))) fun σ H Q h => re_op (by simpa only [RE, evE] using h))
theorem po_E {ir : E} {l : Option Expr} (h : match l with | none => ir.isNop = true | some e => ir.isNop = false ∧ PE X e (RE X.K (evE (ctxOf T k) ir))) : PO X l (RO X.K fun σ => evPart ir.isNop (evE (ctxOf T k) ir σ)) := by
  cases l with
  | none =>
    refine PO.mono po_none fun σ H Q ⟨Z, m, S, σd, c, w⟩ => ?_
    have h : ir.isNop = true := h
    rw [h] at w
    exact WR.here (b := none) w c.s rfl
  | some e =>
    obtain ⟨h1, h2⟩ := h
    refine PO.mono (po_some h2) fun σ H Q ⟨Z, m, S, σd, c, w⟩ => ?_
    rw [h1] at w
    simp only [evPart] at w
    refine ⟨Z, m, S, σd, c, WR.bind w fun d S1 m1 H1 v st rs r w1 => ?_⟩
    split at w1
    · cases r
      exact ⟨_, rfl, WR.here (b := some _) w1 rs rfl⟩
    · exact w1.elim
theorem c_sl (x : XOk T k N sc ws X) {a lo hi : E} {ea : Expr} {l h : Option Expr} {p p2 : Pos} (ha : SE T k X a ea) (hl : PO X l (RO X.K fun σ => evPart lo.isNop (evE (ctxOf T k) lo σ))) (hh : PO X h (RO X.K fun σ => evPart hi.isNop (evE (ctxOf T k) hi σ))) : SE T k X (.sl a lo hi) (.Subscript ea (.Slice l h none p2) p) := by
  refine se_mk (PE.mono (pe_slice sl_D ha.1 hl hh) fun σ H Q ⟨Z, m, S, σd, c, w⟩ => ?_)
  simp only [evE] at w
  refine ⟨Z, m, S, σd, c, WR.bind w fun d S1 m1 H1 v st rs r w1 => ?_⟩
  refine ⟨Z, m1, S1, σd, c.step st rs, WR.bind w1 fun l S2 m2 H2 l' st2 rs2 e2 w2 => ?_⟩
  refine ⟨Z, m2, S2, σd, (c.step st rs).step st2 rs2, WR.bind w2 fun h S3 m3 H3 h' st3 rs3 e3 w3 => ?_⟩
  have e2 : l = l' := e2
  have e3 : h = h' := e3
  subst e2 e3
  exact ⟨Z, m3, S3, d, rs3, r.mono (st2.trans st3), w3⟩
theorem pe_rev {X : Cx} {x : Str} {px : Pos} {st : Expr} {te : TE} {pos p2 : Pos} (he : PE X (.Name x px) te) (hst : ∀ pins s σ H, L2.Inv X pins σ H s → wpAny (model X.prog X.w) X.A (evalPart (some st) X.env) (fun u s' => L2.Inv X pins σ H s' ∧ IsPart u (some (-1))) X.xe s) :
    PE X (.Subscript (.Name x px) (.Slice none none (some st) p2) pos) fun σ H Q => te σ H fun v H1 => ∃ a xs, v = V.ref a ∧ SqL X.K H1 a xs ∧ ∀ p, H1 p = none → Q (V.ref p) (upd H1 p (HO.lst xs.reverse)) := by
  refine ⟨fun pins s σ H Q I t => PyProof.Rows.Subscript_ (thn (he.run pins s σ H _ I t) ?_)⟩
  rintro o s1 ⟨v, H1, I1, rv, a, xs, rfl, hq, hQ⟩
  refine wpAny_Slice ?_
  have en : ∀ env, evalPart none env = pure Value.none := fun env => rfl
  rw [en]
  refine wpAny_pure ?_
  refine wpAny_pure ?_
  refine thn (hst pins s1 σ H1 I1) ?_
  rintro u s4 ⟨I4, hp⟩
  have rv : o = .ref a := by cases rv; rfl
  subst rv
  obtain ⟨its, hv, ⟨ob, n, g1, g2, g3, g4⟩, hsz⟩ := I4.list hq
  have I5 := I4.kept (h' := s4.heap.push { cls := Value.type "slice", data := Data.fields #[Value.none, Value.none, u] }) (t' := s4.toks) (fun b o e => Heap.get?_push_of_some _ e)
  have hl : its.length = xs.length := hv.length.symm
  refine PyProof.Rows.tail_of_ItemOn (ops := [Value.ref a, Value.ref s4.heap.objs.size]) ⟨"list", _, rfl, ⟨ob, Heap.get?_push_of_some _ g1, g2⟩, ?_⟩ rfl (fun r => rfl)
  refine wpAny_getItem_list_slice (items := its.toArray) (lo := none) (hi := none) (st := some (-1)) ⟨ob, Heap.get?_push_of_some _ g1, g2, n, g4⟩ ⟨_, Heap.get?_push_size _ rfl, rfl, rfl⟩ .none .none hp (by decide) ?_ (by simpa [hl] using hsz)
  rw [W.krv_pick]
  exact ⟨.ref _, _, I5.lnew (ys := xs.reverse) (its := its.reverse) hv.reverse (by simpa using hsz), rfl, hQ _ I5.fresh⟩
theorem st_m1 {X : Cx} {kd : Nat} {p3 p4 : Pos} : ∀ pins s σ H, L2.Inv X pins σ H s → wpAny (model X.prog X.w) X.A (evalPart (some (.UnaryOp .USub (.Constant (.int 1) kd p3) p4)) X.env) (fun u s' => L2.Inv X pins σ H s' ∧ IsPart u (some (-1))) X.xe s := by
  intro pins s σ H I
  refine thn ((po_some (pe_un un_neg (pe_int (X := X) (i := 1) (j := kd) (pos := p3)))).run pins s σ H (fun o H' => o = some (-1) ∧ H' = H) I ⟨_, rfl, _, rfl, rfl, rfl⟩) ?_
  rintro u s' ⟨o, H', I', hp, rfl, rfl⟩
  exact ⟨I', hp⟩
theorem c_rev (x : XOk T k N sc ws X) {a : E} {ea es : Expr} {p : Pos} (hn : isNm ea = true) (hr : isRv es = true) (ha : SE T k X a ea) : SE T k X (.rev a) (.Subscript ea es p) := by
  obtain ⟨y, py, rfl⟩ : ∃ y py, ea = .Name y py := by
    cases ea <;> first | exact ⟨_, _, rfl⟩ | (simp [isNm] at hn; done)
  obtain ⟨st, p2, rfl, hm⟩ : ∃ st p2, es = .Slice none none (some st) p2 ∧ isM1 st = true := by
    unfold isRv at hr
    split at hr
    · exact ⟨_, _, rfl, hr⟩
    · cases hr
  obtain ⟨kd, p3, p4, rfl⟩ : ∃ kd p3 p4, st = .UnaryOp .USub (.Constant (.int 1) kd p3) p4 := by
    unfold isM1 at hm
    split at hm
    · exact ⟨_, _, _, rfl⟩
    · cases hm
  refine se_mk (PE.mono (pe_rev ha.1 st_m1) fun σ H Q ⟨Z, m, S, σd, c, w⟩ => ?_)
  simp only [evE] at w
  refine ⟨Z, m, S, σd, c, WR.bind w fun d S1 m1 H1 v st rs r w1 => ?_⟩
  unfold revD at w1
  split at w1
  · rename_i e
    obtain ⟨q, vs, rfl, h1, r1⟩ := r.listOf rs e
    exact ⟨q, vs, rfl, SqL.of h1, fun l hl => w1.newL rs r1.reverse hl⟩
  · exact w1.elim
/-! ### calls -/
theorem c_call (x : XOk T k N sc ws X) {y f : Str} {es : Es} {e : Expr} {ees : List Expr} {p p2 : Pos} (hg : glB sc y = true) (hf : fitEs N sc ws es (e :: ees) = true) (h : PA X (e :: ees) (RA X.K (evEs (ctxOf T k) es))) : SE T k X (.call y f es) (.Call (.Name y p) (e :: ees) [] p2) := by
  obtain ⟨g1, g2⟩ := gl_of x hg
  have dead : (∀ ds S, callN T k y f ds S = .stuck) → SE T k X (.call y f es) (.Call (.Name y p) (e :: ees) [] p2) := fun this => by
    refine se_mk ⟨fun pins s σ H Q I ⟨Z, m, S, σd, c, w⟩ => ?_⟩
    simp only [evE] at w
    generalize evEs (ctxOf T k) es σd S = r at w
    cases r with
    | ok _ _ => simp only [R.bind_ok, this] at w; exact w.elim
    | ex _ _ _ => exact w.elim
    | stuck => exact w.elim
  cases ef : T.fns.lookup f with
  | none =>
    refine dead fun ds S => ?_
    cases k with
    | zero => rfl
    | succ k => simp [callN, ef]
  | some F =>
    by_cases hy : y = F.base
    · subst hy
      obtain ⟨a, fd, m1, kp, b, G⟩ := x.wld.fns f F ef
      obtain ⟨ir, irs, rfl⟩ : ∃ ir irs, es = .cons ir irs := by
        cases es with
        | nil => simp [fitEs] at hf
        | cons a b => exact ⟨a, b, rfl⟩
      simp only [fitEs, Bool.and_eq_true] at hf
      refine se_mk (PE.mono (pe_call G x.room g1 m1 kp b .nil pass0 h g2 (star_of hf.1) (stars_of hf.2).1) fun σ H Q ⟨Z, m, S, σd, c, w⟩ => ?_)
      simp only [evE] at w
      refine ⟨Z, m, S, σd, c, WR.bind w fun ds S1 m1 H1 vs st rs r w1 => ?_⟩
      rw [List.append_nil]
      exact ⟨Z, m1, S1, ds, rs, r, w1⟩
    · refine dead fun ds S => ?_
      cases k with
      | zero => rfl
      | succ k => simp [callN, ef, hy]
theorem re_cb {es : Es} {g : List D → Sto → R D} {K : PySem.W.Frag} {σ : St} {H : Hp} {Q : VK} (h : RE K (fun σ S => (evEs (ctxOf T k) es σ S).bind g) σ H Q) : tCB (rC K g) (RA K (evEs (ctxOf T k) es)) σ H Q := by
  obtain ⟨Z, m, S, σd, c, w⟩ := h
  exact ⟨Z, m, S, σd, c, WR.bind w fun ds S1 m1 H1 vs st rs r w1 => ⟨Z, m1, S1, ds, rs, r, w1⟩⟩
theorem c_blt (x : XOk T k N sc ws X) {f : Blt} {es : Es} {e : Expr} {ees : List Expr} {p p2 : Pos} (hg : glB sc f.nm = true) (hf : fitEs N sc ws es (e :: ees) = true) (h : PA X (e :: ees) (RA X.K (evEs (ctxOf T k) es))) : SE T k X (.blt f es) (.Call (.Name f.nm p) (e :: ees) [] p2) := by
  obtain ⟨g1, g2⟩ := gl_of x hg
  obtain ⟨ir, irs, rfl⟩ : ∃ ir irs, es = .cons ir irs := by
    cases es with
    | nil => simp [fitEs] at hf
    | cons a b => exact ⟨a, b, rfl⟩
  simp only [fitEs, Bool.and_eq_true] at hf
  have sB : ∀ {id : String}, bootBuiltins f.nm = some (.builtin id) → f.nm ≠ "__name__" → CallR X (.builtin id) (rC X.K (bltD f)) → SE T k X (.blt f (.cons ir irs)) (.Call (.Name f.nm p) (e :: ees) [] p2) := fun hb hn hc =>
    se_mk (PE.mono (pe_callB hc g1 (x.wld.blt f) hb h hn g2 (star_of hf.1) (stars_of hf.2).1) fun σ H Q q => re_cb (by simpa only [RE, evE] using q))
  have sT : ∀ {id : String}, bootBuiltins f.nm = some (.type id) → f.nm ≠ "__name__" → CallR X (.type id) (rC X.K (bltD f)) → SE T k X (.blt f (.cons ir irs)) (.Call (.Name f.nm p) (e :: ees) [] p2) := fun hb hn hc =>
    se_mk (PE.mono (pe_callTy hc g1 (x.wld.blt f) hb h hn g2 (star_of hf.1) (stars_of hf.2).1) fun σ H Q q => re_cb (by simpa only [RE, evE] using q))
  cases f with
  | len => exact sB (by decide +kernel) (by decide +kernel) cb_len
  | abs => exact sB (by decide +kernel) (by decide +kernel) cb_abs
  | int => exact sT (by decide +kernel) (by decide +kernel) cb_int
  | list => exact sT (by decide +kernel) (by decide +kernel) cb_list
  | tuple => exact sT (by decide +kernel) (by decide +kernel) cb_tuple
  | str => exact sT (by decide +kernel) (by decide +kernel) cb_str
  | max => exact sB (by decide +kernel) (by decide +kernel) (cb_max x.calm)
  | min => exact sB (by decide +kernel) (by decide +kernel) (cb_min x.calm)
  | sum => exact sB (by decide +kernel) (by decide +kernel) (cb_sum x.calm)
  | any => exact sB (by decide +kernel) (by decide +kernel) (cb_any x.calm)
  | all => exact sB (by decide +kernel) (by decide +kernel) (cb_all x.calm)
  | isi => exact sB (by decide +kernel) (by decide +kernel) cb_isi
  | sorted => exact sB (by decide +kernel) (by decide +kernel) cb_sorted
theorem c_bltM (x : XOk T k N sc ws X) {es : Es} {e : Expr} {ees : List Expr} {p p2 : Pos} (hg : glB sc Blt.list.nm = true) (hf : fitEs N sc ws es (e :: ees) = true) (h : PA X (e :: ees) (RA X.K (evEs (ctxOf T k) es))) : SE T k X (.bltM .list es) (.Call (.Name Blt.list.nm p) (e :: ees) [] p2) := by
  obtain ⟨g1, g2⟩ := gl_of x hg
  obtain ⟨ir, irs, rfl⟩ : ∃ ir irs, es = .cons ir irs := by
    cases es with
    | nil => simp [fitEs] at hf
    | cons a b => exact ⟨a, b, rfl⟩
  simp only [fitEs, Bool.and_eq_true] at hf
  exact se_mk (PE.mono (pe_callTy cb_listM g1 (x.wld.blt .list) (by decide +kernel) h (by decide +kernel) g2 (star_of hf.1) (stars_of hf.2).1) fun σ H Q q => re_cb (by simpa only [RE, evE] using q))
theorem c_meth (x : XOk T k N sc ws X) {mt : Mth} {a : E} {es : Es} {ea e : Expr} {ees : List Expr} {ap cp : Pos} (hn : isBs ea = true) (hl : (ap.endLine == cp.line) = true) (h29 : (e :: ees).length < 29) (ha : SE T k X a ea)
    (hf : fitEs N sc ws es (e :: ees) = true) (h : PA X (e :: ees) (RA X.K (evEs (ctxOf T k) es))) : SE T k X (.meth mt a es) (.Call (.Attribute ea mt.nm ap) (e :: ees) [] cp) := by
  obtain ⟨ir, irs, rfl⟩ : ∃ ir irs, es = .cons ir irs := by
    cases es with
    | nil => simp [fitEs] at hf
    | cons a b => exact ⟨a, b, rfl⟩
  have hf0 := hf
  simp only [fitEs, Bool.and_eq_true] at hf
  have hbase : ∀ n, attributeBase ea n X.env (eval ea X.env) = eval ea X.env := fun n => by
    cases ea <;> first | rfl | (simp [isBs] at hn; done)
  have hfew : ((backTo cp (starEach (e :: ees) X.env)).all (fun x => !x.1) && (backToKw cp (keywordEach [] X.env)).all (fun x => x.1.isSome)
      && decide ((e :: ees).length + ([] : List Keyword).length + (if ([] : List Keyword).isEmpty then 0 else 1) < 30)) = true := by
    rw [(stars_of (env := X.env) (pos := cp) hf0).2]
    have : (e :: ees).length + ([] : List Keyword).length + (if ([] : List Keyword).isEmpty then 0 else 1) < 30 := by
      simp only [List.isEmpty_nil, if_true, List.length_nil]
      omega
    rw [decide_eq_true this]
    rfl
  have fin : ∀ {id : String}, PySem.Slot "list" mt.nm id → typeOf (.builtin id) = pure (.type "method_descriptor") → mt.id = id → SE T k X (.meth mt a (.cons ir irs)) (.Call (.Attribute ea mt.nm ap) (e :: ees) [] cp) := fun hs ht hi => by
    subst hi
    refine se_mk (PE.mono (pe_bm PySem.F.plainAttrs_list hs ht (mtD mt) ha.1 h (hbase _) hfew hl (star_of hf.1) (stars_of hf.2).1) fun σ H Q ⟨Z, m, S, σd, c, w⟩ => ?_)
    simp only [evE] at w
    refine ⟨Z, m, S, σd, c, WR.bind w fun o S1 m1 H1 v st rs r w1 => ?_⟩
    split at w1
    · rename_i ys e1
      obtain ⟨p, vs, rfl, h1, _⟩ := r.listOf rs e1
      have ty : tyV X.K "list" (.ref p) H1 := .inl ⟨rfl, vs, SqL.of h1⟩
      exact ⟨ty, Z, m1, S1, σd, c.step st rs, WR.bind w1 fun ds S2 m2 H2 vs st2 rs2 r2 w2 => ⟨Z, m2, S2, o, ds, rs2, r.mono st2, r2, w2⟩⟩
    · exact w1.elim
  cases mt with
  | append => exact fin PySem.F.slot_list_append PySem.F.type_list_append rfl
  | insert => exact fin PySem.F.slot_list_insert PySem.F.type_list_insert rfl
  | pop => exact fin PySem.F.slot_list_pop PySem.F.type_list_pop rfl
end
end Ev

namespace Ev
open PySem L2
section
variable {T : Prg} {k : Nat} {N : List Str} {sc ws : Scope} {X : Cx}
theorem xok_blk (x : XOk T k N sc ws X) {scope : Scope} (s : Shared) (H : Hp) (C : Addr) (cl : List (Str × Addr)) (fp : List Addr) : XOk T k N (relS scope sc) scope (X.blk s H scope (compEnvC scope cl C X.env) fp) where
  wld := x.wld
  room := x.room
  xe := rfl
  calm := x.calm
  nN := x.nN
  nd := x.nd
  sc := by
    show relS scope X.env.scope = relS scope sc
    rw [x.sc]
  fn := fun y h => by
    show (scope.names.lookup y == some NameKind.cell) = true
    rw [h]
    rfl
theorem PTs.mono {X : Cx} {e : List Expr} {t t' : TT} (h : PTs X e t) (k : ∀ σ H Q, t' σ H Q → t σ H Q) : PTs X e t' := ⟨fun pins s σ H Q I q => h.run pins s σ H Q I (k σ H Q q)⟩
theorem rt_true {K : PySem.W.Frag} {σ : St} {H : Hp} {Q : Bool → Hp → Prop} (h : RT K (evE (ctxOf T k) (.cbl true)) σ H Q) : tYes σ H Q := by
  obtain ⟨Z, m, S, σd, c, w⟩ := h
  simp only [evE, R.bind_ok] at w
  exact WR.here (b := true) w c.s rfl
/-- a comprehension's source -/
def SI (T : Prg) (k : Nat) (X : Cx) (it : It) (tg eit : Expr) : Prop := ∃ wi, PI X tg eit wi ∧
  (∀ {elt cond : E} {t : Tg} {σ : St} {H : Hp} {Q : VK}, RE X.K (evE (ctxOf T k) (.lc elt t it cond)) σ H Q → tLc wi (RGw X.K t) (RT X.K (evE (ctxOf T k) cond)) (RE X.K (evE (ctxOf T k) elt)) t.slots σ H Q)
theorem si_seq (x : XOk T k N sc ws X) {e : E} {tg ee : Expr} (h : PE X ee (RE X.K (evE (ctxOf T k) e))) : SI T k X (.seq e) tg ee := by
  refine ⟨_, pi_seq h, fun {elt cond t σ H Q} q => ?_⟩
  obtain ⟨Z, m, S, σd, c, w⟩ := q
  simp only [evE] at w
  refine ⟨Z, m, S, σd, c, WR.bind w fun d S1 m1 H1 v st rs r w1 => ?_⟩
  split at w1
  · rename_i xs ex
    exact jw_of (R := fun J H1 => ∀ L, H1 L = none → ∃ W : Nat → Nat → Hp → Prop, (∃ m, W 0 m (upd H1 L (.lst []))) ∧ ∀ i m H, W i m H →
      (J.stop i H ∧ Q (.ref L) H) ∨ (J.go i H ∧ ∃ Nx : Hp → Prop, (∀ H', Nx H' → ∃ m', m' < m ∧ W (i + 1) m' H') ∧ ∀ x H', J.yld i H x H' → RGw X.K t x (wipe σ t.slots) H' fun σ2 H2 => wipe σ2 t.slots = wipe σ t.slots ∧ RT X.K (evE (ctxOf T k) cond) σ2 H2 fun b H3 =>
        if b = true then RE X.K (evE (ctxOf T k) elt) σ2 H3 fun y H4 => ∃ acc, H4 L = some (.lst acc) ∧ acc.length < sizeLine ∧ Nx (upd H4 L (.lst (acc ++ [y]))) else Nx H3)) rs r ex fun J jw => lc_go jw (c.step st rs) r w1
  · exact w1.elim
theorem rngOk_of {i : Int} (h : rngOk i = true) : -(2 ^ 62) ≤ i ∧ i < 2 ^ 62 := by
  unfold rngOk at h
  simpa using h
theorem si_rng1 (x : XOk T k N sc ws X) {e : E} {tg ee : Expr} {p p2 : Pos} (hg : glB sc "range" = true) (hf : fitE N sc ws e ee = true) (h : PE X ee (RE X.K (evE (ctxOf T k) e))) : SI T k X (.rng1 e) tg (.Call (.Name "range" p) [ee] [] p2) := by
  refine ⟨_, pi_range1 (gl_of x hg).1 x.wld.rng (pa_cons h pa_nil (star_of hf)) (star_of hf), fun {elt cond t σ H Q} q => ?_⟩
  obtain ⟨Z, m, S, σd, c, w⟩ := q
  simp only [evE] at w
  refine ⟨Z, m, S, σd, c, WR.bind w fun d S1 m1 H1 v st rs r w1 => ?_⟩
  split at w1
  · split at w1
    · rename_i j hj
      cases r
      obtain ⟨h1, h2⟩ := rngOk_of hj
      exact ⟨j, rfl, h1, h2, lc_rg (c.step st rs) w1⟩
    · exact w1.elim
  · exact w1.elim
theorem si_rng2 (x : XOk T k N sc ws X) {e f : E} {tg ee ef : Expr} {p p2 : Pos} (hg : glB sc "range" = true) (hf : fitE N sc ws e ee = true) (hf2 : fitE N sc ws f ef = true) (h : PE X ee (RE X.K (evE (ctxOf T k) e))) (h2 : PE X ef (RE X.K (evE (ctxOf T k) f))) : SI T k X (.rng2 e f) tg (.Call (.Name "range" p) [ee, ef] [] p2) := by
  refine ⟨_, pi_range2 (gl_of x hg).1 x.wld.rng (pa_cons h (pa_cons h2 pa_nil (star_of hf2)) (star_of hf)) (by rw [star_of hf, star_of hf2]; rfl) (star_of hf2), fun {elt cond t σ H Q} q => ?_⟩
  obtain ⟨Z, m, S, σd, c, w⟩ := q
  simp only [evE] at w
  refine ⟨Z, m, S, σd, c, WR.bind w fun d S1 m1 H1 v st rs r w1 => ?_⟩
  refine ⟨Z, m1, S1, σd, c.step st rs, WR.bind w1 fun d2 S2 m2 H2 v2 st2 rs2 r2 w2 => ?_⟩
  split at w2
  · split at w2
    · rename_i i j hj
      rw [Bool.and_eq_true] at hj
      cases r; cases r2
      obtain ⟨h1, h2⟩ := rngOk_of hj.1
      obtain ⟨h3, h4⟩ := rngOk_of hj.2
      exact ⟨i, j, rfl, ⟨h1, h2, h3, h4⟩, lc_rg ((c.step st rs).step st2 rs2) w2⟩
    · exact w2.elim
  · exact w2.elim
structure LcP (T : Prg) (k : Nat) (X : Cx) (elt : E) (tg : Tg) (it : It) (cond : E) (eelt etg eit : Expr) (ifs : List Expr) (scope : Scope) (own : List (Str × Nat)) : Prop where
  si : SI T k X it etg eit
  ok : BlkOk X.N X.env.scope scope own
  slots : own.map (·.2) = tg.slots
  hg : ∀ (s : Shared) (H : Hp) (C : Addr) (cl : List (Str × Addr)) (fp : List Addr), PG (X.blk s H scope (compEnvC scope cl C X.env) fp) etg (RGw X.K tg)
  ht : ∀ (s : Shared) (H : Hp) (C : Addr) (cl : List (Str × Addr)) (fp : List Addr), PTs (X.blk s H scope (compEnvC scope cl C X.env) fp) ifs (RT X.K (evE (ctxOf T k) cond))
  he : ∀ (s : Shared) (H : Hp) (C : Addr) (cl : List (Str × Addr)) (fp : List Addr), PE (X.blk s H scope (compEnvC scope cl C X.env) fp) eelt (RE X.K (evE (ctxOf T k) elt))
  hs : ∀ x, foldedSetIterable eit X.env x = pure x
theorem c_lc (x : XOk T k N sc ws X) {elt cond : E} {tg : Tg} {it : It} {eelt etg eit : Expr} {ifs : List Expr} {scope : Scope} {own : List (Str × Nat)} {p : Pos} (L : LcP T k X elt tg it cond eelt etg eit ifs scope own) : SE T k X (.lc elt tg it cond) (.ListComp eelt [⟨etg, eit, ifs, 0⟩] scope p) := by
  obtain ⟨wi, h1, h2⟩ := L.si
  refine se_mk (PE.mono (pe_lc x.calm (by rw [x.nN]; exact x.nd) h1 L.ok L.hg L.ht L.he L.hs) fun σ H Q q => ?_)
  rw [L.slots]
  exact h2 q
theorem c_frz {a : E} {e : Expr} (h : SE T k X a e) : SE T k X (.frz a) e := by
  refine ⟨PE.mono h.1 fun σ H Q ⟨Z, m, S, σd, c, w⟩ => ?_, fun q => by cases q⟩
  simp only [evE] at w
  refine ⟨Z, m, S, σd, c, WR.bind w fun d S1 m1 H1 v st rs r w1 => ?_⟩
  unfold frzD at w1
  split at w1
  · split at w1
    · rename_i n _ xs hx
      cases r with
      | @ref _ a hm =>
        obtain ⟨vs, h1, r1⟩ := rs.obj n _ _ hm hx
        refine w1 m1 H1 _ step_dead (rels_dead rs) (.lv h1 (not_own_dead rs hm) (fun q => (rs.hid _ q).2 (mem_of_get hm)) (r1.mono step_dead))
    · exact w1.elim
  · exact w1.elim
theorem PSE (x : XOk T k N sc ws X) {ir : E} {e : Expr} (h : SE T k X ir e) : PE X e (RE X.K (evE (ctxOf T k) ir)) := h.1
end
/-! ### every expression that fits is read by the evaluator -/
section
variable {T : Prg} {k : Nat}
mutual
theorem snd_E : ∀ (ir : E) {N : List Str} {sc ws : Scope} {X : Cx} {e : Expr}, XOk T k N sc ws X → fitE N sc ws ir e = true → SE T k X ir e
  | .var i, N, sc, ws, X, e, x, h => by
    cases e <;> simp only [fitE, Bool.false_eq_true] at h
    exact c_var x (by simpa only [fitE] using h)
  | .glob y, N, sc, ws, X, e, x, h => by
    cases e <;> simp only [fitE, Bool.false_eq_true] at h
    exact c_glob x (by simpa only [fitE] using h)
  | .ty n, N, sc, ws, X, e, x, h => by
    cases e <;> simp only [fitE, Bool.false_eq_true] at h
    exact c_ty x (by simpa only [fitE] using h)
  | .cint i, N, sc, ws, X, e, x, h => by
    cases e <;> try (simp only [fitE, Bool.false_eq_true] at h; done)
    rename_i cc kk pp
    cases cc <;> simp only [fitE, Bool.false_eq_true, decide_eq_true_eq] at h
    subst h
    refine se_mk (PE.mono pe_int fun σ H Q ⟨Z, m, S, σd, c, w⟩ => ?_)
    simp only [evE] at w
    exact WR.here w c.s (.int _)
  | .cstr i, N, sc, ws, X, e, x, h => by
    cases e <;> try (simp only [fitE, Bool.false_eq_true] at h; done)
    rename_i cc kk pp
    cases cc <;> simp only [fitE, Bool.false_eq_true, decide_eq_true_eq] at h
    subst h
    refine se_mk (PE.mono pe_str fun σ H Q ⟨Z, m, S, σd, c, w⟩ => ?_)
    simp only [evE] at w
    exact WR.here w c.s (.str _)
  | .cbl i, N, sc, ws, X, e, x, h => by
    cases e <;> try (simp only [fitE, Bool.false_eq_true] at h; done)
    rename_i cc kk pp
    cases cc <;> simp only [fitE, Bool.false_eq_true, decide_eq_true_eq] at h
    subst h
    refine se_mk (PE.mono pe_bl fun σ H Q ⟨Z, m, S, σd, c, w⟩ => ?_)
    simp only [evE] at w
    exact WR.here w c.s (.bl _)
  | .cnon, N, sc, ws, X, e, x, h => by
    cases e <;> try (simp only [fitE, Bool.false_eq_true] at h; done)
    rename_i cc kk pp
    cases cc <;> simp only [fitE, Bool.false_eq_true] at h
    refine se_mk (PE.mono pe_non fun σ H Q ⟨Z, m, S, σd, c, w⟩ => ?_)
    simp only [evE] at w
    exact WR.here w c.s .non
  | .bin op a b, N, sc, ws, X, e, x, h => by
    cases e <;> simp only [fitE, Bool.false_eq_true, Bool.and_eq_true] at h
    exact c_bin x h.1.1 (snd_E a x h.1.2) (snd_E b x h.2)
  | .neg a, N, sc, ws, X, e, x, h => by
    cases e <;> try (simp only [fitE, Bool.false_eq_true] at h; done)
    rename_i o _ _
    cases o <;> simp only [fitE, Bool.false_eq_true] at h
    exact c_neg x (snd_E a x h)
  | .not a, N, sc, ws, X, e, x, h => by
    cases e <;> try (simp only [fitE, Bool.false_eq_true] at h; done)
    rename_i o _ _
    cases o <;> simp only [fitE, Bool.false_eq_true] at h
    exact c_not x (snd_E a x h)
  | .cmp op a b, N, sc, ws, X, e, x, h => by
    cases e <;> try (simp only [fitE, Bool.false_eq_true] at h; done)
    rename_i l os bs p
    rcases os with _ | ⟨o, _ | ⟨o2, os⟩⟩ <;> rcases bs with _ | ⟨b1, _ | ⟨b2, bs⟩⟩ <;> simp only [fitE, Bool.false_eq_true, Bool.and_eq_true, Bool.not_eq_true'] at h
    exact c_cmp x h.1.1.1 h.2 (snd_E a x h.1.1.2) (snd_E b x h.1.2)
  | .chain op op2 a b c, N, sc, ws, X, e, x, h => by
    cases e <;> try (simp only [fitE, Bool.false_eq_true] at h; done)
    rename_i l os bs p
    rcases os with _ | ⟨o, _ | ⟨o2, _ | ⟨o3, os⟩⟩⟩ <;> rcases bs with _ | ⟨b1, _ | ⟨b2, _ | ⟨b3, bs⟩⟩⟩ <;> simp only [fitE, Bool.false_eq_true, Bool.and_eq_true, Bool.not_eq_true'] at h
    exact c_chain x h.1.1.1.1.1 h.1.1.1.1.2 h.2 (snd_E a x h.1.1.1.2) (snd_E b x h.1.1.2) (snd_E c x h.1.2)
  | .and1 a, N, sc, ws, X, e, x, h => by
    cases e <;> try (simp only [fitE, Bool.false_eq_true] at h; done)
    rename_i o es p
    cases o <;> rcases es with _ | ⟨e1, _ | ⟨e2, es⟩⟩ <;> simp only [fitE, Bool.false_eq_true] at h
    exact c_and1 x (snd_E a x h)
  | .and2 a b, N, sc, ws, X, e, x, h => by
    cases e <;> try (simp only [fitE, Bool.false_eq_true] at h; done)
    rename_i o es p
    cases o <;> rcases es with _ | ⟨e1, _ | ⟨e2, es⟩⟩ <;> simp only [fitE, Bool.false_eq_true, Bool.and_eq_true] at h
    exact c_and2 x h.1.2 (snd_E a x h.1.1) (snd_E b x h.2)
  | .or1 a, N, sc, ws, X, e, x, h => by
    cases e <;> try (simp only [fitE, Bool.false_eq_true] at h; done)
    rename_i o es p
    cases o <;> rcases es with _ | ⟨e1, _ | ⟨e2, es⟩⟩ <;> simp only [fitE, Bool.false_eq_true] at h
    exact c_or1 x (snd_E a x h)
  | .or2 a b, N, sc, ws, X, e, x, h => by
    cases e <;> try (simp only [fitE, Bool.false_eq_true] at h; done)
    rename_i o es p
    cases o <;> rcases es with _ | ⟨e1, _ | ⟨e2, es⟩⟩ <;> simp only [fitE, Bool.false_eq_true, Bool.and_eq_true] at h
    exact c_or2 x h.1.2 (snd_E a x h.1.1) (snd_E b x h.2)
  | .ife t a b, N, sc, ws, X, e, x, h => by
    cases e <;> simp only [fitE, Bool.false_eq_true, Bool.and_eq_true] at h
    exact c_ife x ((snd_E t x h.1.1.2).2 h.1.1.1).1 (snd_E a x h.1.2) (snd_E b x h.2)
  | .tup es, N, sc, ws, X, e, x, h => by
    cases e <;> simp only [fitE, Bool.false_eq_true] at h
    exact c_tup x (snd_Es es x h)
  | .lst es, N, sc, ws, X, e, x, h => by
    cases e <;> simp only [fitE, Bool.false_eq_true] at h
    exact c_lst x (snd_Es es x h)
  | .lstM es, N, sc, ws, X, e, x, h => by
    cases e <;> simp only [fitE, Bool.false_eq_true] at h
    exact c_lstM x (snd_Es es x h)
  | .ix a i, N, sc, ws, X, e, x, h => by
    cases e <;> simp only [fitE, Bool.false_eq_true, Bool.and_eq_true] at h
    exact c_ix x h.2 (snd_E a x h.1.1) (snd_E i x h.1.2)
  | .sl a lo hi, N, sc, ws, X, e, x, h => by
    cases e <;> try (simp only [fitE, Bool.false_eq_true] at h; done)
    rename_i v s p
    cases s <;> try (simp only [fitE, Bool.false_eq_true] at h; done)
    rename_i l u st p2
    cases st <;> simp only [fitE, Bool.false_eq_true, Bool.and_eq_true] at h
    refine c_sl x (snd_E a x h.1.1) (po_E ?_) (po_E ?_)
    · cases l with
      | none => exact h.1.2
      | some e =>
        have h := h.1.2
        simp only [Bool.and_eq_true, Bool.not_eq_true'] at h
        exact ⟨h.1, (snd_E lo x h.2).1⟩
    · cases u with
      | none => exact h.2
      | some e =>
        have h := h.2
        simp only [Bool.and_eq_true, Bool.not_eq_true'] at h
        exact ⟨h.1, (snd_E hi x h.2).1⟩
  | .nop, N, sc, ws, X, e, x, h => by simp [fitE] at h
  | .call y0 f es, N, sc, ws, X, e, x, h => by
    cases e <;> try (simp only [fitE, Bool.false_eq_true] at h; done)
    rename_i fn args kws p
    cases fn <;> try (simp only [fitE, Bool.false_eq_true] at h; done)
    rename_i y p1
    rcases args with _ | ⟨e1, ees⟩ <;> rcases kws with _ | ⟨k1, ks⟩ <;> simp only [fitE, Bool.false_eq_true, Bool.and_eq_true, decide_eq_true_eq] at h
    obtain ⟨⟨rfl, h1⟩, h2⟩ := h
    exact c_call x h1 h2 (snd_Es es x h2)
  | .blt f es, N, sc, ws, X, e, x, h => by
    cases e <;> try (simp only [fitE, Bool.false_eq_true] at h; done)
    rename_i fn args kws p
    cases fn <;> try (simp only [fitE, Bool.false_eq_true] at h; done)
    rename_i y p1
    rcases args with _ | ⟨e1, ees⟩ <;> rcases kws with _ | ⟨k1, ks⟩ <;> simp only [fitE, Bool.false_eq_true, Bool.and_eq_true, decide_eq_true_eq] at h
    obtain ⟨⟨rfl, h1⟩, h2⟩ := h
    exact c_blt x h1 h2 (snd_Es es x h2)
  | .bltM f es, N, sc, ws, X, e, x, h => by
    cases e <;> try (simp only [fitE, Bool.false_eq_true] at h; done)
    rename_i fn args kws p
    cases fn <;> try (simp only [fitE, Bool.false_eq_true] at h; done)
    rename_i y p1
    rcases args with _ | ⟨e1, ees⟩ <;> rcases kws with _ | ⟨k1, ks⟩ <;> simp only [fitE, Bool.false_eq_true, Bool.and_eq_true, decide_eq_true_eq] at h
    obtain ⟨⟨⟨rfl, h1⟩, h2⟩, rfl⟩ := h
    exact c_bltM x h1 h2 (snd_Es es x h2)
  | .meth mt a es, N, sc, ws, X, e, x, h => by
    cases e <;> try (simp only [fitE, Bool.false_eq_true] at h; done)
    rename_i fn args kws p
    cases fn <;> try (simp only [fitE, Bool.false_eq_true] at h; done)
    rename_i y nm p1
    rcases args with _ | ⟨e1, ees⟩ <;> rcases kws with _ | ⟨k1, ks⟩ <;> simp only [fitE, Bool.false_eq_true, Bool.and_eq_true, decide_eq_true_eq] at h
    obtain ⟨⟨⟨⟨⟨rfl, h1⟩, h2⟩, h3⟩, h4⟩, h5⟩ := h
    exact c_meth x h1 h4 h5 (snd_E a x h2) h3 (snd_Es es x h3)
  | .lc elt tg it cond, N, sc, ws, X, e, x, h => by
    cases e <;> try (simp only [fitE, Bool.false_eq_true] at h; done)
    rename_i eelt gens scope p
    rcases gens with _ | ⟨⟨etg, eit, ifs, asy⟩, _ | ⟨g2, gs⟩⟩ <;> simp only [fitE, Bool.false_eq_true, Bool.and_eq_true, decide_eq_true_eq] at h
    obtain ⟨⟨⟨⟨⟨⟨rfl, h1⟩, h2⟩, h3⟩, h4⟩, h5⟩, h6⟩ := h
    refine c_lc x (own := ownOf tg etg) ⟨?_, by rw [x.nN, x.sc]; exact blkOk_by h2, h1, fun s H C cl fp => pg_tgW (xok_blk x s H C cl fp) h3, fun s H C cl fp => ?_, fun s H C cl fp => (snd_E elt (xok_blk x s H C cl fp) h6).1, foldedI_of h4⟩
    · exact snd_It it x h4
    · rcases ifs with _ | ⟨c, _ | ⟨c2, cs⟩⟩
      · have : cond = .cbl true := by
          simp only at h5
          split at h5
          · rfl
          · cases h5
        subst this
        exact PTs.mono pts_nil fun σ H Q q => rt_true q
      · simp only [Bool.and_eq_true] at h5
        exact pts_one ((snd_E cond (xok_blk x s H C cl fp) h5.2).2 h5.1).1
      · simp at h5
  | .binM a b, N, sc, ws, X, e, x, h => by
    cases e <;> try (simp only [fitE, Bool.false_eq_true] at h; done)
    rename_i l o r p
    cases o <;> simp only [fitE, Bool.false_eq_true, Bool.and_eq_true] at h
    exact c_binM x (snd_E a x h.1) (snd_E b x h.2)
  | .rev a, N, sc, ws, X, e, x, h => by
    cases e <;> simp only [fitE, Bool.false_eq_true, Bool.and_eq_true] at h
    exact c_rev x h.1.1 h.1.2 (snd_E a x h.2)
  | .frz a, N, sc, ws, X, e, x, h => by
    simp only [fitE] at h
    exact c_frz (snd_E a x h)
theorem snd_Es : ∀ (irs : Es) {N : List Str} {sc ws : Scope} {X : Cx} {es : List Expr}, XOk T k N sc ws X → fitEs N sc ws irs es = true → PA X es (RA X.K (evEs (ctxOf T k) irs))
  | .nil, N, sc, ws, X, es, x, h => by
    cases es <;> simp only [fitEs, Bool.false_eq_true] at h
    refine PA.mono pa_nil fun σ H Q ⟨Z, m, S, σd, c, w⟩ => ?_
    simp only [evEs] at w
    exact WR.here w c.s .nil
  | .cons ir irs, N, sc, ws, X, es, x, h => by
    cases es <;> simp only [fitEs, Bool.false_eq_true, Bool.and_eq_true] at h
    exact pa_mono_cons h.1 (snd_E ir x h.1).1 (snd_Es irs x h.2)
theorem snd_It : ∀ (it : It) {N : List Str} {sc ws : Scope} {X : Cx} {tg e : Expr}, XOk T k N sc ws X → fitIt N sc ws it e = true → SI T k X it tg e
  | .seq a, N, sc, ws, X, tg, e, x, h => by
    simp only [fitIt] at h
    exact si_seq x (snd_E a x h).1
  | .rng1 a, N, sc, ws, X, tg, e, x, h => by
    cases e <;> try (simp only [fitIt, Bool.false_eq_true] at h; done)
    rename_i fn args kws p
    cases fn <;> try (simp only [fitIt, Bool.false_eq_true] at h; done)
    rename_i y p1
    rcases args with _ | ⟨e1, _ | ⟨e2, ees⟩⟩ <;> rcases kws with _ | ⟨k1, ks⟩ <;> simp only [fitIt, Bool.false_eq_true, Bool.and_eq_true, decide_eq_true_eq] at h
    obtain ⟨⟨rfl, h1⟩, h2⟩ := h
    exact si_rng1 x h1 h2 (snd_E a x h2).1
  | .rng2 a b, N, sc, ws, X, tg, e, x, h => by
    cases e <;> try (simp only [fitIt, Bool.false_eq_true] at h; done)
    rename_i fn args kws p
    cases fn <;> try (simp only [fitIt, Bool.false_eq_true] at h; done)
    rename_i y p1
    rcases args with _ | ⟨e1, _ | ⟨e2, _ | ⟨e3, ees⟩⟩⟩ <;> rcases kws with _ | ⟨k1, ks⟩ <;> simp only [fitIt, Bool.false_eq_true, Bool.and_eq_true, decide_eq_true_eq] at h
    obtain ⟨⟨⟨rfl, h1⟩, h2⟩, h3⟩ := h
    exact si_rng2 x h1 h2 h3 (snd_E a x h2).1 (snd_E b x h3).1
end
end
end Ev

namespace Ev
open PySem L2
/-! ### statements -/
inductive FlV where | nx (σ : St) | rt (v : V) | bk (σ : St) | ct (σ : St)
def relF (K : PySem.W.Frag) (Z : List Addr) : Rel Fl FlV := fun m S H a b => match a, b with
  | .nx σd, .nx σ => Cf K Z m S H σd σ
  | .rt d, .rt v => RelD K Z m S H d v
  | .bk σd, .bk σ => Cf K Z m S H σd σ
  | .ct σd, .ct σ => Cf K Z m S H σd σ
  | _, _ => False
def endOf (D : Ends) : FlV → Hp → Prop
  | .nx σ, H => D.nx σ H
  | .rt v, H => D.rt v H
  | .bk σ, H => D.bk σ H
  | .ct σ, H => D.ct σ H
def RS (K : PySem.W.Frag) (f : Sg → Sto → R Fl) : TS := fun D σ H => ∃ Z m S σd, Cf K Z m S H σd σ ∧ WR K Z (relF K Z) m S H (endOf D) (f σd S)
section
variable {T : Prg} {k : Nat} {N : List Str} {sc : Scope} {X : Cx}
theorem hr_nx {K : PySem.W.Frag} {Z m : List Addr} {S : Sto} {H : Hp} {D : Ends} {σd : Sg} {σ : St} (w : WR K Z (relF K Z) m S H (endOf D) (.ok (.nx σd) S)) (rs : RelS K Z m S H) (c : Cf K Z m S H σd σ) : D.nx σ H := WR.here (b := FlV.nx σ) w rs c
theorem hr_bk {K : PySem.W.Frag} {Z m : List Addr} {S : Sto} {H : Hp} {D : Ends} {σd : Sg} {σ : St} (w : WR K Z (relF K Z) m S H (endOf D) (.ok (.bk σd) S)) (rs : RelS K Z m S H) (c : Cf K Z m S H σd σ) : D.bk σ H := WR.here (b := FlV.bk σ) w rs c
theorem hr_ct {K : PySem.W.Frag} {Z m : List Addr} {S : Sto} {H : Hp} {D : Ends} {σd : Sg} {σ : St} (w : WR K Z (relF K Z) m S H (endOf D) (.ok (.ct σd) S)) (rs : RelS K Z m S H) (c : Cf K Z m S H σd σ) : D.ct σ H := WR.here (b := FlV.ct σ) w rs c
theorem hr_rt {K : PySem.W.Frag} {Z m : List Addr} {S : Sto} {H : Hp} {D : Ends} {d : Ev.D} {v : V} (w : WR K Z (relF K Z) m S H (endOf D) (.ok (.rt d) S)) (rs : RelS K Z m S H) (c : RelD K Z m S H d v) : D.rt v H := WR.here (b := FlV.rt v) w rs c
theorem ps_seq {f g : Sg → Sto → R Fl} {K : PySem.W.Frag} {D : Ends} {σ : St} {H : Hp} (h : RS K (fun σ S => (f σ S).bind (seqK g)) D σ H) : tSeq (RS K f) (RS K g) D σ H := by
  obtain ⟨Z, m, S, σd, c, w⟩ := h
  refine ⟨Z, m, S, σd, c, WR.bind w fun r S1 m1 H1 b st rs rel w1 => ?_⟩
  cases r <;> cases b <;> try exact rel.elim
  · exact ⟨Z, m1, S1, _, rel, w1⟩
  · exact hr_rt (D := D) w1 rs rel
  · exact hr_bk (D := D) w1 rs rel
  · exact hr_ct (D := D) w1 rs rel
/-- one turn of a loop's body -/
theorem for_body {K : PySem.W.Frag} {Z m : List Addr} {S : Sto} {H : Hp} {D : Ends} {σ1 : Sg} {σ' : St} {body : Sg → Sto → R Fl} {next : Sg → Sto → R Fl} {Nx : St → Hp → Prop} (c : Cf K Z m S H σ1 σ')
    (w : WR K Z (relF K Z) m S H (endOf D) ((body σ1 S).bind (loopK next)))
    (hN : ∀ m1 S1 H1 σ2 σ, Step m S H m1 S1 H1 → Cf K Z m1 S1 H1 σ2 σ → WR K Z (relF K Z) m1 S1 H1 (endOf D) (next σ2 S1) → Nx σ H1) : RS K body { D with nx := Nx, ct := Nx, bk := D.nx } σ' H := by
  refine ⟨Z, m, S, σ1, c, WR.bind w fun r S1 m1 H1 b st rs rel w1 => ?_⟩
  cases r <;> cases b <;> try exact rel.elim
  · exact hN m1 S1 H1 _ _ st rel w1
  · exact hr_rt (D := D) w1 rs rel
  · exact hr_nx (D := D) w1 rs rel
  · exact hN m1 S1 H1 _ _ st rel w1
theorem for_go {K : PySem.W.Frag} {d : D} {v : V} {J : L2.It} (jw : JW K d v J) {D : Ends} {tg : Tg} {body : Sg → Sto → R Fl} {Z m : List Addr} {S : Sto} {H : Hp} {σd : Sg} {σ : St} {n : Nat}
    (c : Cf K Z m S H σd σ) (r : RelD K Z m S H d v) (w : WR K Z (relF K Z) m S H (endOf D) (forGo d tg body n 0 σd S)) :
    ∃ W : Nat → Nat → St → Hp → Prop, (∃ m, W 0 m σ H) ∧ ∀ i m σ H, W i m σ H →
      (J.stop i H ∧ D.nx σ H) ∨ (J.go i H ∧ ∃ N : St → Hp → Prop, (∀ σ' H', N σ' H' → ∃ m', m' < m ∧ W (i + 1) m' σ' H') ∧ ∀ x H', J.yld i H x H' → RG K tg x σ H' fun σ2 H2 => RS K body { D with nx := N, ct := N, bk := D.nx } σ2 H2) := by
  refine ⟨fun i n σ H => ∃ m S σd, Cf K Z m S H σd σ ∧ RelD K Z m S H d v ∧ WR K Z (relF K Z) m S H (endOf D) (forGo d tg body n i σd S), ⟨n, m, S, σd, c, r, w⟩, ?_⟩
  rintro i n σ H ⟨m, S, σd, c, r, w⟩
  cases n with
  | zero => exact w.elim
  | succ n =>
    unfold forGo at w
    split at w
    · exact w.elim
    · rename_i xs ex
      split at w
      · rename_i e0
        exact .inl ⟨jw.stop _ m S H xs i c.s r ex e0, hr_nx w c.s c⟩
      · rename_i x e0
        refine .inr ⟨jw.go _ m S H xs i x c.s r ex e0, fun σ H => ∃ m S σd, Cf K Z m S H σd σ ∧ RelD K Z m S H d v ∧ WR K Z (relF K Z) m S H (endOf D) (forGo d tg body n (i + 1) σd S), fun σ' H' q => ⟨n, Nat.lt_succ_self n, q⟩, fun y H' hy => ?_⟩
        obtain ⟨rfl, ry⟩ := jw.yld _ m S H xs i x y H' c.s r ex e0 hy
        split at w
        · exact w.elim
        · rename_i σ1 e1
          exact ⟨Z, m, S, σd, x, c, ry, σ1, e1, fun σ' c' => for_body c' w fun m1 S1 H1 σ2 σ st c1 w1 => ⟨m1, S1, σ2, c1, r.mono st, w1⟩⟩
theorem for_rg {K : PySem.W.Frag} {lo : Int} {D : Ends} {tg : Tg} {body : Sg → Sto → R Fl} {Z m : List Addr} {S : Sto} {H : Hp} {σd : Sg} {σ : St} {n : Nat}
    (c : Cf K Z m S H σd σ) (w : WR K Z (relF K Z) m S H (endOf D) (forRg tg body lo n 0 σd S)) :
    ∃ W : Nat → Nat → St → Hp → Prop, (∃ m, W 0 m σ H) ∧ ∀ i m σ H, W i m σ H →
      ((Itr lo n).stop i H ∧ D.nx σ H) ∨ ((Itr lo n).go i H ∧ ∃ N : St → Hp → Prop, (∀ σ' H', N σ' H' → ∃ m', m' < m ∧ W (i + 1) m' σ' H') ∧ ∀ x H', (Itr lo n).yld i H x H' → RG K tg x σ H' fun σ2 H2 => RS K body { D with nx := N, ct := N, bk := D.nx } σ2 H2) := by
  refine ⟨fun i k σ H => i + k = n ∧ ∃ m S σd, Cf K Z m S H σd σ ∧ WR K Z (relF K Z) m S H (endOf D) (forRg tg body lo k i σd S), ⟨n, by omega, m, S, σd, c, w⟩, ?_⟩
  rintro i k σ H ⟨hk, m, S, σd, c, w⟩
  cases k with
  | zero => exact .inl ⟨by show n ≤ i; omega, hr_nx w c.s c⟩
  | succ k =>
    unfold forRg at w
    refine .inr ⟨by show i < n; omega, fun σ H => i + 1 + k = n ∧ ∃ m S σd, Cf K Z m S H σd σ ∧ WR K Z (relF K Z) m S H (endOf D) (forRg tg body lo k (i + 1) σd S), fun σ' H' q => ⟨k, Nat.lt_succ_self k, q⟩, fun y H' hy => ?_⟩
    obtain ⟨rfl, rfl⟩ := hy
    split at w
    · exact w.elim
    · rename_i σ1 e1
      exact ⟨Z, m, S, σd, _, c, .int _, σ1, e1, fun σ' c' => for_body c' w fun m1 S1 H1 σ2 σ st c1 w1 => ⟨by omega, m1, S1, σ2, c1, w1⟩⟩
theorem wh_go {K : PySem.W.Frag} {D : Ends} {cond : Sg → Sto → R Ev.D} {body : Sg → Sto → R Fl} {σ : St} {H : Hp} {n : Nat} (h : RS K (whGo cond body n) D σ H) : tWhile (RT K cond) (RS K body) D σ H := by
  obtain ⟨Z, m, S, σd, c, w⟩ := h
  refine ⟨fun n σ H => ∃ m S σd, Cf K Z m S H σd σ ∧ WR K Z (relF K Z) m S H (endOf D) (whGo cond body n σd S), ⟨n, m, S, σd, c, w⟩, ?_⟩
  rintro n σ H ⟨m, S, σd, c, w⟩
  cases n with
  | zero => exact w.elim
  | succ n =>
    unfold whGo at w
    refine ⟨Z, m, S, σd, c, WR.bind w fun b S1 m1 H1 b' st rs eb w1 => ?_⟩
    have eb : b = b' := eb
    subst eb
    cases b with
    | false =>
      rw [if_neg Bool.false_ne_true]
      exact hr_nx w1 rs (c.step st rs)
    | true =>
      rw [if_pos rfl]
      refine ⟨fun σ H => ∃ m S σd, Cf K Z m S H σd σ ∧ WR K Z (relF K Z) m S H (endOf D) (whGo cond body n σd S), fun σ' H' q => ⟨n, Nat.lt_succ_self n, q⟩, ?_⟩
      exact for_body (c.step st rs) w1 fun m2 S2 H2 σ2 σ st2 c2 w2 => ⟨m2, S2, σ2, c2, w2⟩
/-- a for's source -/
def FI (T : Prg) (k : Nat) (X : Cx) (it : It) (tg eit : Expr) : Prop := ∃ wi, PI X tg eit wi ∧
  (∀ {t : Tg} {b : Ss} {D : Ends} {σ : St} {H : Hp}, RS X.K (evS (ctxOf T k) (.for_ t it b)) D σ H → tFor wi (RG X.K t) (RS X.K (evSs (ctxOf T k) b)) D σ H)
theorem fi_seq (x : XOk T k N sc sc X) {e : E} {tg ee : Expr} (h : PE X ee (RE X.K (evE (ctxOf T k) e))) : FI T k X (.seq e) tg ee := by
  refine ⟨_, pi_seq h, fun {t b D σ H} q => ?_⟩
  obtain ⟨Z, m, S, σd, c, w⟩ := q
  simp only [evS] at w
  refine ⟨Z, m, S, σd, c, WR.bind w fun d S1 m1 H1 v st rs r w1 => ?_⟩
  split at w1
  · rename_i xs ex
    exact jw_of (R := fun J H => ∃ W : Nat → Nat → St → Hp → Prop, (∃ m, W 0 m σ H) ∧ ∀ i m σ H, W i m σ H →
      (J.stop i H ∧ D.nx σ H) ∨ (J.go i H ∧ ∃ N : St → Hp → Prop, (∀ σ' H', N σ' H' → ∃ m', m' < m ∧ W (i + 1) m' σ' H') ∧ ∀ x H', J.yld i H x H' → RG X.K t x σ H' fun σ2 H2 => RS X.K (evSs (ctxOf T k) b) { D with nx := N, ct := N, bk := D.nx } σ2 H2)) rs r ex fun J jw => for_go jw (c.step st rs) r w1
  · exact w1.elim
theorem fi_rng1 (x : XOk T k N sc sc X) {e : E} {tg ee : Expr} {p p2 : Pos} (hg : glB sc "range" = true) (hf : fitE N sc sc e ee = true) (h : PE X ee (RE X.K (evE (ctxOf T k) e))) : FI T k X (.rng1 e) tg (.Call (.Name "range" p) [ee] [] p2) := by
  refine ⟨_, pi_range1 (gl_of x hg).1 x.wld.rng (pa_cons h pa_nil (star_of hf)) (star_of hf), fun {t b D σ H} q => ?_⟩
  obtain ⟨Z, m, S, σd, c, w⟩ := q
  simp only [evS] at w
  refine ⟨Z, m, S, σd, c, WR.bind w fun d S1 m1 H1 v st rs r w1 => ?_⟩
  split at w1
  · split at w1
    · rename_i j hj
      cases r
      obtain ⟨h1, h2⟩ := rngOk_of hj
      exact ⟨j, rfl, h1, h2, for_rg (c.step st rs) w1⟩
    · exact w1.elim
  · exact w1.elim
theorem fi_rng2 (x : XOk T k N sc sc X) {e f : E} {tg ee ef : Expr} {p p2 : Pos} (hg : glB sc "range" = true) (hf : fitE N sc sc e ee = true) (hf2 : fitE N sc sc f ef = true) (h : PE X ee (RE X.K (evE (ctxOf T k) e))) (h2 : PE X ef (RE X.K (evE (ctxOf T k) f))) : FI T k X (.rng2 e f) tg (.Call (.Name "range" p) [ee, ef] [] p2) := by
  refine ⟨_, pi_range2 (gl_of x hg).1 x.wld.rng (pa_cons h (pa_cons h2 pa_nil (star_of hf2)) (star_of hf)) (by rw [star_of hf, star_of hf2]; rfl) (star_of hf2), fun {t b D σ H} q => ?_⟩
  obtain ⟨Z, m, S, σd, c, w⟩ := q
  simp only [evS] at w
  refine ⟨Z, m, S, σd, c, WR.bind w fun d S1 m1 H1 v st rs r w1 => ?_⟩
  refine ⟨Z, m1, S1, σd, c.step st rs, WR.bind w1 fun d2 S2 m2 H2 v2 st2 rs2 r2 w2 => ?_⟩
  split at w2
  · split at w2
    · rename_i i j hj
      rw [Bool.and_eq_true] at hj
      cases r; cases r2
      obtain ⟨h1, h2⟩ := rngOk_of hj.1
      obtain ⟨h3, h4⟩ := rngOk_of hj.2
      exact ⟨i, j, rfl, ⟨h1, h2, h3, h4⟩, for_rg ((c.step st rs).step st2 rs2) w2⟩
    · exact w2.elim
  · exact w2.elim
theorem snd_FI (x : XOk T k N sc sc X) {it : It} {tg e : Expr} (h : fitIt N sc sc it e = true) : FI T k X it tg e := by
  cases it with
  | seq a =>
    simp only [fitIt] at h
    exact fi_seq x (snd_E a x h).1
  | rng1 a =>
    cases e <;> try (simp only [fitIt, Bool.false_eq_true] at h; done)
    rename_i fn args kws p
    cases fn <;> try (simp only [fitIt, Bool.false_eq_true] at h; done)
    rename_i y p1
    rcases args with _ | ⟨e1, _ | ⟨e2, ees⟩⟩ <;> rcases kws with _ | ⟨k1, ks⟩ <;> simp only [fitIt, Bool.false_eq_true, Bool.and_eq_true, decide_eq_true_eq] at h
    obtain ⟨⟨rfl, h1⟩, h2⟩ := h
    exact fi_rng1 x h1 h2 (snd_E a x h2).1
  | rng2 a b =>
    cases e <;> try (simp only [fitIt, Bool.false_eq_true] at h; done)
    rename_i fn args kws p
    cases fn <;> try (simp only [fitIt, Bool.false_eq_true] at h; done)
    rename_i y p1
    rcases args with _ | ⟨e1, _ | ⟨e2, _ | ⟨e3, ees⟩⟩⟩ <;> rcases kws with _ | ⟨k1, ks⟩ <;> simp only [fitIt, Bool.false_eq_true, Bool.and_eq_true, decide_eq_true_eq] at h
    obtain ⟨⟨⟨rfl, h1⟩, h2⟩, h3⟩ := h
    exact fi_rng2 x h1 h2 h3 (snd_E a x h2).1 (snd_E b x h3).1
/-- the store of a value at a target -/
theorem ts_asg {e : E} {tg : Tg} {K : PySem.W.Frag} {D : Ends} {σ : St} {H : Hp} (h : RS K (evS (ctxOf T k) (.asg tg e)) D σ H) : tAsg (RE K (evE (ctxOf T k) e)) (RG K tg) D σ H := by
  obtain ⟨Z, m, S, σd, c, w⟩ := h
  simp only [evS] at w
  refine ⟨Z, m, S, σd, c, WR.bind w fun d S1 m1 H1 v st rs r w1 => ?_⟩
  split at w1
  · rename_i σ1 e1
    exact ⟨Z, m1, S1, σd, d, c.step st rs, r, σ1, e1, fun σ' c' => hr_nx w1 rs c'⟩
  · exact w1.elim
theorem rg_nm {K : PySem.W.Frag} {i : Nat} {v : V} {σ : St} {H : Hp} {Q : St → Hp → Prop} (h : RG K (.nm i) v σ H Q) : gName i v σ H Q := by
  obtain ⟨Z, m, S, σd, d, c, r, σd', e, q⟩ := h
  simp only [setTg, Option.some.injEq] at e
  subst e
  exact q _ (c.set r)
theorem tlc_mono {wi : TI} {g : TG} {tt : TT} {te : TE} {vs : List Nat} {σ : St} {H : Hp} {Q Q' : VK} (hm : ∀ R R' : L2.It → Hp → Prop, (∀ J H, R J H → R' J H) → wi σ H R → wi σ H R') (hq : ∀ v H, Q v H → Q' v H) (h : tLc wi g tt te vs σ H Q) : tLc wi g tt te vs σ H Q' := by
  refine hm _ _ (fun J H1 r D hD => ?_) h
  obtain ⟨W, w0, turn⟩ := r D hD
  refine ⟨W, w0, fun i m H w => ?_⟩
  rcases turn i m H w with ⟨a, b⟩ | q
  · exact .inl ⟨a, hq _ _ b⟩
  · exact .inr q
theorem sa1 {i : Nat} {e : E} {N : List Str} {sc : Scope} {X : Cx} {st : Stmt} (x : XOk T k N sc sc X) (h : fitS N sc (.asg (.nm i) e) st = true) : PS X st (RS X.K (evS (ctxOf T k) (.asg (.nm i) e))) := by
    cases st <;> simp only [fitS, Bool.false_eq_true] at h
    rename_i tgs v q
    rcases tgs with _ | ⟨t1, _ | ⟨t2, ts⟩⟩ <;> simp only [fitAsg, Bool.false_eq_true] at h
    cases t1 <;> simp only [fitAsg1, Bool.false_eq_true] at h
    rename_i y p
    simp only [Bool.and_eq_true, decide_eq_true_eq, Bool.or_eq_true] at h
    obtain ⟨⟨⟨h1, h2⟩, h3⟩, h4⟩ := h
    obtain ⟨l1, l2⟩ := stB_of x h3
    have hN : X.N.Nodup := by rw [x.nN]; exact x.nd
    have hi : X.N[i]? = some y := by rw [x.nN]; exact h2
    have plain : swapsWith v (some (.Name y p)) q.line X.env = pure false → PS X (.Assign [.Name y p] v q) (RS X.K (evS (ctxOf T k) (.asg (.nm i) e))) := fun hs =>
      PS.mono (ps_set hN hi l1 (snd_E e x h1).1 hs l2) fun D σ H r => by
        obtain ⟨Z, m, S, σd, c, w⟩ := r
        simp only [evS] at w
        refine ⟨Z, m, S, σd, c, WR.bind w fun d S1 m1 H1 v st rs r w1 => ?_⟩
        simp only [setTg] at w1
        exact hr_nx w1 rs ((c.step st rs).set r)
    rcases h4 with h4 | h4
    · exact plain (swaps_of h4)
    · cases v <;> simp only [fitLc, Bool.false_eq_true] at h4
      rename_i eelt gens scope vp
      rcases gens with _ | ⟨g1, _ | ⟨g2, gs⟩⟩ <;> simp only [Bool.false_eq_true] at h4
      cases e <;> simp only [Bool.false_eq_true] at h4
      · rename_i elt tg it cond
        split at h4
        · rename_i hloc
          rw [Bool.and_eq_true, Bool.not_eq_true'] at h4
          obtain ⟨etg, eit, ifs, asy⟩ := g1
          simp only [fitE, Bool.and_eq_true, decide_eq_true_eq] at h1
          obtain ⟨⟨⟨⟨⟨⟨rfl, g1⟩, g2⟩, g3⟩, g4⟩, g5⟩, g6⟩ := h1
          obtain ⟨wi, s1, s2⟩ := snd_It (T := T) (k := k) it (tg := etg) x g4
          have hloc' : X.env.scope.names.lookup y = some .local := by rw [x.sc]; exact hloc
          refine PS.mono (ps_setLc (i := i) (own := ownOf tg etg) (wi := wi) (g := RGw X.K tg) (tt := RT X.K (evE (ctxOf T k) cond)) (te := RE X.K (evE (ctxOf T k) elt)) x.calm hN hi hloc' ?_ s1 (by rw [x.nN, x.sc]; exact blkOk_by g2) (fun s H C cl fp => pg_tgW (xok_blk x s H C cl fp) g3) (fun s H C cl fp => ?_) (fun s H C cl fp => (snd_E elt (xok_blk x s H C cl fp) g6).1) (foldedI_of g4)) fun D σ H r => ?_
          · rw [Bool.and_eq_true, decide_eq_true_eq] at h4
            exact sw_true (by rw [x.sc]; exact h4.1.1) hloc' h4.1.2 h4.2
          · rcases ifs with _ | ⟨c, _ | ⟨c2, cs⟩⟩
            · have : cond = .cbl true := by
                simp only at g5
                split at g5
                · rfl
                · cases g5
              subst this
              exact PTs.mono pts_nil fun σ H Q q => rt_true q
            · simp only [Bool.and_eq_true] at g5
              exact pts_one ((snd_E cond (xok_blk x s H C cl fp) g5.2).2 g5.1).1
            · simp at g5
          · rw [g1]
            obtain ⟨Z, m, S, σd, c, w⟩ := r
            refine s2 (Q := fun x H1 => gName i x σ H1 D.nx) ⟨Z, m, S, σd, c, ?_⟩
            rw [evS] at w
            refine WR.bind w fun d S1 m1 H1 v st rs r w1 => ?_
            simp only [setTg] at w1
            exact hr_nx w1 rs ((c.step st rs).set r)
        · rename_i hnl
          refine plain ?_
          have hk : (X.env.kindOf y == some NameKind.local) = false := by
            have : X.env.kindOf y = sc.names.lookup y := by rw [← x.sc]; rfl
            rw [this]
            cases hq : sc.names.lookup y with
            | none => rfl
            | some kd => cases kd <;> first | rfl | exact (hnl hq).elim
          unfold swapsWith
          simp only [hk, Bool.and_false, Bool.false_and]
theorem sa2 {is : List Nat} {e : E} {N : List Str} {sc : Scope} {X : Cx} {st : Stmt} (x : XOk T k N sc sc X) (h : fitS N sc (.asg (.tp is) e) st = true) : PS X st (RS X.K (evS (ctxOf T k) (.asg (.tp is) e))) := by
    cases st <;> simp only [fitS, Bool.false_eq_true] at h
    rename_i tgs v q
    rcases tgs with _ | ⟨t1, _ | ⟨t2, ts⟩⟩ <;> simp only [fitAsg, Bool.false_eq_true] at h
    cases t1 <;> simp only [fitAsg1, Bool.false_eq_true] at h
    rename_i es kk p
    simp only [Bool.and_eq_true, Bool.not_eq_true'] at h
    obtain ⟨⟨⟨h1, h2⟩, h3⟩, h4⟩ := h
    refine PS.mono (ps_asg (snd_E e x h1).1 (pg_tg (tg := .tp is) x (by simpa only [fitTg] using h4)) (by unfold swapsWithSole; exact swaps_of h2) ?_ rfl) fun D σ H r => ts_asg r
    cases v <;> first | rfl | (simp [isTup] at h3; done)
theorem sa3 {o i e : E} {N : List Str} {sc : Scope} {X : Cx} {st : Stmt} (x : XOk T k N sc sc X) (h : fitS N sc (.seti o i e) st = true) : PS X st (RS X.K (evS (ctxOf T k) (.seti o i e))) := by
    cases st <;> simp only [fitS, Bool.false_eq_true] at h
    rename_i tgs v q
    rcases tgs with _ | ⟨t1, _ | ⟨t2, ts⟩⟩ <;> simp only [fitSet, Bool.false_eq_true] at h
    cases t1 <;> simp only [fitSet1, Bool.false_eq_true] at h
    rename_i eo ei p
    simp only [Bool.and_eq_true] at h
    obtain ⟨⟨⟨⟨h1, h2⟩, h3⟩, h4⟩, h5⟩ := h
    refine PS.mono (ps_asg (snd_E e x h1).1 (pg_sub (snd_E o x h3).1 (snd_E i x h4).1 set_D (fun v => ?_)) (by unfold swapsWithSole; exact swaps_of h2) ?_ rfl) fun D σ H r => ?_
    · cases ei <;> first | rfl | (simp [notSl] at h5; done)
    · cases v <;> rfl
    · obtain ⟨Z, m, S, σd, c, w⟩ := r
      simp only [evS] at w
      refine ⟨Z, m, S, σd, c, WR.bind w fun d S1 m1 H1 v st rs r w1 => ?_⟩
      refine ⟨Z, m1, S1, σd, c.step st rs, WR.bind w1 fun d2 S2 m2 H2 v2 st2 rs2 r2 w2 => ?_⟩
      refine ⟨Z, m2, S2, σd, (c.step st rs).step st2 rs2, WR.bind w2 fun d3 S3 m3 H3 v3 st3 rs3 r3 w3 => ?_⟩
      refine ⟨Z, m3, S3, d2, d3, d, rs3, r2.mono st3, r3, r.mono (st2.trans st3), WR.bind w3 fun u S4 m4 H4 u' st4 rs4 _ w4 => ?_⟩
      exact hr_nx w4 rs4 ((((c.step st rs).step st2 rs2).step st3 rs3).step st4 rs4)
theorem sa4 {e : E} {N : List Str} {sc : Scope} {X : Cx} {st : Stmt} (x : XOk T k N sc sc X) (h : fitS N sc (.expr e) st = true) : PS X st (RS X.K (evS (ctxOf T k) (.expr e))) := by
    cases st <;> simp only [fitS, Bool.false_eq_true, Bool.and_eq_true] at h
    refine PS.mono (ps_expr (snd_E e x h.1).1 (swaps_of h.2)) fun D σ H r => ?_
    obtain ⟨Z, m, S, σd, c, w⟩ := r
    simp only [evS] at w
    exact ⟨Z, m, S, σd, c, WR.bind w fun d S1 m1 H1 v st rs r w1 => hr_nx w1 rs (c.step st rs)⟩
theorem sa5 {e : E} {N : List Str} {sc : Scope} {X : Cx} {st : Stmt} (x : XOk T k N sc sc X) (h : fitS N sc (.ret e) st = true) : PS X st (RS X.K (evS (ctxOf T k) (.ret e))) := by
    cases st <;> try (simp only [fitS, Bool.false_eq_true] at h; done)
    rename_i v p
    cases v <;> simp only [fitS, Bool.false_eq_true] at h
    refine PS.mono (ps_ret (snd_E e x h).1) fun D σ H r => ?_
    obtain ⟨Z, m, S, σd, c, w⟩ := r
    simp only [evS] at w
    exact ⟨Z, m, S, σd, c, WR.bind w fun d S1 m1 H1 v st rs r w1 => hr_rt w1 rs r⟩
theorem sa6  {N : List Str} {sc : Scope} {X : Cx} {st : Stmt} (x : XOk T k N sc sc X) (h : fitS N sc (.retN) st = true) : PS X st (RS X.K (evS (ctxOf T k) (.retN))) := by
    cases st <;> try (simp only [fitS, Bool.false_eq_true] at h; done)
    rename_i v p
    cases v <;> simp only [fitS, Bool.false_eq_true] at h
    refine PS.mono ps_retN fun D σ H r => ?_
    obtain ⟨Z, m, S, σd, c, w⟩ := r
    simp only [evS] at w
    exact hr_rt w c.s (show RelD _ _ _ _ _ _ _ from .non)
theorem sa7  {N : List Str} {sc : Scope} {X : Cx} {st : Stmt} (x : XOk T k N sc sc X) (h : fitS N sc (.pass) st = true) : PS X st (RS X.K (evS (ctxOf T k) (.pass))) := by
    cases st <;> simp only [fitS, Bool.false_eq_true] at h
    refine PS.mono ps_pass fun D σ H r => ?_
    obtain ⟨Z, m, S, σd, c, w⟩ := r
    simp only [evS] at w
    exact hr_nx w c.s c
theorem sa8  {N : List Str} {sc : Scope} {X : Cx} {st : Stmt} (x : XOk T k N sc sc X) (h : fitS N sc (.brk) st = true) : PS X st (RS X.K (evS (ctxOf T k) (.brk))) := by
    cases st <;> simp only [fitS, Bool.false_eq_true] at h
    refine PS.mono ps_break fun D σ H r => ?_
    obtain ⟨Z, m, S, σd, c, w⟩ := r
    simp only [evS] at w
    exact hr_bk w c.s c
theorem sa9  {N : List Str} {sc : Scope} {X : Cx} {st : Stmt} (x : XOk T k N sc sc X) (h : fitS N sc (.ctn) st = true) : PS X st (RS X.K (evS (ctxOf T k) (.ctn))) := by
    cases st <;> simp only [fitS, Bool.false_eq_true] at h
    refine PS.mono ps_continue fun D σ H r => ?_
    obtain ⟨Z, m, S, σd, c, w⟩ := r
    simp only [evS] at w
    exact hr_ct w c.s c
theorem sa10  {N : List Str} {sc : Scope} {X : Cx} {st : Stmt} (x : XOk T k N sc sc X) (h : fitS N sc (.never) st = true) : PS X st (RS X.K (evS (ctxOf T k) (.never))) := PS.mono ps_never fun D σ H r => by
    obtain ⟨Z, m, S, σd, c, w⟩ := r
    simp only [evS] at w
    exact w.elim
mutual
theorem snd_S : ∀ (ir : Ev.S) {N : List Str} {sc : Scope} {X : Cx} {st : Stmt}, XOk T k N sc sc X → fitS N sc ir st = true → PS X st (RS X.K (evS (ctxOf T k) ir))
  | .asg (.nm i) e, N, sc, X, st, x, h => sa1 x h
  | .asg (.tp is) e, N, sc, X, st, x, h => sa2 x h
  | .seti o i e, N, sc, X, st, x, h => sa3 x h
  | .expr e, N, sc, X, st, x, h => sa4 x h
  | .ret e, N, sc, X, st, x, h => sa5 x h
  | .retN, N, sc, X, st, x, h => sa6 x h
  | .ifs t a b, N, sc, X, st, x, h => by
    cases st <;> simp only [fitS, Bool.false_eq_true, Bool.and_eq_true] at h
    refine PS.mono (ps_if ((snd_E t x h.1.1.2).2 h.1.1.1).1 (snd_Ss a x h.1.2) (snd_Ss b x h.2)) fun D σ H r => ?_
    obtain ⟨Z, m, S, σd, c, w⟩ := r
    simp only [evS] at w
    refine ⟨Z, m, S, σd, c, WR.bind w fun d S1 m1 H1 v st rs r w1 => ?_⟩
    have r : d = v := r
    subst r
    cases d with
    | true => rw [if_pos rfl]; exact ⟨Z, m1, S1, σd, c.step st rs, w1⟩
    | false => rw [if_neg Bool.false_ne_true]; exact ⟨Z, m1, S1, σd, c.step st rs, w1⟩
  | .for_ tg it b, N, sc, X, st, x, h => by
    cases st <;> try (simp only [fitS, Bool.false_eq_true] at h; done)
    rename_i etg eit eb els p
    cases els <;> simp only [fitS, Bool.false_eq_true, Bool.and_eq_true] at h
    obtain ⟨wi, s1, s2⟩ := snd_FI (T := T) (k := k) (tg := etg) x h.1.2
    exact PS.mono (ps_for (by rw [x.xe]; exact PassesOwn.never) x.calm s1 (pg_tg x h.1.1) (snd_Ss b x h.2) (foldedI_of h.1.2)) fun D σ H r => s2 r
  | .whl t b, N, sc, X, st, x, h => by
    cases st <;> try (simp only [fitS, Bool.false_eq_true] at h; done)
    rename_i et eb els p
    cases els <;> simp only [fitS, Bool.false_eq_true, Bool.and_eq_true] at h
    refine PS.mono (ps_while (by rw [x.xe]; exact PassesOwn.never) ((snd_E t x h.1.2).2 h.1.1).1 (snd_Ss b x h.2)) fun D σ H r => wh_go (n := T.w) ?_
    simpa only [RS, evS] using r
  | .pass, N, sc, X, st, x, h => sa7 x h
  | .brk, N, sc, X, st, x, h => sa8 x h
  | .ctn, N, sc, X, st, x, h => sa9 x h
  | .never, N, sc, X, st, x, h => sa10 x h
theorem snd_Ss : ∀ (irs : Ss) {N : List Str} {sc : Scope} {X : Cx} {sts : List Stmt}, XOk T k N sc sc X → fitSs N sc irs sts = true → PSs X sts (RS X.K (evSs (ctxOf T k) irs))
  | .nil, N, sc, X, sts, x, h => by
    cases sts <;> simp only [fitSs, Bool.false_eq_true] at h
    refine PSs.mono pss_nil fun D σ H r => ?_
    obtain ⟨Z, m, S, σd, c, w⟩ := r
    simp only [evSs] at w
    exact hr_nx w c.s c
  | .cons s ss, N, sc, X, sts, x, h => by
    cases sts <;> simp only [fitSs, Bool.false_eq_true, Bool.and_eq_true] at h
    exact PSs.mono (pss_cons (snd_S s x h.1) (snd_Ss ss x h.2)) fun D σ H r => ps_seq (by simpa only [RS, evSs] using r)
end
end
end Ev

namespace Ev
open PySem L2
/-! ### every def of the text keeps its evaluator's promise -/
structure Good (K : PySem.W.Frag) (mg : Str → Option Value) (F : Fn) (d : He.DefD) : Prop where
  fn : ∃ fd, FunD K d.name d.qual d.params d.body d.scope [] [] (He.fAd K d.at_) fd ∧ Binds K fd F.ps []
  glo : mg F.base = some (.ref (He.fAd K d.at_))
  sc : FnScope F.ns F.ps d.scope
  fit : fitSs F.ns d.scope F.body d.body = true
section
variable {T : Prg} {P : Program} {w : World} {K : PySem.W.Frag} {mg : Str → Option Value} {base : Heap}
theorem start_cf {Z m : List Addr} {S : Sto} {H : Hp} {ds : List D} {vs : List V} (rs : RelS K Z m S H) (r : RelDs K Z m S H ds vs) (N : List Str) : Cf K Z m S H (ds.map some ++ List.replicate (N.length - ds.length) none) (L2.start N vs) := by
  have hl := r.length
  refine ⟨rs, ?_, fun i d e => ?_⟩
  · unfold L2.start
    simp [hl]
  · have hi : i < ds.length := by
      by_cases hi : i < ds.length
      · exact hi
      · rw [List.getElem?_append_right (by simpa using hi), List.getElem?_replicate] at e
        split at e <;> cases e
    rw [List.getElem?_append_left (by simpa using hi), List.getElem?_map] at e
    cases q : ds[i]? with
    | none => rw [q] at e; cases e
    | some d2 =>
      rw [q] at e
      cases e
      obtain ⟨v, h1, h2⟩ := r.get q
      refine ⟨v, ?_, h2⟩
      unfold L2.start
      rw [List.getElem?_append_left (by simp; omega), List.getElem?_map, h1]
      rfl
theorem fn_good {k : Nat} (W : WldF T k P w K mg base) {f : Str} {F : Fn} {d : He.DefD} {fd : FuncData} (hf : T.fns.lookup f = some F) (G : Good K mg F d) (FD : FunD K d.name d.qual d.params d.body d.scope [] [] (He.fAd K d.at_) fd) :
    FnOk P w K mg base CX0 (k + 1) (He.fAd K d.at_) fd F.ps (spR K (callN T (k + 1) F.base f)) := by
  have len : ∀ vs H Q E, spR K (callN T (k + 1) F.base f) vs H Q E → vs.length = F.ps.length := fun vs H Q E ⟨Z, m, S, ds, rs, r, w⟩ => by
    simp only [callN, hf] at w
    split at w
    · rename_i hl
      rw [← r.length]; exact hl.2
    · exact w.elim
  refine FD.ok G.sc len fun cdv A outer s H vs Q E hr h => ?_
  have x : XOk T k F.ns d.scope d.scope (cxOf CX0 P w K mg base F.ns d.qual d.scope (He.fAd K d.at_) cdv A outer s H E).nox := ⟨W, hr, rfl, rfl, rfl, G.sc.nd, rfl, fun _ _ => rfl⟩
  refine ⟨_, (snd_Ss F.body x G.fit).nox, ?_⟩
  obtain ⟨Z, m, S, ds, rs, r, w⟩ := h
  simp only [callN, hf] at w
  split at w
  · refine ⟨Z, m, S, _, start_cf rs r F.ns, WR.bind w fun fl S1 m1 H1 b st rs1 rel w1 => ?_⟩
    cases fl <;> cases b <;> try exact rel.elim
    · exact WR.here (rel := RelD K Z) (Q := Q) (a := D.non) (b := V.non) w1 rs1 .non
    · exact WR.here (rel := RelD K Z) (Q := Q) w1 rs1 rel
    · exact w1.elim
    · exact w1.elim
  · exact w.elim
theorem wld_all (hblt : ∀ f : Blt, mg f.nm = none) (hrng : mg "range" = none) (hboo : mg "bool" = none) (hcon : ∀ x d, T.con.lookup x = some d → ∃ u v, mg x = some u ∧ RelV v u ∧ ∀ Z m S H, RelD K Z m S H d v)
    (hfn : ∀ f F, T.fns.lookup f = some F → ∃ d, Good K mg F d) : ∀ k, WldF T k P w K mg base
  | 0 => ⟨hblt, hrng, hboo, hcon, fun f F e => by
    obtain ⟨d, G⟩ := hfn f F e
    obtain ⟨fd, FD, b⟩ := G.fn
    refine ⟨_, fd, G.glo, FD.kp, b, ⟨fun vs H Q E ⟨Z, m, S, ds, rs, r, w⟩ => w.elim, fun A outer s H args us vs Q E _ _ _ _ ⟨Z, m, S, ds, rs, r, w⟩ => w.elim⟩⟩⟩
  | k + 1 => ⟨hblt, hrng, hboo, hcon, fun f F e => by
    obtain ⟨d, G⟩ := hfn f F e
    obtain ⟨fd, FD, b⟩ := G.fn
    exact ⟨_, fd, G.glo, FD.kp, b, fn_good (wld_all hblt hrng hboo hcon hfn k) e G FD⟩⟩
end
/-! ### facts of the head, by one Hook -/
def nameFree : List Str := ["len", "abs", "int", "list", "tuple", "str", "max", "min", "sum", "any", "all", "isinstance", "range", "bool", "sorted"]
inductive Cn where | int (i : Int) | str (x : Str) | tup (xs : List Str)
def Cn.d : Cn → D
  | .int i => .int i
  | .str x => .str x
  | .tup xs => .tup (xs.map .str)
def Cn.ok (K : PySem.W.Frag) (x : Str) : Cn → Bool
  | .int i => (He.Fa.int x i).ok K
  | .str z => (He.Fa.str x z).ok K
  | .tup xs => (He.Fa.glo x).ok K && He.tupB K x (xs.map .str)
def chk (cs : List (Str × Cn)) (fn : List He.DefD) (K : PySem.W.Frag) : Bool := (nameFree.all fun x => (He.Fa.free x).ok K) && (cs.all fun c => c.2.ok K c.1) && (fn.all fun d => (He.Fa.glo d.at_.1).ok K)
def obsX (cs : List (Str × Cn)) (fn : List He.DefD) (K : PySem.W.Frag) : He.AlD := (chk cs fn K && fn.all fun d => d.ok K, fn.map fun d => He.fnW K d.at_)
def SaysX (cs : List (Str × Cn)) (fn : List He.DefD) (K : PySem.W.Frag) : Prop := obsX cs fn K = He.valD fn
def obsXG (n : Nat) (cs : List (Str × Cn)) (fn : List He.DefD) (g : Addr → Option Obj) : He.AlD := obsX cs fn (He.frG g (He.asD g n))
def hookX (n : Nat) (cs : List (Str × Cn)) (fn : List He.DefD) : PySem.W.Hook where
  α := He.AlD
  obs := fun s => obsXG n cs fn s.heap.get?
  val := fun _ => He.valD fn
  says := fun _ h => ∃ K : PySem.W.Frag, K.In h ∧ SaysX cs fn K
  of := fun _ _ e => ⟨_, He.frG_in, e⟩
  keeps := fun _ _ _ ⟨K, hK, c⟩ k => ⟨K, PySem.W.Frag.In.keeps hK k, c⟩
theorem obsXG_eq {n : Nat} {cs : List (Str × Cn)} {fn : List He.DefD} {g : Addr → Option Obj} {s : Shared} (h : ∀ a, g a = s.heap.get? a) : obsXG n cs fn g = (hookX n cs fn).obs s := by
  have e : g = s.heap.get? := funext h
  rw [e] <;> rfl
section
variable {cs : List (Str × Cn)} {fn : List He.DefD} {K : PySem.W.Frag} {h : Heap} {mg : Str → Option Value}
theorem SaysX.chk (c : SaysX cs fn K) : Ev.chk cs fn K = true ∧ ∀ d ∈ fn, d.ok K = true := by
  obtain ⟨c1, c2⟩ := He.ba (show (Ev.chk cs fn K && fn.all fun d => d.ok K) = true from congrArg (fun z : He.AlD => z.1) c)
  exact ⟨c1, fun d hd => List.all_eq_true.mp c2 d hd⟩
theorem SaysX.def_ (c : SaysX cs fn K) {i : Nat} {d : He.DefD} (h : fn[i]? = some d) : ∃ fd, FunD K d.name d.qual d.params d.body d.scope (d.dvs K) (d.kws K) (He.fAd K d.at_) fd := by
  have e : fn.map (fun d => He.fnW K d.at_) = fn.map He.DefD.val := congrArg (fun z : He.AlD => z.2) c
  have e2 : (fn.map fun d => He.fnW K d.at_)[i]? = (fn.map He.DefD.val)[i]? := by rw [e]
  rw [List.getElem?_map, List.getElem?_map, h] at e2
  exact He.DefD.funD (Option.some.inj e2) (c.chk.2 d (List.mem_of_getElem? h))
theorem SaysX.free (c : SaysX cs fn K) (X : K.In h) (G : h.Ns mainGlobals mg) {x : Str} (hx : x ∈ nameFree) : mg x = none := by
  have c1 := c.chk.1
  unfold Ev.chk at c1
  obtain ⟨c1, _⟩ := He.ba c1
  obtain ⟨c1, _⟩ := He.ba c1
  exact He.free_ok X G (List.all_eq_true.mp c1 x hx)
theorem SaysX.glo (c : SaysX cs fn K) (X : K.In h) (G : h.Ns mainGlobals mg) {d : He.DefD} (hd : d ∈ fn) (hn : d.at_.2 = none) : mg d.at_.1 = some (.ref (He.fAd K d.at_)) := by
  have c1 := c.chk.1
  unfold Ev.chk at c1
  obtain ⟨_, c2⟩ := He.ba c1
  have := He.glo_ok X G (List.all_eq_true.mp c2 d hd)
  rw [this]
  unfold He.fAd
  rw [hn]
theorem SaysX.con (c : SaysX cs fn K) (X : K.In h) (G : h.Ns mainGlobals mg) : ∀ x d, (cs.map fun p => (p.1, p.2.d)).lookup x = some d → ∃ u v, mg x = some u ∧ RelV v u ∧ ∀ Z m S H, RelD K Z m S H d v := by
  have c1 := c.chk.1
  unfold Ev.chk at c1
  obtain ⟨c1, _⟩ := He.ba c1
  obtain ⟨_, c2⟩ := He.ba c1
  intro x d e
  have hm := PySem.mem_of_lookup e
  obtain ⟨p, hp, hq⟩ := List.mem_map.mp hm
  obtain ⟨y, cn⟩ := p
  simp only [Prod.mk.injEq] at hq
  obtain ⟨rfl, rfl⟩ := hq
  have c3 := List.all_eq_true.mp c2 _ hp
  cases cn with
  | int i =>
    obtain ⟨t, ht⟩ := He.int_ok X G c3
    exact ⟨_, .int i, ht, ⟨t, rfl⟩, fun _ _ _ _ => .int i⟩
  | str z =>
    obtain ⟨t, ht⟩ := He.str_ok X G c3
    exact ⟨_, .str z, ht, ⟨t, rfl⟩, fun _ _ _ _ => .str z⟩
  | tup xs =>
    obtain ⟨c4, c5⟩ := He.ba c3
    refine ⟨_, .ref (He.ga K y), He.glo_ok X G c4, rfl, fun Z m S H => .tupK (He.tupB_ok c5 _) ?_⟩
    show RelDs K Z m S H (xs.map D.str) ((xs.map He.Dv.str).map (He.Dv.v K))
    clear c c1 c2 c3 c4 c5 e hm hp
    induction xs with
    | nil => exact .nil
    | cons a b ih => exact .cons (.str a) ih
end
/-- the law's def: what a run that ends in True gives -/
def spLaw (K : PySem.W.Frag) : Sp := fun vs H Q _ => ∃ (a : Addr) (ns : List Int), vs = [.ref a] ∧ SqL K H a (ns.map V.int) ∧ ns.length ≤ 63 ∧ ∀ H', Q (.bl true) H'
theorem law_sp {T : Prg} {K : PySem.W.Frag} {k : Nat} {x f : Str} (h : ∀ ns : List Int, ns.length ≤ 63 → ∃ S', callN T k x f [.fl (ns.map .int)] [] = .ok (.bl true) S') : ∀ vs H Q E, spLaw K vs H Q E → spR K (callN T k x f) vs H Q E := by
  rintro vs H Q E ⟨a, ns, rfl, hS, hl, q⟩
  obtain ⟨S', e⟩ := h ns hl
  have nO : ¬ Own [] [] a := fun ⟨i, xs, h1, _⟩ => by simp at h1
  have intsR : ∀ l : List Int, RelDs K [] [] [] H (l.map D.int) (l.map V.int) := fun l => by
    induction l with
    | nil => exact .nil
    | cons b c ih => exact .cons (.int b) ih
  have r : RelD K [] [] [] H (.fl (ns.map .int)) (.ref a) := by
    rcases hS with hS | hS
    · exact .fl hS nO (by simp) (intsR ns)
    · exact .flK (.inr hS) (intsR ns)
  refine ⟨[], [], [], [.fl (ns.map .int)], ⟨rfl, List.nodup_nil, fun a h => by simp at h, fun a h => by simp at h, fun i a xs h => by simp at h⟩, .cons r .nil, ?_⟩
  rw [e]
  intro m' H' b st rs rb
  cases rb
  exact q H'
end Ev

namespace Ev
open PySem L2
/-! ### running the evaluator by rewriting -/
theorem callN_eq {T : Prg} {k : Nat} {x f : Str} {F : Fn} {ds : List D} {S : Sto} (h : T.fns.lookup f = some F) (hx : x = F.base) (hl : ds.length = F.ps.length) :
    callN T (k + 1) x f ds S = (evSs (ctxOf T k) F.body (ds.map some ++ List.replicate (F.ns.length - ds.length) none) S).bind retK := by
  simp only [callN, h, hx, hl, and_self, if_true]
@[simp] theorem tr_bl (b : Bool) (S : Sto) : tr (.bl b) S = .ok b S := (rfl)
@[simp] theorem seqK_nx (g : Sg → Sto → R Fl) (σ : Sg) (S : Sto) : seqK g (.nx σ) S = g σ S := (rfl)
@[simp] theorem seqK_rt (g : Sg → Sto → R Fl) (d : D) (S : Sto) : seqK g (.rt d) S = .ok (.rt d) S := (rfl)
@[simp] theorem seqK_bk (g : Sg → Sto → R Fl) (σ : Sg) (S : Sto) : seqK g (.bk σ) S = .ok (.bk σ) S := (rfl)
@[simp] theorem seqK_ct (g : Sg → Sto → R Fl) (σ : Sg) (S : Sto) : seqK g (.ct σ) S = .ok (.ct σ) S := (rfl)
@[simp] theorem loopK_nx (g : Sg → Sto → R Fl) (σ : Sg) (S : Sto) : loopK g (.nx σ) S = g σ S := (rfl)
@[simp] theorem loopK_rt (g : Sg → Sto → R Fl) (d : D) (S : Sto) : loopK g (.rt d) S = .ok (.rt d) S := (rfl)
@[simp] theorem loopK_bk (g : Sg → Sto → R Fl) (σ : Sg) (S : Sto) : loopK g (.bk σ) S = .ok (.nx σ) S := (rfl)
@[simp] theorem loopK_ct (g : Sg → Sto → R Fl) (σ : Sg) (S : Sto) : loopK g (.ct σ) S = g σ S := (rfl)
@[simp] theorem retK_nx (σ : Sg) (S : Sto) : retK (.nx σ) S = .ok .non S := (rfl)
@[simp] theorem retK_rt (d : D) (S : Sto) : retK (.rt d) S = .ok d S := (rfl)
@[simp] theorem add_int (i j : Int) (S : Sto) : binD .add (.int i) (.int j) S = .ok (.int (i + j)) S := (rfl)
@[simp] theorem sub_int (i j : Int) (S : Sto) : binD .sub (.int i) (.int j) S = .ok (.int (i - j)) S := (rfl)
theorem mul_int {i j : Int} (h : CMulD i j = true) (S : Sto) : binD .mul (.int i) (.int j) S = .ok (.int (i * j)) S := by simp [binD, h]
theorem cmul_r {i j : Int} (h : -(2 ^ 64) < j ∧ j < 2 ^ 64) : CMulD i j = true := by unfold CMulD; rw [decide_eq_true h]; simp
theorem cmul_l {i j : Int} (h : -(2 ^ 64) < i ∧ i < 2 ^ 64) : CMulD i j = true := by unfold CMulD; rw [decide_eq_true h]; simp
theorem mod_int {i j : Int} (h : 0 < j) (S : Sto) : binD .mod (.int i) (.int j) S = .ok (.int (i % j)) S := by simp [binD, h]
theorem fdiv_int {i j : Int} (h : 0 < j) (h2 : j.natAbs.log2 < 9000) (S : Sto) : binD .fdiv (.int i) (.int j) S = .ok (.int (i / j)) S := by simp [binD, h, h2]
theorem add_str {x y : Str} (h : x.length + y.length ≤ lim) (S : Sto) : binD .add (.str x) (.str y) S = .ok (.str (x ++ y)) S := by simp [binD, h]
theorem add_lv {x y : List D} (h : x.length + y.length ≤ lim) (S : Sto) : binD .add (.lv x) (.lv y) S = .ok (.lv (x ++ y)) S := by simp [binD, listOf, h]
@[simp] theorem cmp_eq_int (i j : Int) (S : Sto) : cmpD .eq (.int i) (.int j) S = .ok (.bl (decide (i = j))) S := (rfl)
@[simp] theorem cmp_eq_str (i j : Str) (S : Sto) : cmpD .eq (.str i) (.str j) S = .ok (.bl (decide (i = j))) S := (rfl)
@[simp] theorem cmp_eq_bl (i j : Bool) (S : Sto) : cmpD .eq (.bl i) (.bl j) S = .ok (.bl (decide (i = j))) S := (rfl)
@[simp] theorem cmp_ne_int (i j : Int) (S : Sto) : cmpD .ne (.int i) (.int j) S = .ok (.bl (!decide (i = j))) S := (rfl)
@[simp] theorem cmp_ne_str (i j : Str) (S : Sto) : cmpD .ne (.str i) (.str j) S = .ok (.bl (!decide (i = j))) S := (rfl)
@[simp] theorem cmp_lt_int (i j : Int) (S : Sto) : cmpD .lt (.int i) (.int j) S = .ok (.bl (decide (i < j))) S := (rfl)
@[simp] theorem cmp_le_int (i j : Int) (S : Sto) : cmpD .le (.int i) (.int j) S = .ok (.bl (decide (i ≤ j))) S := (rfl)
@[simp] theorem cmp_gt_int (i j : Int) (S : Sto) : cmpD .gt (.int i) (.int j) S = .ok (.bl (decide (j < i))) S := (rfl)
@[simp] theorem cmp_ge_int (i j : Int) (S : Sto) : cmpD .ge (.int i) (.int j) S = .ok (.bl (decide (j ≤ i))) S := (rfl)
@[simp] theorem cmp_isN_bl (b : Bool) (S : Sto) : cmpD .is_ (.bl b) .non S = .ok (.bl false) S := (rfl)
@[simp] theorem cmp_isN_int (b : Int) (S : Sto) : cmpD .is_ (.int b) .non S = .ok (.bl false) S := (rfl)
@[simp] theorem cmp_isN_str (b : Str) (S : Sto) : cmpD .is_ (.str b) .non S = .ok (.bl false) S := (rfl)
@[simp] theorem cmp_isN_tup (b : List D) (S : Sto) : cmpD .is_ (.tup b) .non S = .ok (.bl false) S := (rfl)
@[simp] theorem cmp_isN_lv (b : List D) (S : Sto) : cmpD .is_ (.lv b) .non S = .ok (.bl false) S := (rfl)
@[simp] theorem cmp_isN_ref (b : Nat) (S : Sto) : cmpD .is_ (.ref b) .non S = .ok (.bl false) S := (rfl)
@[simp] theorem int_int (i : Int) (S : Sto) : bltD .int [.int i] S = .ok (.int i) S := (rfl)
@[simp] theorem int_bl (b : Bool) (S : Sto) : bltD .int [.bl b] S = .ok (.int (if b then 1 else 0)) S := (rfl)
@[simp] theorem abs_int (i : Int) (S : Sto) : bltD .abs [.int i] S = .ok (.int (if i < 0 then -i else i)) S := (rfl)
@[simp] theorem len_lv (xs : List D) (S : Sto) : bltD .len [.lv xs] S = .ok (.int xs.length) S := (rfl)
@[simp] theorem len_tup (xs : List D) (S : Sto) : bltD .len [.tup xs] S = .ok (.int xs.length) S := (rfl)
theorem len_str {x : Str} (h : x.length ≤ lim) (S : Sto) : bltD .len [.str x] S = .ok (.int x.length) S := by simp [bltD, lenD, lengthOf, h]
theorem ix_lv {xs : List D} {i : Int} {d : D} (h : atI xs i = some d) (S : Sto) : ixD (.lv xs) (.int i) S = .ok d S := by simp [ixD, items, h]
theorem ix_tp {xs : List D} {i : Int} {d : D} (h : atI xs i = some d) (S : Sto) : ixD (.tup xs) (.int i) S = .ok d S := by simp [ixD, items, h]
theorem ix_ref {n : Nat} {xs : List D} {i : Int} {d : D} {S : Sto} (hs : S[n]? = some (.lst xs)) (h : atI xs i = some d) : ixD (.ref n) (.int i) S = .ok d S := by simp [ixD, items, h, hs]
theorem ix_st {x : Str} {i : Int} {c : Nat} (hl : x.length ≤ lim) (h : atI x.cps.toList i = some c) (S : Sto) : ixD (.str x) (.int i) S = .ok (.str ⟨#[c]⟩) S := by simp [ixD, hl, h]
theorem seti_ref {n : Nat} {xs : List D} {i : Int} {j : Nat} {d : D} {S : Sto} (hs : S[n]? = some (.lst xs)) (h : ixN xs.length i = some j) : setiD (.ref n) (.int i) d S = .ok () (S.set n (.lst (xs.set j d))) := by simp [setiD, hs, h]
theorem get_set {S : Sto} {n : Nat} {o o' : O} (h : S[n]? = some o) : (S.set n o')[n]? = some o' := by
  rw [List.getElem?_set_self (List.getElem?_eq_some_iff.mp h).1]
/-! ### small numbers of the index -/
@[simp] theorem ix5_0 {a b c d e : D} : atI [a, b, c, d, e] 0 = some a := (rfl)
@[simp] theorem ix5_1 {a b c d e : D} : atI [a, b, c, d, e] 1 = some b := (rfl)
@[simp] theorem ix5_2 {a b c d e : D} : atI [a, b, c, d, e] 2 = some c := (rfl)
@[simp] theorem ix5_3 {a b c d e : D} : atI [a, b, c, d, e] 3 = some d := (rfl)
@[simp] theorem ix5_4 {a b c d e : D} : atI [a, b, c, d, e] 4 = some e := (rfl)
/-! ### the law's box -/
def boxO (sc : List Int) (p c l g : Int) : O := .lst [.lv (sc.map .int), .int p, .int c, .int l, .int g]
def IsBox (o : O) : Prop := ∃ sc p c l g, o = boxO sc p c l g ∧ 0 ≤ p
structure BoxAt (S : Sto) (b : Nat) : Prop where
  ex : ∃ o, S[b]? = some o ∧ IsBox o
theorem BoxAt.set {S : Sto} {b : Nat} {o : O} (h : BoxAt S b) (ho : IsBox o) : BoxAt (S.set b o) b := by
  obtain ⟨o', e, _⟩ := h.ex
  exact ⟨o, get_set e, ho⟩
theorem log2_small {i : Int} (h0 : 0 < i) (h : i < 2 ^ 250) : i.natAbs.log2 < 9000 := by
  have h1 : i.natAbs < 2 ^ 250 := by
    have h2 : ((2 : Int) ^ 250) = ((2 ^ 250 : Nat) : Int) := by norm_cast
    rw [h2] at h
    omega
  have h2 : i.natAbs.log2 < 250 := (Nat.log2_lt (by omega)).mpr h1
  omega
theorem pow_int {i j : Int} (h : 0 ≤ j ∧ j ≤ 1000000 ∧ i.natAbs < 2 ^ 64) (S : Sto) : binD .pow (.int i) (.int j) S = .ok (.int (i ^ j.toNat)) S := by simp only [binD, h, and_self, if_true]
theorem atI_ex {α : Type} {xs : List α} {r : Int} (h0 : 0 ≤ r) (h1 : r < xs.length) : ∃ d, d ∈ xs ∧ atI xs r = some d := by
  obtain ⟨n, rfl⟩ : ∃ n : Nat, r = n := ⟨r.toNat, by omega⟩
  have hn : n < xs.length := by omega
  exact ⟨xs[n], List.getElem_mem hn, atI_nat (List.getElem?_eq_getElem hn)⟩
theorem str_len (x y : Str) : (x ++ y).length = x.length + y.length := by
  show (x.cps ++ y.cps).size = _
  rw [Array.size_append]
  rfl
theorem str_list (x y : Str) : (x ++ y).cps.toList = x.cps.toList ++ y.cps.toList := by
  show (x.cps ++ y.cps).toList = _
  simp
theorem one_len (c : Nat) : (⟨#[c]⟩ : Str).length = 1 := (rfl)
/-- x in a tuple, a list of texts -/
theorem inV_strs (t : Str) (rs : List Str) : inV (.str t) ((rs.map D.str).map toV) = decide (t ∈ rs) := by
  unfold inV
  induction rs with
  | nil => rfl
  | cons a r ih =>
    simp only [List.map_cons, List.any_cons, ih]
    show ((a == t) || decide (t ∈ r)) = decide (t ∈ a :: r)
    by_cases h : a = t
    · subst h; simp
    · have : (a == t) = false := beq_eq_false_iff_ne.mpr h
      rw [this]
      have h2 : ¬ t = a := fun e => h e.symm
      simp [h2]
theorem flat_strs (rs : List Str) : (rs.map D.str).all flatD = true := by
  induction rs with
  | nil => rfl
  | cons a r ih => simp [flatD]
theorem in_tup (t : Str) (rs : List Str) (S : Sto) : cmpD .in_ (.str t) (.tup (rs.map D.str)) S = .ok (.bl (decide (t ∈ rs))) S := by
  have f := flat_strs rs
  have e : inD S (.str t) (.tup (rs.map D.str)) = some (decide (t ∈ rs)) := by
    simp only [inD, items, isSeq, flatD, f, Bool.and_true, if_true, inV_strs]
    simp only [toV, inV_strs]
  simp [cmpD, cmpO, e]
theorem in_lv (t : Str) (rs : List Str) (S : Sto) : cmpD .in_ (.str t) (.lv (rs.map D.str)) S = .ok (.bl (decide (t ∈ rs))) S := by
  have f := flat_strs rs
  have e : inD S (.str t) (.lv (rs.map D.str)) = some (decide (t ∈ rs)) := by
    simp only [inD, items, isSeq, flatD, f, Bool.and_true, if_true]
    simp only [toV, inV_strs]
  simp [cmpD, cmpO, e]
theorem nin_lv (t : Str) (rs : List Str) (S : Sto) : cmpD .nin (.str t) (.lv (rs.map D.str)) S = .ok (.bl (!decide (t ∈ rs))) S := by
  have f := flat_strs rs
  have e : inD S (.str t) (.lv (rs.map D.str)) = some (decide (t ∈ rs)) := by
    simp only [inD, items, isSeq, flatD, f, Bool.and_true, if_true]
    simp only [toV, inV_strs]
  simp [cmpD, cmpO, e]
theorem in_sign (c : Nat) (y : Str) (S : Sto) : cmpD .in_ (.str ⟨#[c]⟩) (.str y) S = .ok (.bl (decide (c ∈ y.cps.toList))) S := (rfl)
theorem nin_sign (c : Nat) (y : Str) (S : Sto) : cmpD .nin (.str ⟨#[c]⟩) (.str y) S = .ok (.bl (!decide (c ∈ y.cps.toList))) S := (rfl)
theorem bools_of (bs : List Bool) : boolsOf (bs.map D.bl) = some bs := by
  induction bs with
  | nil => rfl
  | cons a r ih => simp [boolsOf, ih]
theorem all_lv (bs : List Bool) (S : Sto) : bltD .all [.lv (bs.map D.bl)] S = .ok (.bl (bs.all id)) S := by simp [bltD, allD, listOf, bools_of]
theorem any_lv (bs : List Bool) (S : Sto) : bltD .any [.lv (bs.map D.bl)] S = .ok (.bl (bs.any id)) S := by simp [bltD, anyD, listOf, bools_of]
/-- a comprehension that leaves the store -/
theorem lcGo_pure {d : D} {tg : Tg} {σ : Sg} {cond elt : Sg → Sto → R D} {S : Sto} {xs : List D} {p : D → Bool} {f : D → D} (hi : items S d = some xs) (hl : xs.length ≤ lim)
    (h : ∀ x, x ∈ xs → ∃ σ1, setTg tg x (wipeD σ tg.slots) = some σ1 ∧ cond σ1 S = .ok (.bl (p x)) S ∧ (p x = true → elt σ1 S = .ok (f x) S)) :
    ∀ n i acc, i + n = xs.length + 1 → i ≤ xs.length → acc.length ≤ i → lcGo d tg σ cond elt n i acc S = .ok (.lv (acc ++ ((xs.drop i).filter p).map f)) S
  | 0, i, acc, e, h2, ha => by omega
  | n + 1, i, acc, e, h2, ha => by
    unfold lcGo
    simp only [hi]
    by_cases hx : i < xs.length
    · rw [List.getElem?_eq_getElem hx]
      obtain ⟨σ1, e1, e2, e3⟩ := h xs[i] (List.getElem_mem hx)
      have hd : xs.drop i = xs[i] :: xs.drop (i + 1) := List.drop_eq_getElem_cons hx
      simp only [e1, e2, R.bind_ok, tr_bl]
      cases hp : p xs[i] with
      | true =>
        simp only [e3 hp, R.bind_ok]
        rw [if_pos (by omega), lcGo_pure hi hl h n (i + 1) _ (by omega) (by omega) (by simp; omega), hd, List.filter_cons_of_pos hp, List.map_cons, List.append_assoc]
        rfl
      | false =>
        simp only
        rw [lcGo_pure hi hl h n (i + 1) acc (by omega) (by omega) (by omega), hd, List.filter_cons_of_neg (by simp [hp])]
    · rw [List.getElem?_eq_none (by omega), List.drop_eq_nil_of_le (by omega)]
      simp
end Ev

namespace Ev
open PySem L2
/-! ### the evaluator, a step at a time: what is to come stands in a name -/
def k2 (f : D → D → Sto → R D) (g : Sto → R D) (x : D) (S : Sto) : R D := (g S).bind (f x)
def negK (x : D) (S : Sto) : R D := match x with | .int i => .ok (.int (-i)) S | _ => .stuck
def notK (x : D) (S : Sto) : R D := match x with | .bl b => .ok (.bl (!b)) S | _ => .stuck
def chK1 (o o2 : COp) (g h : Sto → R D) (x : D) (S : Sto) : R D := (g S).bind fun y S => (cmpD o x y S).bind fun k S => match k with
    | .bl true => (h S).bind fun z S => cmpD o2 y z S
    | .bl false => .ok (.bl false) S
    | _ => .stuck
def chK2 (o2 : COp) (h : Sto → R D) (y : D) (k : D) (S : Sto) : R D := match k with
    | .bl true => (h S).bind (cmpD o2 y)
    | .bl false => .ok (.bl false) S
    | _ => .stuck
def chK3 (o o2 : COp) (h : Sto → R D) (x y : D) (S : Sto) : R D := (cmpD o x y S).bind (chK2 o2 h y)
def andK (g : Sto → R D) (x : D) (S : Sto) : R D := match x with | .bl true => g S | .bl false => .ok (.bl false) S | _ => .stuck
def orK (g : Sto → R D) (x : D) (S : Sto) : R D := match x with | .bl true => .ok (.bl true) S | .bl false => g S | _ => .stuck
def iteK {α : Type} (f g : Sto → R α) (b : Bool) (S : Sto) : R α := match b with | true => f S | false => g S
def tupK (vs : List D) (S : Sto) : R D := if vs.length ≤ lim then .ok (.tup vs) S else .stuck
def lstK (vs : List D) (S : Sto) : R D := if vs.length ≤ lim then .ok (.lv vs) S else .stuck
def lstMK (vs : List D) (S : Sto) : R D := if vs.length ≤ lim then thaw (.lv vs) S else .stuck
def slK1 (g h : Sto → R (Option Int)) (x : D) (S : Sto) : R D := (g S).bind fun l S => (h S).bind fun u S => slD x l u S
def slK2 (h : Sto → R (Option Int)) (x : D) (l : Option Int) (S : Sto) : R D := (h S).bind fun u S => slD x l u S
def bltMK (f : Blt) (vs : List D) (S : Sto) : R D := (bltD f vs S).bind thaw
def methK (m : Mth) (g : Sto → R (List D)) (o : D) (S : Sto) : R D := match listOf S o with
    | some _ => (g S).bind (methD m o)
    | none => .stuck
def lcK (elt cond : Sg → Sto → R D) (tg : Tg) (σ : Sg) (d : D) (S : Sto) : R D := match items S d with
    | some xs => lcGo d tg σ cond elt (xs.length + 1) 0 [] S
    | none => .stuck
def lcK1 (elt cond : Sg → Sto → R D) (tg : Tg) (σ : Sg) (d : D) (S : Sto) : R D := match d with
    | .int j => if rngOk j then lcRg tg σ cond elt 0 j.toNat 0 [] S else .stuck
    | _ => .stuck
def consK (g : Sto → R (List D)) (x : D) (S : Sto) : R (List D) := (g S).bind fun xs S => .ok (x :: xs) S
def asgK (tg : Tg) (σ : Sg) (x : D) (S : Sto) : R Fl := match setTg tg x σ with
    | some σ1 => .ok (.nx σ1) S
    | none => .stuck
def stK1 (g h : Sto → R D) (σ : Sg) (x : D) (S : Sto) : R Fl := (g S).bind fun o S => (h S).bind fun i S => (setiD o i x S).bind fun _ S => .ok (.nx σ) S
def stK2 (h : Sto → R D) (σ : Sg) (x o : D) (S : Sto) : R Fl := (h S).bind fun i S => (setiD o i x S).bind fun _ S => .ok (.nx σ) S
def stK3 (σ : Sg) (x o i : D) (S : Sto) : R Fl := (setiD o i x S).bind fun _ S => .ok (.nx σ) S
def stK4 (σ : Sg) (_ : Unit) (S : Sto) : R Fl := .ok (.nx σ) S
def expK (σ : Sg) (_ : D) (S : Sto) : R Fl := .ok (.nx σ) S
def rtK (x : D) (S : Sto) : R Fl := .ok (.rt x) S
def forK (tg : Tg) (body : Sg → Sto → R Fl) (σ : Sg) (d : D) (S : Sto) : R Fl := match items S d with
    | some xs => forGo d tg body (xs.length + 1) 0 σ S
    | none => .stuck
def forK1 (tg : Tg) (body : Sg → Sto → R Fl) (σ : Sg) (d : D) (S : Sto) : R Fl := match d with
    | .int j => if rngOk j then forRg tg body 0 j.toNat 0 σ S else .stuck
    | _ => .stuck
def varK (o : Option (Option D)) (S : Sto) : R D := match o with
    | some (some d) => .ok d S
    | _ => .stuck
section
variable {Γ : Ctx} {σ : Sg} {S : Sto} {a b c t e lo hi elt cond : E} {es : Es} {op : BOp} {o o2 : COp} {x y : D} {g h : Sto → R D} {i : Nat} {tg : Tg} {d : D}
theorem eE_var : evE Γ (.var i) σ S = varK σ[i]? S := by rw [evE.eq_def]; rfl
theorem varK_s : varK (some (some d)) S = .ok d S := (rfl)
theorem eE_glob {z : Str} : evE Γ (.glob z) σ S = ofOpt S (Γ.con z) := by rw [evE.eq_def]
theorem eE_ty {z : String} : evE Γ (.ty z) σ S = .ok (.ty z) S := by rw [evE.eq_def]
theorem eE_int {z : Int} : evE Γ (.cint z) σ S = .ok (.int z) S := by rw [evE.eq_def]
theorem eE_str {z : Str} : evE Γ (.cstr z) σ S = .ok (.str z) S := by rw [evE.eq_def]
theorem eE_bl {z : Bool} : evE Γ (.cbl z) σ S = .ok (.bl z) S := by rw [evE.eq_def]
theorem eE_non : evE Γ .cnon σ S = .ok .non S := by rw [evE.eq_def]
theorem eE_bin : evE Γ (.bin op a b) σ S = (evE Γ a σ S).bind (k2 (binD op) (evE Γ b σ)) := by rw [evE.eq_def]; rfl
theorem eE_binM : evE Γ (.binM a b) σ S = (evE Γ a σ S).bind (k2 catM (evE Γ b σ)) := by rw [evE.eq_def]; rfl
theorem eE_cmp : evE Γ (.cmp o a b) σ S = (evE Γ a σ S).bind (k2 (cmpD o) (evE Γ b σ)) := by rw [evE.eq_def]; rfl
theorem eE_ix : evE Γ (.ix a b) σ S = (evE Γ a σ S).bind (k2 ixD (evE Γ b σ)) := by rw [evE.eq_def]; rfl
theorem k2_ap {f : D → D → Sto → R D} : k2 f g x S = (g S).bind (f x) := (rfl)
theorem eE_neg : evE Γ (.neg a) σ S = (evE Γ a σ S).bind negK := by rw [evE.eq_def]; rfl
theorem negK_i {z : Int} : negK (.int z) S = .ok (.int (-z)) S := (rfl)
theorem eE_not : evE Γ (.not a) σ S = (evE Γ a σ S).bind notK := by rw [evE.eq_def]; rfl
theorem notK_b {z : Bool} : notK (.bl z) S = .ok (.bl (!z)) S := (rfl)
theorem eE_chain : evE Γ (.chain o o2 a b c) σ S = (evE Γ a σ S).bind (chK1 o o2 (evE Γ b σ) (evE Γ c σ)) := by rw [evE.eq_def]; rfl
theorem chK1_ap : chK1 o o2 g h x S = (g S).bind (chK3 o o2 h x) := (rfl)
theorem chK3_ap : chK3 o o2 h x y S = (cmpD o x y S).bind (chK2 o2 h y) := (rfl)
theorem chK2_t : chK2 o2 h y (.bl true) S = (h S).bind (cmpD o2 y) := (rfl)
theorem chK2_f : chK2 o2 h y (.bl false) S = .ok (.bl false) S := (rfl)
theorem eE_and1 : evE Γ (.and1 a) σ S = evE Γ a σ S := by rw [evE.eq_def]
theorem eE_or1 : evE Γ (.or1 a) σ S = evE Γ a σ S := by rw [evE.eq_def]
theorem eE_and2 : evE Γ (.and2 a b) σ S = (evE Γ a σ S).bind (andK (evE Γ b σ)) := by rw [evE.eq_def]; rfl
theorem andK_t : andK g (.bl true) S = g S := (rfl)
theorem andK_f : andK g (.bl false) S = .ok (.bl false) S := (rfl)
theorem eE_or2 : evE Γ (.or2 a b) σ S = (evE Γ a σ S).bind (orK (evE Γ b σ)) := by rw [evE.eq_def]; rfl
theorem orK_t : orK g (.bl true) S = .ok (.bl true) S := (rfl)
theorem orK_f : orK g (.bl false) S = g S := (rfl)
theorem eE_ife : evE Γ (.ife t a b) σ S = ((evE Γ t σ S).bind tr).bind (iteK (evE Γ a σ) (evE Γ b σ)) := by rw [evE.eq_def]; rfl
theorem iteK_t {α : Type} {f g : Sto → R α} : iteK f g true S = f S := (rfl)
theorem iteK_f {α : Type} {f g : Sto → R α} : iteK f g false S = g S := (rfl)
theorem eE_tup : evE Γ (.tup es) σ S = (evEs Γ es σ S).bind tupK := by rw [evE.eq_def]; rfl
theorem eE_lst : evE Γ (.lst es) σ S = (evEs Γ es σ S).bind lstK := by rw [evE.eq_def]; rfl
theorem eE_lstM : evE Γ (.lstM es) σ S = (evEs Γ es σ S).bind lstMK := by rw [evE.eq_def]; rfl
theorem tupK_1 : tupK [x] S = .ok (.tup [x]) S := (rfl)
theorem tupK_2 : tupK [x, y] S = .ok (.tup [x, y]) S := (rfl)
theorem lstK_0 : lstK [] S = .ok (.lv []) S := (rfl)
theorem lstK_1 : lstK [x] S = .ok (.lv [x]) S := (rfl)
theorem lstK_n {vs : List D} (h : vs.length ≤ lim) : lstK vs S = .ok (.lv vs) S := by unfold lstK; rw [if_pos h]
theorem lstMK_n {vs : List D} (h : vs.length ≤ lim) : lstMK vs S = .ok (.ref S.length) (S ++ [.lst vs]) := by unfold lstMK; rw [if_pos h]; rfl
theorem eE_sl : evE Γ (.sl a lo hi) σ S = (evE Γ a σ S).bind (slK1 (evPart lo.isNop (evE Γ lo σ)) (evPart hi.isNop (evE Γ hi σ))) := by rw [evE.eq_def]; rfl
theorem slK1_ap {g h : Sto → R (Option Int)} : slK1 g h x S = (g S).bind (slK2 h x) := (rfl)
theorem slK2_ap {h : Sto → R (Option Int)} {l : Option Int} : slK2 h x l S = (h S).bind (slD x l) := (rfl)
theorem part_no {f : Sto → R D} : evPart true f S = .ok none S := (rfl)
theorem part_some {f : Sto → R D} {z : Int} {S' : Sto} (h : f S = .ok (.int z) S') : evPart false f S = .ok (some z) S' := by simp [evPart, h]
theorem eE_call {z f : Str} : evE Γ (.call z f es) σ S = (evEs Γ es σ S).bind (Γ.call z f) := by rw [evE.eq_def]
theorem eE_blt {f : Blt} : evE Γ (.blt f es) σ S = (evEs Γ es σ S).bind (bltD f) := by rw [evE.eq_def]
theorem eE_bltM {f : Blt} : evE Γ (.bltM f es) σ S = (evEs Γ es σ S).bind (bltMK f) := by rw [evE.eq_def]; rfl
theorem bltMK_ap {f : Blt} {vs : List D} : bltMK f vs S = (bltD f vs S).bind thaw := (rfl)
theorem thaw_lv {vs : List D} : thaw (.lv vs) S = .ok (.ref S.length) (S ++ [.lst vs]) := (rfl)
theorem eE_meth {m : Mth} : evE Γ (.meth m a es) σ S = (evE Γ a σ S).bind (methK m (evEs Γ es σ)) := by rw [evE.eq_def]; rfl
theorem methK_ref {m : Mth} {g : Sto → R (List D)} {n : Nat} {xs : List D} (hs : S[n]? = some (.lst xs)) : methK m g (.ref n) S = (g S).bind (methD m (.ref n)) := by simp [methK, listOf, hs]
theorem eE_lcS : evE Γ (.lc elt tg (.seq e) cond) σ S = (evE Γ e σ S).bind (lcK (evE Γ elt) (evE Γ cond) tg σ) := by rw [evE.eq_def]; rfl
theorem eE_lcR : evE Γ (.lc elt tg (.rng1 e) cond) σ S = (evE Γ e σ S).bind (lcK1 (evE Γ elt) (evE Γ cond) tg σ) := by rw [evE.eq_def]; rfl
theorem eE_frz : evE Γ (.frz a) σ S = (evE Γ a σ S).bind frzD := by rw [evE.eq_def]
theorem eE_rev : evE Γ (.rev a) σ S = (evE Γ a σ S).bind revD := by rw [evE.eq_def]
theorem rev_lv {vs : List D} : revD (.lv vs) S = .ok (.lv vs.reverse) S := (rfl)
theorem frz_ref {n : Nat} {xs : List D} (hs : S[n]? = some (.lst xs)) : frzD (.ref n) S = .ok (.lv xs) (S.set n .dead) := by simp [frzD, hs]
theorem eEs_nil : evEs Γ .nil σ S = .ok [] S := by rw [evEs.eq_def]
theorem eEs_cons : evEs Γ (.cons e es) σ S = (evE Γ e σ S).bind (consK (evEs Γ es σ)) := by rw [evEs.eq_def]; rfl
def cnsK (x : D) (xs : List D) (S : Sto) : R (List D) := .ok (x :: xs) S
theorem consK_ap {g : Sto → R (List D)} : consK g x S = (g S).bind (cnsK x) := (rfl)
theorem cnsK_ap {xs : List D} : cnsK x xs S = .ok (x :: xs) S := (rfl)
variable {s : Ev.S} {ss p q : Ss}
theorem eSs_nil : evSs Γ .nil σ S = .ok (.nx σ) S := by rw [evSs.eq_def]
theorem eSs_cons : evSs Γ (.cons s ss) σ S = (evS Γ s σ S).bind (seqK (evSs Γ ss)) := by rw [evSs.eq_def]
theorem eS_asg : evS Γ (.asg tg e) σ S = (evE Γ e σ S).bind (asgK tg σ) := by rw [evS.eq_def]; rfl
theorem asgK_nm : asgK (.nm i) σ x S = .ok (.nx (σ.set i (some x))) S := (rfl)
theorem eS_seti : evS Γ (.seti a b e) σ S = (evE Γ e σ S).bind (stK1 (evE Γ a σ) (evE Γ b σ) σ) := by rw [evS.eq_def]; rfl
theorem stK1_ap : stK1 g h σ x S = (g S).bind (stK2 h σ x) := (rfl)
theorem stK2_ap : stK2 h σ x y S = (h S).bind (stK3 σ x y) := (rfl)
theorem stK3_ap : stK3 σ x y d S = (setiD y d x S).bind (stK4 σ) := (rfl)
theorem stK4_ap {u : Unit} : stK4 σ u S = .ok (.nx σ) S := (rfl)
theorem eS_expr : evS Γ (.expr e) σ S = (evE Γ e σ S).bind (expK σ) := by rw [evS.eq_def]; rfl
theorem expK_ap : expK σ x S = .ok (.nx σ) S := (rfl)
theorem eS_ret : evS Γ (.ret e) σ S = (evE Γ e σ S).bind rtK := by rw [evS.eq_def]; rfl
theorem rtK_ap : rtK x S = .ok (.rt x) S := (rfl)
theorem eS_ifs : evS Γ (.ifs t p q) σ S = ((evE Γ t σ S).bind tr).bind (iteK (evSs Γ p σ) (evSs Γ q σ)) := by rw [evS.eq_def]; rfl
theorem eS_forS : evS Γ (.for_ tg (.seq e) p) σ S = (evE Γ e σ S).bind (forK tg (evSs Γ p) σ) := by rw [evS.eq_def]; rfl
theorem eS_forR : evS Γ (.for_ tg (.rng1 e) p) σ S = (evE Γ e σ S).bind (forK1 tg (evSs Γ p) σ) := by rw [evS.eq_def]; rfl
theorem eS_whl : evS Γ (.whl t p) σ S = whGo (evE Γ t) (evSs Γ p) Γ.w σ S := by rw [evS.eq_def]
theorem eS_pass : evS Γ .pass σ S = .ok (.nx σ) S := by rw [evS.eq_def]
theorem eS_ctn : evS Γ .ctn σ S = .ok (.ct σ) S := by rw [evS.eq_def]
theorem eS_brk : evS Γ .brk σ S = .ok (.bk σ) S := by rw [evS.eq_def]
theorem eS_retN : evS Γ .retN σ S = .ok (.rt .non) S := by rw [evS.eq_def]
end
/-! ### loops as folds -/
/-- a loop over range(n), by an invariant of the turn, the slots and the store -/
theorem forRg_inv {tg : Tg} {body : Sg → Sto → R Fl} {lo : Int} (P : Nat → Sg → Sto → Prop) {N : Nat} (hs : ∀ i σ S, i < N → P i σ S → ∃ σ1, setTg tg (.int (lo + i)) σ = some σ1 ∧ ((∃ σ2 S2, body σ1 S = .ok (.nx σ2) S2 ∧ P (i + 1) σ2 S2))) :
    ∀ n i σ S, i + n = N → P i σ S → ∃ σ' S', forRg tg body lo n i σ S = .ok (.nx σ') S' ∧ P N σ' S'
  | 0, i, σ, S, e, p => ⟨σ, S, rfl, by have : i = N := by omega
                                       subst this; exact p⟩
  | n + 1, i, σ, S, e, p => by
    obtain ⟨σ1, e1, σ2, S2, e2, p2⟩ := hs i σ S (by omega) p
    obtain ⟨σ', S', e3, p3⟩ := forRg_inv P hs n (i + 1) σ2 S2 (by omega) p2
    refine ⟨σ', S', ?_, p3⟩
    simp only [forRg, e1, e2, R.bind_ok, loopK_nx, e3]
theorem forK1_nat {tg : Tg} {body : Sg → Sto → R Fl} {σ : Sg} {S : Sto} {n : Nat} (h : n < 2 ^ 62) : forK1 tg body σ (.int n) S = forRg tg body 0 n 0 σ S := by
  have : rngOk (n : Int) = true := by
    unfold rngOk
    rw [decide_eq_true_eq]
    have : ((2 : Int) ^ 62) = ((2 ^ 62 : Nat) : Int) := by norm_cast
    omega
  simp [forK1, this]
end Ev
namespace Ev
open PySem L2
theorem lcK_pure {elt cond : Sg → Sto → R D} {tg : Tg} {σ : Sg} {d : D} {S : Sto} {xs : List D} (p : D → Bool) (f : D → D) (hi : items S d = some xs) (hl : xs.length ≤ lim)
    (h : ∀ x, x ∈ xs → ∃ σ1, setTg tg x (wipeD σ tg.slots) = some σ1 ∧ cond σ1 S = .ok (.bl (p x)) S ∧ (p x = true → elt σ1 S = .ok (f x) S)) : lcK elt cond tg σ d S = .ok (.lv ((xs.filter p).map f)) S := by
  unfold lcK
  simp only [hi]
  rw [lcGo_pure hi hl h (xs.length + 1) 0 [] (by omega) (by omega) (by simp)]
  simp
theorem ctx_call {T : Prg} {k : Nat} : (ctxOf T k).call = callN T k := (rfl)
end Ev
namespace Ev
open PySem L2
def partK (x : D) (S : Sto) : R (Option Int) := match x with
  | .int i => .ok (some i) S
  | _ => .stuck
theorem part_f {f : Sto → R D} {S : Sto} : evPart false f S = (f S).bind partK := by unfold evPart; rfl
theorem partK_i {i : Int} {S : Sto} : partK (.int i) S = .ok (some i) S := (rfl)
theorem sl_strD {x : Str} (h : x.length ≤ lim) (lo hi : Option Int) (S : Sto) : slD (.str x) lo hi S = .ok (.str (cutS x lo hi)) S := by simp [slD, h]
theorem cutS_list (x : Str) (lo hi : Option Int) : (cutS x lo hi).cps.toList = (x.cps.toList.drop (HT.sIx x.length 0 lo)).take (HT.sIx x.length x.length hi - HT.sIx x.length 0 lo) := by simp [cutS]
theorem cutS_len (x : Str) (lo hi : Option Int) : (cutS x lo hi).length ≤ x.length := by
  have h1 : (cutS x lo hi).length = (cutS x lo hi).cps.toList.length := by simp [Str.length]
  have h2 : x.length = x.cps.toList.length := by simp [Str.length]
  rw [h1, cutS_list, List.length_take, List.length_drop, ← h2]
  omega
end Ev
namespace Ev
open PySem L2
theorem lcRg_pure {tg : Tg} {σ : Sg} {cond elt : Sg → Sto → R D} {lo : Int} {S : Sto} {f : Nat → D} {N : Nat} (h : ∀ i, i < N → ∃ σ1, setTg tg (.int (lo + i)) (wipeD σ tg.slots) = some σ1 ∧ cond σ1 S = .ok (.bl true) S ∧ elt σ1 S = .ok (f i) S) :
    ∀ n i acc, i + n = N → acc.length + n ≤ lim → lcRg tg σ cond elt lo n i acc S = .ok (.lv (acc ++ (List.range' i n).map f)) S
  | 0, i, acc, _, _ => by simp [lcRg]
  | n + 1, i, acc, e, hl => by
    obtain ⟨σ1, e1, e2, e3⟩ := h i (by omega)
    unfold lcRg
    simp only [e1, e2, e3, R.bind_ok, tr_bl]
    rw [if_pos (by omega), lcRg_pure h n (i + 1) _ (by omega) (by simp; omega), List.range'_succ, List.map_cons, List.append_assoc]
    rfl
theorem lcK1_pure {tg : Tg} {σ : Sg} {cond elt : Sg → Sto → R D} {S : Sto} {n : Nat} (f : Nat → D) (hn : n ≤ lim) (h : ∀ i, i < n → ∃ σ1, setTg tg (.int (0 + (i : Int))) (wipeD σ tg.slots) = some σ1 ∧ cond σ1 S = .ok (.bl true) S ∧ elt σ1 S = .ok (f i) S) :
    lcK1 elt cond tg σ (.int n) S = .ok (.lv ((List.range n).map f)) S := by
  have hlim : lim = 100000 := rfl
  have hr : rngOk (n : Int) = true := by
    unfold rngOk
    rw [decide_eq_true_eq]
    have : ((2 : Int) ^ 62) = ((2 ^ 62 : Nat) : Int) := by norm_cast
    omega
  have e : lcK1 elt cond tg σ (.int n) S = lcRg tg σ cond elt 0 n 0 [] S := by simp [lcK1, hr]
  rw [e, lcRg_pure h n 0 [] (by omega) (by simp; omega), List.range_eq_range']
  simp
end Ev

namespace Ev
open PySem L2
/-! ### loops over sequences -/
theorem forGo_inv {d : D} {tg : Tg} {body : Sg → Sto → R Fl} {xs : List D} (P : Nat → Sg → Sto → Prop) (hi : ∀ i σ S, P i σ S → items S d = some xs)
    (hs : ∀ i σ S (h : i < xs.length), P i σ S → ∃ σ1, setTg tg xs[i] σ = some σ1 ∧ ∃ σ2 S2, body σ1 S = .ok (.nx σ2) S2 ∧ P (i + 1) σ2 S2) :
    ∀ n i σ S, i + n = xs.length + 1 → i ≤ xs.length → P i σ S → ∃ σ' S', forGo d tg body n i σ S = .ok (.nx σ') S' ∧ P xs.length σ' S'
  | 0, i, σ, S, e, h2, p => by omega
  | n + 1, i, σ, S, e, h2, p => by
    unfold forGo
    simp only [hi i σ S p]
    by_cases hx : i < xs.length
    · rw [List.getElem?_eq_getElem hx]
      obtain ⟨σ1, e1, σ2, S2, e2, p2⟩ := hs i σ S hx p
      simp only [e1, e2, R.bind_ok, loopK_nx]
      exact forGo_inv P hi hs n (i + 1) σ2 S2 (by omega) (by omega) p2
    · rw [List.getElem?_eq_none (by omega)]
      have : i = xs.length := by omega
      subst this
      exact ⟨σ, S, rfl, p⟩
theorem forK_inv {d : D} {tg : Tg} {body : Sg → Sto → R Fl} {xs : List D} {σ : Sg} {S : Sto} (P : Nat → Sg → Sto → Prop) (hi : ∀ i σ S, P i σ S → items S d = some xs)
    (hs : ∀ i σ S (h : i < xs.length), P i σ S → ∃ σ1, setTg tg xs[i] σ = some σ1 ∧ ∃ σ2 S2, body σ1 S = .ok (.nx σ2) S2 ∧ P (i + 1) σ2 S2) (p : P 0 σ S) :
    ∃ σ' S', forK tg body σ d S = .ok (.nx σ') S' ∧ P xs.length σ' S' := by
  unfold forK
  simp only [hi 0 σ S p]
  exact forGo_inv P hi hs (xs.length + 1) 0 σ S (by omega) (by omega) p
/-! ### pairs of numbers -/
def pr (p : Int × Int) : D := .tup [.int p.1, .int p.2]
def pl (l : List (Int × Int)) : List D := l.map pr
theorem pl_len (l : List (Int × Int)) : (pl l).length = l.length := List.length_map ..
theorem pl_app (l m : List (Int × Int)) : pl (l ++ m) = pl l ++ pl m := List.map_append ..
theorem pl_at {l : List (Int × Int)} {i : Nat} (h : i < (pl l).length) : (pl l)[i] = pr (l[i]'(by rw [pl_len] at h; exact h)) := List.getElem_map ..
theorem pr_0 (p : Int × Int) (S : Sto) : ixD (pr p) (.int 0) S = .ok (.int p.1) S := (rfl)
theorem pr_1 (p : Int × Int) (S : Sto) : ixD (pr p) (.int 1) S = .ok (.int p.2) S := (rfl)
def pLt (p q : Int × Int) : Bool := decide (p.1 < q.1 ∨ p.1 = q.1 ∧ p.2 < q.2)
theorem pr_lt (p q : Int × Int) (S : Sto) : cmpD .lt (pr p) (pr q) S = .ok (.bl (pLt p q)) S := by
  have : HT.lexLt [p.1, p.2] [q.1, q.2] = pLt p q := by
    simp [HT.lexLt, pLt]
    by_cases h : p.1 = q.1
    · by_cases h2 : p.2 < q.2
      · have : ¬ p.2 = q.2 := by omega
        simp [h, h2, this]
      · simp [h, h2]
    · simp [h]
  simp [cmpD, cmpO, ltD, pr, intsOf, this]
def plP (l : List (Int × Int)) : List PyData := l.map fun p => .tuple [.int p.1, .int p.2]
theorem toPys_pl (l : List (Int × Int)) : toPys (pl l) = some (plP l) := by
  induction l with
  | nil => rfl
  | cons p r ih =>
    have : toPy (pr p) = some (.tuple [.int p.1, .int p.2]) := by simp [pr, toPy, toPys]
    show toPys (pr p :: pl r) = _
    simp [toPys, this, ih, plP]
theorem plP_shape (l : List (Int × Int)) : PyData.canLayAll0 (plP l) = true ∧ PyData.depthAll (plP l) ≤ 1 := by
  induction l with
  | nil => exact ⟨rfl, by decide⟩
  | cons p r ih =>
    obtain ⟨h1, h2⟩ := ih
    refine ⟨?_, ?_⟩
    · show PyData.canLayAll0 (_ :: plP r) = true
      simp [PyData.canLayAll0, PyData.canLay0, h1]
    · show PyData.depthAll (_ :: plP r) ≤ 1
      simp [PyData.depthAll, PyData.depth]
      omega
theorem shaped_pl (l : List (Int × Int)) : SeqAt.shaped (.list (plP l)) = true := by
  obtain ⟨h1, h2⟩ := plP_shape l
  simp [SeqAt.shaped, PyData.canLay0, PyData.depth, h1]
  omega
theorem eq_nil {d : D} {l : List (Int × Int)} {S : Sto} (h : topPy S d = some (.list (plP l))) (hs : eqS d (.lv []) = none) : cmpD .eq d (.lv []) S = .ok (.bl l.isEmpty) S := by
  have hn : topPy S (.lv []) = some (.list (plP [])) := by simp [topPy, toPy, toPys, plP]
  have e : eqD S d (.lv []) = some l.isEmpty := by
    unfold eqD
    rw [hs]
    simp only [h, hn, shaped_pl, Bool.and_self, if_true]
    cases l <;> simp [PyData.eqv, PyData.eqvAll, plP]
  simp [cmpD, cmpO, e]
theorem top_lv (l : List (Int × Int)) (S : Sto) : topPy S (.lv (pl l)) = some (.list (plP l)) := by simp [topPy, toPy, toPys_pl]
theorem top_ref {l : List (Int × Int)} {S : Sto} {n : Nat} (h : S[n]? = some (.lst (pl l))) : topPy S (.ref n) = some (.list (plP l)) := by simp [topPy, h, toPys_pl]
theorem eq_nil_ref {l : List (Int × Int)} {S : Sto} {n : Nat} (h : S[n]? = some (.lst (pl l))) : cmpD .eq (.ref n) (.lv []) S = .ok (.bl l.isEmpty) S := eq_nil (top_ref h) rfl
theorem ne_nil_lv (l : List (Int × Int)) (S : Sto) : cmpD .ne (.lv (pl l)) (.lv []) S = .ok (.bl (!l.isEmpty)) S := by
  have e := eq_nil (top_lv l S) rfl
  simp only [cmpD, cmpO] at e ⊢
  cases h : eqD S (.lv (pl l)) (.lv []) with
  | none => rw [h] at e; simp [ofOpt, R.bind] at e
  | some k => rw [h] at e; simp at e; simp [e]
/-! ### lists in the store -/
theorem get_app {S : Sto} {o : O} : (S ++ [o])[S.length]? = some o := by simp
theorem app_ref {n : Nat} {xs : List D} {d : D} {S : Sto} (hs : S[n]? = some (.lst xs)) (hl : xs.length < lim) : methD .append (.ref n) [d] S = .ok .non (S.set n (.lst (xs ++ [d]))) := by
  simp [methD, hs, Mth.run, appF, hl]
theorem ins_ref {n : Nat} {xs : List D} {d : D} {i : Int} {S : Sto} (hs : S[n]? = some (.lst xs)) (hl : xs.length < lim) (h0 : 0 ≤ i) (h1 : i ≤ 1000000) : methD .insert (.ref n) [.int i, d] S = .ok .non (S.set n (.lst (xs.take i.toNat ++ d :: xs.drop i.toNat))) := by
  have h2 : i < 2 ^ 62 := Int.lt_of_le_of_lt h1 (by decide)
  simp only [methD, hs, Mth.run, insF, hl, h0, h2, and_self, if_true]
theorem cat_ref {a b : D} {xs ys : List D} {S : Sto} (ha : listOf S a = some xs) (hb : listOf S b = some ys) (hl : xs.length + ys.length ≤ lim) (hx : ∀ i j, a = .int i → b = .int j → False) : catM a b S = .ok (.ref S.length) (S ++ [.lst (xs ++ ys)]) := by
  simp [catM, ha, hb, hl]
theorem add_lvref {xs ys : List D} {n : Nat} {S : Sto} (h : S[n]? = some (.lst ys)) (hl : xs.length + ys.length ≤ lim) : binD .add (.lv xs) (.ref n) S = .ok (.lv (xs ++ ys)) S := by
  simp [binD, listOf, h, hl]
theorem len_ref {n : Nat} {xs : List D} {S : Sto} (h : S[n]? = some (.lst xs)) : bltD .len [.ref n] S = .ok (.int xs.length) S := by simp [bltD, lenD, lengthOf, items, h]
theorem max_int (i j : Int) (S : Sto) : bltD .max [.int i, .int j] S = .ok (.int (if j > i then j else i)) S := (rfl)
theorem min_int (i j : Int) (S : Sto) : bltD .min [.int i, .int j] S = .ok (.int (if j < i then j else i)) S := (rfl)
theorem sl_lvD (xs : List D) (lo hi : Option Int) (S : Sto) : slD (.lv xs) lo hi S = .ok (.lv (cutD xs lo hi)) S := (rfl)
theorem sl_refD {n : Nat} {xs : List D} {S : Sto} (h : S[n]? = some (.lst xs)) (lo hi : Option Int) : slD (.ref n) lo hi S = .ok (.lv (cutD xs lo hi)) S := by simp [slD, listOf, h]
theorem six_nat (l d n : Nat) (h : n ≤ l) : HT.sIx l d (some (n : Int)) = n := by
  unfold HT.sIx
  simp only
  rw [if_neg (by omega)]
  omega
theorem cut_from (xs : List D) {n : Nat} (h : n ≤ xs.length) : cutD xs (some (n : Int)) none = xs.drop n := by
  unfold cutD
  rw [six_nat _ _ _ h]
  simp only [HT.sIx]
  rw [List.take_of_length_le (by simp)]
theorem cut_to (xs : List D) {n : Nat} (h : n ≤ xs.length) : cutD xs none (some (n : Int)) = xs.take n := by
  unfold cutD
  rw [six_nat _ _ _ h]
  simp [HT.sIx]
theorem cut_mid (xs : List D) {n m : Nat} (h : n ≤ m) (h2 : m ≤ xs.length) : cutD xs (some (n : Int)) (some (m : Int)) = (xs.drop n).take (m - n) := by
  unfold cutD
  rw [six_nat _ _ _ h2, six_nat _ _ _ (Nat.le_trans h h2)]
theorem ixN_last (n : Nat) : ixN (n + 1) (-1) = some n := by
  simp [ixN]
  omega
theorem ix_last_ref {n : Nat} {xs : List D} {d : D} {S : Sto} (hs : S[n]? = some (.lst (xs ++ [d]))) : ixD (.ref n) (.int (-1)) S = .ok d S := by
  apply ix_ref hs
  simp [atI, ixN_last]
theorem set_last_ref {n : Nat} {xs : List D} {d d' : D} {S : Sto} (hs : S[n]? = some (.lst (xs ++ [d]))) : setiD (.ref n) (.int (-1)) d' S = .ok () (S.set n (.lst (xs ++ [d']))) := by
  have := seti_ref (d := d') (j := xs.length) hs (i := -1) (by rw [List.length_append]; exact ixN_last _)
  rw [this]
  simp
theorem ref_lt {S : Sto} {n : Nat} {o : O} (h : S[n]? = some o) : n < S.length := by
  rcases Nat.lt_or_ge n S.length with h2 | h2
  · exact h2
  · rw [List.getElem?_eq_none h2] at h; cases h
theorem get_ne {S : Sto} {n m : Nat} {o : O} (h : n ≠ m) : (S.set n o)[m]? = S[m]? := List.getElem?_set_ne h
theorem get_old {S : Sto} {n : Nat} {o o' : O} (h : S[n]? = some o) : (S ++ [o'])[n]? = some o := by
  rw [List.getElem?_append_left (ref_lt h)]; exact h
/-! ### values that are compared with themselves -/
mutual
def depD : D → Nat
  | .tup xs => depDs xs + 1
  | .lv xs => depDs xs + 1
  | _ => 1
def depDs : List D → Nat
  | [] => 0
  | d :: ds => max (depD d) (depDs ds)
end
mutual
def okD : D → Bool
  | .non => true | .bl _ => true | .int _ => true | .str _ => true
  | .tup xs => decide (xs.length ≤ lim) && okDs xs
  | .lv xs => decide (xs.length ≤ lim) && okDs xs
  | _ => false
def okDs : List D → Bool
  | [] => true
  | d :: ds => okD d && okDs ds
end
theorem depDs_mem : ∀ {xs : List D} {d : D}, d ∈ xs → depD d ≤ depDs xs
  | a :: xs, d, h => by
    rcases List.mem_cons.mp h with rfl | h
    · simp only [depDs]; omega
    · have := depDs_mem h
      simp only [depDs]; omega
theorem okDs_mem : ∀ {xs : List D} {d : D}, okDs xs = true → d ∈ xs → okD d = true
  | a :: xs, d, ho, h => by
    simp only [okDs, Bool.and_eq_true] at ho
    rcases List.mem_cons.mp h with rfl | h
    · exact ho.1
    · exact okDs_mem ho.2 h
theorem isi_t {d : D} {S : Sto} {t n : String} {v : Bool} (h : tyName S d = some t) (k : kitB t n = some v) : bltD .isi [d, .ty n] S = .ok (.bl v) S := by simp [bltD, isiD, h, k]
theorem kb_lb : kitB "list" "bool" = some false := by decide +kernel
theorem kb_li : kitB "list" "int" = some false := by decide +kernel
theorem kb_ls : kitB "list" "str" = some false := by decide +kernel
theorem kb_lt : kitB "list" "tuple" = some false := by decide +kernel
theorem kb_ll : kitB "list" "list" = some true := by decide +kernel
theorem kb_tb : kitB "tuple" "bool" = some false := by decide +kernel
theorem kb_ti : kitB "tuple" "int" = some false := by decide +kernel
theorem kb_ts : kitB "tuple" "str" = some false := by decide +kernel
theorem kb_tt : kitB "tuple" "tuple" = some true := by decide +kernel
theorem kb_tl : kitB "tuple" "list" = some false := by decide +kernel
theorem kb_bb : kitB "bool" "bool" = some true := by decide +kernel
theorem kb_bi : kitB "bool" "int" = some true := by decide +kernel
theorem kb_ib : kitB "int" "bool" = some false := by decide +kernel
theorem kb_ii : kitB "int" "int" = some true := by decide +kernel
theorem kb_sb : kitB "str" "bool" = some false := by decide +kernel
theorem kb_si : kitB "str" "int" = some false := by decide +kernel
theorem kb_ss : kitB "str" "str" = some true := by decide +kernel
theorem cmp_is_non (S : Sto) : cmpD .is_ .non .non S = .ok (.bl true) S := (rfl)
theorem okD_pl {l : List (Int × Int)} (h : l.length ≤ lim) : okD (.lv (pl l)) = true ∧ depD (.lv (pl l)) ≤ 3 := by
  have h1 : okDs (pl l) = true := by
    induction l with
    | nil => rfl
    | cons p r ih =>
      show okDs (pr p :: pl r) = true
      have := ih (by simp at h; omega)
      simp [okDs, this, pr, okD, lim]
  have h2 : depDs (pl l) ≤ 2 := by
    clear h h1
    induction l with
    | nil => simp [pl, depDs]
    | cons p r ih =>
      show depDs (pr p :: pl r) ≤ 2
      simp [depDs, pr, depD]
      omega
  refine ⟨?_, ?_⟩
  · simp [okD, h1, pl_len, h]
  · simp [depD]; omega
end Ev

/-! Spans of whole numbers: separated lists, their members, merging, sweeping. -/
namespace Sp
open Ev (pLt)
abbrev Pt := Int × Int
def has (l : List Pt) (x : Int) : Prop := ∃ p, p ∈ l ∧ p.1 ≤ x ∧ x ≤ p.2
def Sep : List Pt → Prop
  | [] => True
  | p :: r => p.1 ≤ p.2 ∧ (∀ q, q ∈ r → p.2 + 1 < q.1) ∧ Sep r
theorem has_nil (x : Int) : ¬ has [] x := by rintro ⟨p, h, _⟩; cases h
theorem has_cons (p : Pt) (r : List Pt) (x : Int) : has (p :: r) x ↔ (p.1 ≤ x ∧ x ≤ p.2) ∨ has r x := by
  constructor
  · rintro ⟨q, h, h2⟩
    rcases List.mem_cons.mp h with rfl | h
    · exact .inl h2
    · exact .inr ⟨q, h, h2⟩
  · rintro (h | ⟨q, h, h2⟩)
    · exact ⟨p, List.mem_cons_self, h⟩
    · exact ⟨q, List.mem_cons_of_mem _ h, h2⟩
theorem has_app (l r : List Pt) (x : Int) : has (l ++ r) x ↔ has l x ∨ has r x := by
  constructor
  · rintro ⟨q, h, h2⟩
    rcases List.mem_append.mp h with h | h
    · exact .inl ⟨q, h, h2⟩
    · exact .inr ⟨q, h, h2⟩
  · rintro (⟨q, h, h2⟩ | ⟨q, h, h2⟩)
    · exact ⟨q, List.mem_append_left _ h, h2⟩
    · exact ⟨q, List.mem_append_right _ h, h2⟩
theorem Sep.ok {l : List Pt} (h : Sep l) : ∀ p, p ∈ l → p.1 ≤ p.2 := by
  induction l with
  | nil => intro p hp; cases hp
  | cons a r ih =>
    intro p hp
    rcases List.mem_cons.mp hp with rfl | hp
    · exact h.1
    · exact ih h.2.2 p hp
theorem sep_app {l r : List Pt} : Sep (l ++ r) ↔ Sep l ∧ Sep r ∧ ∀ p, p ∈ l → ∀ q, q ∈ r → p.2 + 1 < q.1 := by
  induction l with
  | nil => simp [Sep]
  | cons a l ih =>
    constructor
    · intro h
      obtain ⟨h1, h2, h3⟩ := h
      obtain ⟨i1, i2, i3⟩ := ih.mp h3
      refine ⟨⟨h1, fun q hq => h2 q (List.mem_append_left _ hq), i1⟩, i2, fun p hp q hq => ?_⟩
      rcases List.mem_cons.mp hp with rfl | hp
      · exact h2 q (List.mem_append_right _ hq)
      · exact i3 p hp q hq
    · rintro ⟨⟨h1, h2, h3⟩, h4, h5⟩
      refine ⟨h1, fun q hq => ?_, ih.mpr ⟨h3, h4, fun p hp => h5 p (List.mem_cons_of_mem _ hp)⟩⟩
      rcases List.mem_append.mp hq with hq | hq
      · exact h2 q hq
      · exact h5 a List.mem_cons_self q hq
/-- two separated lists with the same members are equal -/
theorem sep_eq : ∀ (l m : List Pt), Sep l → Sep m → (∀ x, has l x ↔ has m x) → l = m
  | [], [], _, _, _ => rfl
  | [], q :: m, _, hm, h => absurd ((h q.1).mpr ((has_cons q m _).mpr (.inl ⟨Int.le_refl _, hm.1⟩))) (has_nil _)
  | p :: l, [], hl, _, h => absurd ((h p.1).mp ((has_cons p l _).mpr (.inl ⟨Int.le_refl _, hl.1⟩))) (has_nil _)
  | p :: l, q :: m, hl, hm, h => by
    have low : ∀ (p : Pt) (l : List Pt), Sep (p :: l) → ∀ x, has (p :: l) x → p.1 ≤ x := by
      rintro p l ⟨h1, h2, h3⟩ x hx
      rcases (has_cons p l x).mp hx with hx | ⟨q, hq, hx⟩
      · exact hx.1
      · have := h2 q hq; omega
    have rest : ∀ (p : Pt) (l : List Pt), Sep (p :: l) → ∀ x, has l x → p.2 + 1 < x := by
      rintro p l ⟨h1, h2, h3⟩ x ⟨q, hq, hx⟩
      have := h2 q hq; omega
    have e1 : p.1 = q.1 := by
      have a1 := low q m hm p.1 ((h _).mp ((has_cons p l _).mpr (.inl ⟨Int.le_refl _, hl.1⟩)))
      have a2 := low p l hl q.1 ((h _).mpr ((has_cons q m _).mpr (.inl ⟨Int.le_refl _, hm.1⟩)))
      omega
    have half : ∀ (p : Pt) (l : List Pt) (q : Pt) (m : List Pt), Sep (p :: l) → Sep (q :: m) → p.1 = q.1 → (∀ x, has (p :: l) x ↔ has (q :: m) x) → ¬ p.2 < q.2 := by
      intro p l q m hl hm e h hlt
      have hp := hl.1
      rcases (has_cons p l _).mp ((h (p.2 + 1)).mpr ((has_cons q m _).mpr (.inl ⟨by omega, by omega⟩))) with h | h
      · omega
      · have := rest p l hl _ h; omega
    have e2 : p.2 = q.2 := by
      have a1 := half p l q m hl hm e1 h
      have a2 := half q m p l hm hl e1.symm (fun x => (h x).symm)
      omega
    have e : p = q := Prod.ext e1 e2
    subst e
    rw [sep_eq l m hl.2.2 hm.2.2 (fun x => ?_)]
    constructor
    · intro hx
      rcases (has_cons p m x).mp ((h x).mp ((has_cons p l x).mpr (.inr hx))) with h2 | h2
      · have := rest p l hl x hx; omega
      · exact h2
    · intro hx
      rcases (has_cons p l x).mp ((h x).mpr ((has_cons p m x).mpr (.inr hx))) with h2 | h2
      · have := rest p m hm x hx; omega
      · exact h2
/-! ### merging -/
def mgA (l : List Pt) (lo : Int) : List Pt := l.filter fun p => decide (p.2 + 1 < lo)
def mgB (l : List Pt) (hi : Int) : List Pt := l.filter fun p => decide (hi + 1 < p.1)
def mgM (l : List Pt) (lo hi : Int) : List Pt := (l.drop (mgA l lo).length).take (l.length - (mgB l hi).length - (mgA l lo).length)
def foldM (l : List Pt) (a : Pt) : Pt := l.foldl (fun a p => (if p.1 < a.1 then p.1 else a.1, if p.2 > a.2 then p.2 else a.2)) a
def merged (l : List Pt) (lo hi : Int) : List Pt := mgA l lo ++ [foldM (mgM l lo hi) (lo, hi)] ++ mgB l hi
theorem mg_split {lo hi : Int} (h : lo ≤ hi) : ∀ {l : List Pt}, Sep l → ∃ M, l = mgA l lo ++ M ++ mgB l hi ∧ ∀ p, p ∈ M → lo ≤ p.2 + 1 ∧ p.1 ≤ hi + 1
  | [], _ => ⟨[], rfl, fun p hp => by cases hp⟩
  | p :: r, hs => by
    obtain ⟨M, e, hM⟩ := mg_split h hs.2.2
    have h1 := hs.1
    by_cases ha : p.2 + 1 < lo
    · refine ⟨M, ?_, hM⟩
      have e1 : mgA (p :: r) lo = p :: mgA r lo := by unfold mgA; rw [List.filter_cons_of_pos (by simpa using ha)]
      have e2 : mgB (p :: r) hi = mgB r hi := by unfold mgB; rw [List.filter_cons_of_neg (by simp; omega)]
      rw [e1, e2, List.cons_append, List.cons_append, ← e]
    · have e1 : mgA (p :: r) lo = [] := by
        unfold mgA
        rw [List.filter_eq_nil_iff]
        intro q hq
        rcases List.mem_cons.mp hq with rfl | hq
        · simpa using ha
        · have a1 := hs.2.1 q hq
          have a2 := hs.2.2.ok q hq
          simp; omega
      have e3 : mgA r lo = [] := by
        unfold mgA at e1 ⊢
        rw [List.filter_eq_nil_iff] at e1 ⊢
        exact fun q hq => e1 q (List.mem_cons_of_mem _ hq)
      by_cases hb : hi + 1 < p.1
      · have e2 : mgB (p :: r) hi = p :: r := by
          unfold mgB
          rw [List.filter_eq_self]
          intro q hq
          rcases List.mem_cons.mp hq with rfl | hq
          · simpa using hb
          · have a1 := hs.2.1 q hq
            simp; omega
        exact ⟨[], by rw [e1, e2]; rfl, fun p hp => by cases hp⟩
      · have e2 : mgB (p :: r) hi = mgB r hi := by unfold mgB; rw [List.filter_cons_of_neg (by simpa using hb)]
        refine ⟨p :: M, ?_, fun q hq => ?_⟩
        · rw [e1, e2]
          rw [e3] at e
          rw [List.nil_append] at e ⊢
          rw [List.cons_append, ← e]
        · rcases List.mem_cons.mp hq with rfl | hq
          · omega
          · exact hM q hq
theorem mg_mid {lo hi : Int} (h : lo ≤ hi) {l : List Pt} (hs : Sep l) : l = mgA l lo ++ mgM l lo hi ++ mgB l hi ∧ (∀ p, p ∈ mgM l lo hi → lo ≤ p.2 + 1 ∧ p.1 ≤ hi + 1) ∧ (mgA l lo).length + (mgB l hi).length ≤ l.length := by
  obtain ⟨M, e, hM⟩ := mg_split h hs
  have el : l.length = (mgA l lo).length + M.length + (mgB l hi).length := by
    have := congrArg List.length e
    simp only [List.length_append] at this
    exact this
  have em : mgM l lo hi = M := by
    unfold mgM
    generalize mgA l lo = A at *
    generalize mgB l hi = B at *
    subst e
    rw [List.append_assoc, List.drop_left]
    have : (A ++ (M ++ B)).length - B.length - A.length = M.length := by simp; omega
    rw [this, List.take_left]
  rw [em]
  exact ⟨e, hM, by omega⟩
theorem foldM_spec : ∀ (M : List Pt) (a : Pt), a.1 ≤ a.2 → (∀ p, p ∈ M → p.1 ≤ p.2 ∧ a.1 ≤ p.2 + 1 ∧ p.1 ≤ a.2 + 1) →
    (foldM M a).1 ≤ (foldM M a).2 ∧ (∀ x, ((foldM M a).1 ≤ x ∧ x ≤ (foldM M a).2) ↔ (a.1 ≤ x ∧ x ≤ a.2) ∨ has M x) ∧
    ((foldM M a).1 = a.1 ∨ ∃ p, p ∈ M ∧ (foldM M a).1 = p.1) ∧ ((foldM M a).2 = a.2 ∨ ∃ p, p ∈ M ∧ (foldM M a).2 = p.2)
  | [], a, h, _ => ⟨h, fun x => by simp [foldM, has_nil], .inl rfl, .inl rfl⟩
  | q :: M, a, h, hM => by
    obtain ⟨q1, q2, q3⟩ := hM q List.mem_cons_self
    have hb : ∃ b : Pt, b = (if q.1 < a.1 then q.1 else a.1, if q.2 > a.2 then q.2 else a.2) := ⟨_, rfl⟩
    obtain ⟨b, hb⟩ := hb
    have b1 : b.1 = if q.1 < a.1 then q.1 else a.1 := by rw [hb]
    have b2 : b.2 = if q.2 > a.2 then q.2 else a.2 := by rw [hb]
    have b1l : b.1 ≤ a.1 ∧ b.1 ≤ q.1 ∧ (b.1 = a.1 ∨ b.1 = q.1) := by split at b1 <;> omega
    have b2l : a.2 ≤ b.2 ∧ q.2 ≤ b.2 ∧ (b.2 = a.2 ∨ b.2 = q.2) := by split at b2 <;> omega
    have e : foldM (q :: M) a = foldM M b := by rw [hb]; rfl
    have ih := foldM_spec M b (by omega) (fun p hp => by
      obtain ⟨p1, p2, p3⟩ := hM p (List.mem_cons_of_mem _ hp)
      omega)
    obtain ⟨i1, i2, i3, i4⟩ := ih
    rw [e]
    refine ⟨i1, fun x => ?_, ?_, ?_⟩
    · rw [i2 x, has_cons]
      clear i2 i3 i4
      constructor
      · rintro (h | h)
        · by_cases hx : a.1 ≤ x ∧ x ≤ a.2
          · exact .inl hx
          · exact .inr (.inl (by omega))
        · exact .inr (.inr h)
      · rintro (h | h | h)
        · exact .inl (by omega)
        · exact .inl (by omega)
        · exact .inr h
    · rcases i3 with h | ⟨p, hp, h⟩
      · rcases b1l.2.2 with h2 | h2
        · exact .inl (by omega)
        · exact .inr ⟨q, List.mem_cons_self, by omega⟩
      · exact .inr ⟨p, List.mem_cons_of_mem _ hp, h⟩
    · rcases i4 with h | ⟨p, hp, h⟩
      · rcases b2l.2.2 with h2 | h2
        · exact .inl (by omega)
        · exact .inr ⟨q, List.mem_cons_self, by omega⟩
      · exact .inr ⟨p, List.mem_cons_of_mem _ hp, h⟩
theorem merged_spec {l : List Pt} {lo hi : Int} (hs : Sep l) (h : lo ≤ hi) : Sep (merged l lo hi) ∧ (∀ x, has (merged l lo hi) x ↔ has l x ∨ (lo ≤ x ∧ x ≤ hi)) ∧ (merged l lo hi).length ≤ l.length + 1 := by
  obtain ⟨e, hM, hl⟩ := mg_mid h hs
  have hs0 := hs
  rw [e] at hs
  obtain ⟨s1, s2, s3⟩ := sep_app.mp hs
  obtain ⟨t1, t2, t3⟩ := sep_app.mp s1
  have f := foldM_spec (mgM l lo hi) (lo, hi) h (fun p hp => ⟨t2.ok p hp, hM p hp⟩)
  obtain ⟨f1, f2, f3, f4⟩ := f
  have a1 : ∀ p, p ∈ mgA l lo → p.2 + 1 < lo := fun p hp => by simpa [mgA] using (List.mem_filter.mp hp).2
  have a2 : ∀ p, p ∈ mgB l hi → hi + 1 < p.1 := fun p hp => by simpa [mgB] using (List.mem_filter.mp hp).2
  refine ⟨?_, fun x => ?_, ?_⟩
  · unfold merged
    refine sep_app.mpr ⟨sep_app.mpr ⟨t1, ⟨f1, (fun q hq => by cases hq), trivial⟩, fun p hp q hq => ?_⟩, s2, fun p hp q hq => ?_⟩
    · simp at hq
      subst hq
      rcases f3 with h | ⟨m, hm, h⟩
      · rw [h]; exact a1 p hp
      · rw [h]; exact t3 p hp m hm
    · rcases List.mem_append.mp hp with hp | hp
      · exact s3 p (List.mem_append_left _ hp) q hq
      · simp at hp
        subst hp
        rcases f4 with h | ⟨m, hm, h⟩
        · rw [h]; exact a2 q hq
        · rw [h]; exact s3 m (List.mem_append_right _ hm) q hq
  · unfold merged
    rw [has_app, has_app, has_cons, f2 x]
    have hx : has l x ↔ (has (mgA l lo) x ∨ has (mgM l lo hi) x) ∨ has (mgB l hi) x := by
      rw [← has_app, ← has_app, ← e]
    rw [hx]
    have := has_nil x
    simp only
    grind
  · unfold merged
    simp
    omega
def tidy (l : List Pt) : List Pt := l.foldl (fun r p => merged r p.1 p.2) []
theorem tidy_go : ∀ (l r : List Pt), Sep r → (∀ p, p ∈ l → p.1 ≤ p.2) → Sep (l.foldl (fun r p => merged r p.1 p.2) r) ∧ (∀ x, has (l.foldl (fun r p => merged r p.1 p.2) r) x ↔ has r x ∨ has l x) ∧ (l.foldl (fun r p => merged r p.1 p.2) r).length ≤ r.length + l.length
  | [], r, hr, _ => ⟨hr, fun x => by simp [has_nil], by simp⟩
  | p :: l, r, hr, h => by
    obtain ⟨m1, m2, m3⟩ := merged_spec hr (h p List.mem_cons_self)
    obtain ⟨i1, i2, i3⟩ := tidy_go l _ m1 (fun q hq => h q (List.mem_cons_of_mem _ hq))
    refine ⟨i1, fun x => ?_, by simp only [List.foldl_cons, List.length_cons]; omega⟩
    rw [List.foldl_cons, i2 x, m2 x, has_cons]
    grind
theorem tidy_spec {l : List Pt} (h : ∀ p, p ∈ l → p.1 ≤ p.2) : Sep (tidy l) ∧ (∀ x, has (tidy l) x ↔ has l x) ∧ (tidy l).length ≤ l.length := by
  obtain ⟨a, b, c⟩ := tidy_go l [] trivial h
  refine ⟨a, fun x => ?_, by simpa [tidy] using c⟩
  have := b x
  simp only [has_nil, false_or] at this
  exact this
theorem tidy_sep {l : List Pt} (h : Sep l) : tidy l = l := by
  obtain ⟨a, b, _⟩ := tidy_spec h.ok
  exact sep_eq _ _ a h b
/-! ### sorting -/
def insA (r : List Pt) (t : Pt) : List Pt := r.filter fun p => pLt p t
def ins (r : List Pt) (t : Pt) : List Pt := insA r t ++ [t] ++ r.drop (insA r t).length
def rising (l : List Pt) : List Pt := l.foldl ins []
def Srt (r : List Pt) : Prop := r.Pairwise fun a b => pLt b a = false
theorem pLt_f {a b : Pt} : pLt a b = false ↔ b.1 < a.1 ∨ b.1 = a.1 ∧ b.2 ≤ a.2 := by
  unfold pLt
  rw [decide_eq_false_iff_not]
  omega
theorem pLt_t {a b : Pt} : pLt a b = true ↔ a.1 < b.1 ∨ a.1 = b.1 ∧ a.2 < b.2 := by
  unfold pLt
  rw [decide_eq_true_iff]
theorem ins_split (t : Pt) : ∀ {r : List Pt}, Srt r → r = insA r t ++ r.drop (insA r t).length ∧ ∀ p, p ∈ r.drop (insA r t).length → pLt p t = false
  | [], _ => ⟨rfl, fun p hp => by cases hp⟩
  | a :: r, h => by
    obtain ⟨h1, h2⟩ := List.pairwise_cons.mp h
    by_cases ha : pLt a t = true
    · have e : insA (a :: r) t = a :: insA r t := by unfold insA; rw [List.filter_cons_of_pos (p := fun p => pLt p t) ha]
      obtain ⟨i1, i2⟩ := ins_split t h2
      rw [e, List.length_cons, List.drop_succ_cons]
      exact ⟨by rw [List.cons_append, ← i1], i2⟩
    · have hn : ∀ p, p ∈ a :: r → pLt p t = false := by
        intro p hp
        have ha : pLt a t = false := by simpa using ha
        rcases List.mem_cons.mp hp with rfl | hp
        · exact ha
        · have := h1 p hp
          rw [pLt_f] at this ha ⊢
          omega
      have e : insA (a :: r) t = [] := by
        unfold insA
        rw [List.filter_eq_nil_iff]
        intro q hq
        simp [hn q hq]
      rw [e]
      exact ⟨rfl, hn⟩
theorem ins_spec {r : List Pt} (t : Pt) (h : Srt r) : Srt (ins r t) ∧ (∀ p, p ∈ ins r t ↔ p ∈ r ∨ p = t) ∧ (ins r t).length = r.length + 1 := by
  obtain ⟨e, hB⟩ := ins_split t h
  have hA : ∀ p, p ∈ insA r t → pLt p t = true := fun p hp => (List.mem_filter.mp hp).2
  unfold ins
  generalize insA r t = A at *
  generalize r.drop A.length = B at *
  subst e
  obtain ⟨p1, p2, p3⟩ := List.pairwise_append.mp h
  refine ⟨?_, fun p => by simp; grind, by simp; omega⟩
  unfold Srt
  rw [List.pairwise_append, List.pairwise_append]
  refine ⟨⟨p1, List.pairwise_singleton _ _, fun a ha b hb => ?_⟩, p2, fun a ha b hb => ?_⟩
  · simp at hb
    subst hb
    have := hA a ha
    rw [pLt_t] at this
    rw [pLt_f]
    omega
  · rcases List.mem_append.mp ha with ha | ha
    · exact p3 a ha b hb
    · simp at ha
      subst ha
      exact hB b hb
theorem rising_go : ∀ (l r : List Pt), Srt r → Srt (l.foldl ins r) ∧ (∀ p, p ∈ l.foldl ins r ↔ p ∈ r ∨ p ∈ l) ∧ (l.foldl ins r).length = r.length + l.length
  | [], r, h => ⟨h, fun p => by simp, rfl⟩
  | t :: l, r, h => by
    obtain ⟨a1, a2, a3⟩ := ins_spec t h
    obtain ⟨b1, b2, b3⟩ := rising_go l _ a1
    refine ⟨b1, fun p => ?_, by simp only [List.foldl_cons, List.length_cons]; omega⟩
    rw [List.foldl_cons, b2 p, a2 p, List.mem_cons]
    grind
theorem rising_spec (l : List Pt) : (rising l).Pairwise (fun a b => a.1 ≤ b.1) ∧ (∀ p, p ∈ rising l ↔ p ∈ l) ∧ (rising l).length = l.length := by
  obtain ⟨a1, a2, a3⟩ := rising_go l [] List.Pairwise.nil
  refine ⟨List.Pairwise.imp (fun {a b} h => ?_) a1, fun p => by simpa [rising] using a2 p, by simpa [rising] using a3⟩
  rw [pLt_f] at h
  omega
/-! ### sweeping -/
def swS (r : List Pt) (p : Pt) : List Pt := match r.getLast? with
  | none => [p]
  | some q => if p.1 > q.2 + 1 then r ++ [p] else if p.2 > q.2 then r.dropLast ++ [(q.1, p.2)] else r
def sweep (l : List Pt) : List Pt := l.foldl swS []
theorem sweep_go : ∀ (l r : List Pt), Sep r → (∀ p, p ∈ l → p.1 ≤ p.2) → l.Pairwise (fun a b => a.1 ≤ b.1) → (∀ q, r.getLast? = some q → ∀ p, p ∈ l → q.1 ≤ p.1) →
    Sep (l.foldl swS r) ∧ (∀ x, has (l.foldl swS r) x ↔ has r x ∨ has l x) ∧ (l.foldl swS r).length ≤ r.length + l.length
  | [], r, h, _, _, _ => ⟨h, fun x => by simp [has_nil], Nat.le_refl _⟩
  | p :: l, r, h, ho, hp, hq => by
    obtain ⟨p1, p2⟩ := List.pairwise_cons.mp hp
    have hop := ho p List.mem_cons_self
    have key : Sep (swS r p) ∧ (∀ x, has (swS r p) x ↔ has r x ∨ (p.1 ≤ x ∧ x ≤ p.2)) ∧ (swS r p).length ≤ r.length + 1 ∧ (∀ q, (swS r p).getLast? = some q → ∀ s, s ∈ l → q.1 ≤ s.1) := by
      rcases List.eq_nil_or_concat r with rfl | ⟨r', q, rfl⟩
      · have e : swS [] p = [p] := rfl
        rw [e]
        refine ⟨⟨hop, (fun q hq => by cases hq), trivial⟩, fun x => by rw [has_cons]; have := has_nil x; grind, by simp, fun q hq s hs => ?_⟩
        simp at hq
        subst hq
        exact p1 s hs
      · rw [List.concat_eq_append] at *
        have hqp := hq q (by simp) p List.mem_cons_self
        obtain ⟨s1, s2, s3⟩ := sep_app.mp h
        have hqo := s2.1
        unfold swS
        rw [List.getLast?_concat]
        simp only
        split
        · rename_i h1
          refine ⟨sep_app.mpr ⟨h, ⟨hop, (fun q hq => by cases hq), trivial⟩, fun a ha b hb => ?_⟩, fun x => by rw [has_app, has_cons]; have := has_nil x; grind, by simp, fun q hq s hs => ?_⟩
          · simp at hb
            subst hb
            rcases List.mem_append.mp ha with ha | ha
            · have := s3 a ha q (by simp); omega
            · simp at ha; subst ha; omega
          · rw [List.getLast?_concat] at hq
            cases hq
            exact p1 s hs
        · rename_i h1
          split
          · rename_i h2
            rw [List.dropLast_concat]
            refine ⟨sep_app.mpr ⟨s1, ⟨by simp only; omega, (fun q hq => by cases hq), trivial⟩, fun a ha b hb => ?_⟩, fun x => ?_, by simp, fun q' hq' s hs => ?_⟩
            · simp at hb
              subst hb
              exact s3 a ha q (by simp)
            · rw [has_app, has_cons, has_app, has_cons]
              have := has_nil x
              simp only
              constructor
              · rintro (h | h | h)
                · exact .inl (.inl h)
                · by_cases hx : x ≤ q.2
                  · exact .inl (.inr (.inl ⟨h.1, hx⟩))
                  · exact .inr (by omega)
                · exact absurd h this
              · rintro ((h | h | h) | h)
                · exact .inl h
                · exact .inr (.inl (by omega))
                · exact absurd h this
                · exact .inr (.inl (by omega))
            · rw [List.getLast?_concat] at hq'
              cases hq'
              exact hq q (by simp) s (List.mem_cons_of_mem _ hs)
          · rename_i h2
            refine ⟨h, fun x => ?_, by simp, fun q' hq' s hs => hq q' hq' s (List.mem_cons_of_mem _ hs)⟩
            constructor
            · exact .inl
            · rintro (h | h)
              · exact h
              · exact ⟨q, by simp, by omega⟩
    obtain ⟨k1, k2, k3, k4⟩ := key
    obtain ⟨i1, i2, i3⟩ := sweep_go l _ k1 (fun s hs => ho s (List.mem_cons_of_mem _ hs)) p2 k4
    refine ⟨i1, fun x => ?_, by simp only [List.foldl_cons, List.length_cons]; omega⟩
    rw [List.foldl_cons, i2 x, k2 x, has_cons]
    grind
theorem sweep_spec {l : List Pt} (ho : ∀ p, p ∈ l → p.1 ≤ p.2) : Sep (sweep (rising l)) ∧ (∀ x, has (sweep (rising l)) x ↔ has l x) ∧ (sweep (rising l)).length ≤ l.length := by
  obtain ⟨a1, a2, a3⟩ := rising_spec l
  obtain ⟨b1, b2, b3⟩ := sweep_go (rising l) [] trivial (fun p hp => ho p ((a2 p).mp hp)) a1 (fun q hq => by cases hq)
  refine ⟨b1, fun x => ?_, by simpa [sweep, a3] using b3⟩
  have := b2 x
  simp only [has_nil, false_or] at this
  rw [sweep, this]
  constructor
  · rintro ⟨p, hp, h⟩
    exact ⟨p, (a2 p).mp hp, h⟩
  · rintro ⟨p, hp, h⟩
    exact ⟨p, (a2 p).mpr hp, h⟩
theorem tidy_sweep {l : List Pt} (ho : ∀ p, p ∈ l → p.1 ≤ p.2) : tidy l = sweep (rising l) := by
  obtain ⟨a1, a2, _⟩ := tidy_spec ho
  obtain ⟨b1, b2, _⟩ := sweep_spec ho
  exact sep_eq _ _ a1 b1 fun x => (a2 x).trans (b2 x).symm
end Sp

namespace Ev
open PySem L2
/-! ### what a run leaves of the store -/
structure Fr (b : Nat) (S S' : Sto) : Prop where
  box : BoxAt S' b
  len : S.length ≤ S'.length
  old : ∀ n, n < S.length → n ≠ b → S'[n]? = S[n]?
theorem Fr.trans {b : Nat} {S S1 S2 : Sto} (h : Fr b S S1) (h2 : Fr b S1 S2) : Fr b S S2 :=
  ⟨h2.box, Nat.le_trans h.len h2.len, fun n hn hb => (h2.old n (Nat.lt_of_lt_of_le hn h.len) hb).trans (h.old n hn hb)⟩
theorem Fr.refl {b : Nat} {S : Sto} (h : BoxAt S b) : Fr b S S := ⟨h, Nat.le_refl _, fun _ _ _ => rfl⟩
theorem Fr.set {b : Nat} {S : Sto} {o : O} (h : BoxAt S b) (ho : IsBox o) : Fr b S (S.set b o) :=
  ⟨h.set ho, by simp, fun n _ hb => List.getElem?_set_ne (fun e => hb e.symm)⟩
theorem BoxAt.lt {S : Sto} {b : Nat} (h : BoxAt S b) : b < S.length := by
  obtain ⟨o, e, _⟩ := h.ex
  exact ref_lt e
theorem BoxAt.app {S T : Sto} {b : Nat} (h : BoxAt S b) : BoxAt (S ++ T) b := by
  obtain ⟨o, e, ho⟩ := h.ex
  exact ⟨o, by rw [List.getElem?_append_left (ref_lt e)]; exact e, ho⟩
theorem Fr.app {b : Nat} {S T : Sto} (h : BoxAt S b) : Fr b S (S ++ T) :=
  ⟨h.app, by simp, fun n hn _ => List.getElem?_append_left hn⟩
theorem Fr.at {b n : Nat} {S S' : Sto} {o : O} (h : Fr b S S') (hs : S[n]? = some o) (hb : n ≠ b) : S'[n]? = some o := by
  rw [h.old n (ref_lt hs) hb]; exact hs
/-- a change of another cell that stands behind the old ones -/
theorem Fr.put {b n : Nat} {S S' : Sto} {o : O} (h : Fr b S S') (hn : S.length ≤ n) (hb : n ≠ b) : Fr b S (S'.set n o) := by
  refine ⟨?_, by simpa using h.len, fun m hm hmb => ?_⟩
  · obtain ⟨o', e, ho⟩ := h.box.ex
    exact ⟨o', by rw [List.getElem?_set_ne hb]; exact e, ho⟩
  · rw [List.getElem?_set_ne (by omega)]
    exact h.old m hm hmb
theorem BoxAt.other {b n : Nat} {S : Sto} {o : O} (h : BoxAt S b) (hb : n ≠ b) : BoxAt (S.set n o) b := by
  obtain ⟨o', e, ho⟩ := h.ex
  exact ⟨o', by rw [List.getElem?_set_ne hb]; exact e, ho⟩
/-- a comprehension over pairs that keeps some -/
theorem lcK_pl {elt cond : Sg → Sto → R D} {tg : Tg} {σ : Sg} {d : D} {S : Sto} {l : List (Int × Int)} (q : Int × Int → Bool) (hi : items S d = some (pl l)) (hl : l.length ≤ lim)
    (h : ∀ p, p ∈ l → ∃ σ1, setTg tg (pr p) (wipeD σ tg.slots) = some σ1 ∧ cond σ1 S = .ok (.bl (q p)) S ∧ elt σ1 S = .ok (pr p) S) : lcK elt cond tg σ d S = .ok (.lv (pl (l.filter q))) S := by
  have e : ((pl l).filter fun d => match d with | .tup [.int a, .int b] => q (a, b) | _ => false).map id = pl (l.filter q) := by
    rw [List.map_id]
    unfold pl
    rw [List.filter_map]
    rfl
  rw [← e]
  refine lcK_pure _ _ hi (by rw [pl_len]; exact hl) fun x hx => ?_
  obtain ⟨p, hp, rfl⟩ := List.mem_map.mp hx
  obtain ⟨σ1, e1, e2, e3⟩ := h p hp
  exact ⟨σ1, e1, e2, fun _ => e3⟩
theorem pl_drop (l : List (Int × Int)) (n : Nat) : (pl l).drop n = pl (l.drop n) := by unfold pl; rw [List.map_drop]
theorem pl_take (l : List (Int × Int)) (n : Nat) : (pl l).take n = pl (l.take n) := by unfold pl; rw [List.map_take]
theorem tp_pr {i j : Nat} {p : Int × Int} {σ : Sg} : setTg (.tp [i, j]) (pr p) σ = some ((σ.set i (some (.int p.1))).set j (some (.int p.2))) := rfl
theorem atI_pl {l : List (Int × Int)} {r : Int} (h0 : 0 ≤ r) (h1 : r < l.length) : ∃ p, p ∈ l ∧ atI (pl l) r = some (pr p) := by
  obtain ⟨d, hd, e⟩ := atI_ex (xs := pl l) h0 (by rw [pl_len]; exact h1)
  obtain ⟨p, hp, rfl⟩ := List.mem_map.mp hd
  exact ⟨p, hp, e⟩
end Ev

/-! Cutting, joining and sizes of lists of spans. -/
namespace Sp
def piece (lo hi : Int) (p : Pt) : List Pt := if p.2 < lo ∨ hi < p.1 then [p] else (if p.1 < lo then [(p.1, lo - 1)] else []) ++ (if hi < p.2 then [(hi + 1, p.2)] else [])
def cut (l : List Pt) (lo hi : Int) : List Pt := l.flatMap (piece lo hi)
theorem piece_spec {lo hi : Int} {p : Pt} (h : lo ≤ hi) (hp : p.1 ≤ p.2) : Sep (piece lo hi p) ∧ (∀ q, q ∈ piece lo hi p → p.1 ≤ q.1 ∧ q.2 ≤ p.2) ∧ (∀ x, has (piece lo hi p) x ↔ (p.1 ≤ x ∧ x ≤ p.2) ∧ ¬ (lo ≤ x ∧ x ≤ hi)) := by
  unfold piece
  split
  · rename_i h1
    refine ⟨⟨hp, (fun q hq => by cases hq), trivial⟩, fun q hq => ?_, fun x => ?_⟩
    · simp at hq; subst hq; omega
    · rw [has_cons]
      have := has_nil x
      constructor
      · rintro (h | h)
        · exact ⟨h, by omega⟩
        · exact absurd h this
      · rintro ⟨h, _⟩
        exact .inl h
  · rename_i h1
    by_cases h2 : p.1 < lo
    · by_cases h3 : hi < p.2
      · rw [if_pos h2, if_pos h3]
        refine ⟨⟨by simp only; omega, fun q hq => ?_, by simp only; omega, (fun q hq => by cases hq), trivial⟩, fun q hq => ?_, fun x => ?_⟩
        · simp at hq; subst hq; simp only; omega
        · simp at hq; rcases hq with rfl | rfl <;> simp only <;> omega
        · rw [List.singleton_append, has_cons, has_cons]
          have := has_nil x
          simp only
          constructor
          · rintro (h | h | h)
            · omega
            · omega
            · exact absurd h this
          · rintro ⟨h4, h5⟩
            by_cases h6 : x < lo
            · exact .inl (by omega)
            · exact .inr (.inl (by omega))
      · rw [if_pos h2, if_neg h3]
        refine ⟨⟨by simp only; omega, (fun q hq => by cases hq), trivial⟩, fun q hq => ?_, fun x => ?_⟩
        · simp at hq; subst hq; simp only; omega
        · rw [List.append_nil, has_cons]
          have := has_nil x
          simp only
          constructor
          · rintro (h | h)
            · omega
            · exact absurd h this
          · rintro ⟨h4, h5⟩
            exact .inl (by omega)
    · by_cases h3 : hi < p.2
      · rw [if_neg h2, if_pos h3]
        refine ⟨⟨by simp only; omega, (fun q hq => by cases hq), trivial⟩, fun q hq => ?_, fun x => ?_⟩
        · simp at hq; subst hq; simp only; omega
        · rw [List.nil_append, has_cons]
          have := has_nil x
          simp only
          constructor
          · rintro (h | h)
            · omega
            · exact absurd h this
          · rintro ⟨h4, h5⟩
            exact .inl (by omega)
      · rw [if_neg h2, if_neg h3]
        refine ⟨trivial, (fun q hq => by cases hq), fun x => ?_⟩
        constructor
        · intro h
          exact absurd h (has_nil x)
        · rintro ⟨h4, h5⟩
          omega
theorem cut_spec {lo hi : Int} (h : lo ≤ hi) : ∀ {l : List Pt}, Sep l → Sep (cut l lo hi) ∧ (∀ q, q ∈ cut l lo hi → ∃ p, p ∈ l ∧ p.1 ≤ q.1 ∧ q.2 ≤ p.2) ∧ (∀ x, has (cut l lo hi) x ↔ has l x ∧ ¬ (lo ≤ x ∧ x ≤ hi)) ∧ (cut l lo hi).length ≤ l.length + 1
  | [], _ => ⟨trivial, (fun q hq => by cases hq), (fun x => by simp [cut, has_nil]), by simp [cut]⟩
  | p :: r, hs => by
    obtain ⟨i1, i2, i3, i4⟩ := cut_spec h hs.2.2
    obtain ⟨p1, p2, p3⟩ := piece_spec h hs.1
    have e : cut (p :: r) lo hi = piece lo hi p ++ cut r lo hi := rfl
    rw [e]
    refine ⟨sep_app.mpr ⟨p1, i1, fun a ha b hb => ?_⟩, fun q hq => ?_, fun x => ?_, ?_⟩
    · obtain ⟨c, hc, h1, h2⟩ := i2 b hb
      have h3 := hs.2.1 c hc
      have h4 := p2 a ha
      omega
    · rcases List.mem_append.mp hq with hq | hq
      · exact ⟨p, List.mem_cons_self, p2 q hq⟩
      · obtain ⟨c, hc, h1⟩ := i2 q hq
        exact ⟨c, List.mem_cons_of_mem _ hc, h1⟩
    · rw [has_app, p3 x, i3 x, has_cons]
      constructor
      · rintro (h | h)
        · exact ⟨.inl h.1, h.2⟩
        · exact ⟨.inr h.1, h.2⟩
      · rintro ⟨h | h, h2⟩
        · exact .inl ⟨h, h2⟩
        · exact .inr ⟨h, h2⟩
    · rw [List.length_append, List.length_cons]
      by_cases h2 : hi < p.2
      · have er : cut r lo hi = r := by
          have : ∀ r : List Pt, (∀ q, q ∈ r → hi < q.1) → cut r lo hi = r := by
            intro r
            induction r with
            | nil => intro _; rfl
            | cons a r ih =>
              intro hr
              have e : cut (a :: r) lo hi = piece lo hi a ++ cut r lo hi := rfl
              have h1 := hr a List.mem_cons_self
              rw [e, ih (fun q hq => hr q (List.mem_cons_of_mem _ hq))]
              unfold piece
              rw [if_pos (.inr h1)]
              rfl
          exact this r fun q hq => by have := hs.2.1 q hq; omega
        rw [er]
        have : (piece lo hi p).length ≤ 2 := by
          unfold piece
          split
          · simp
          · split <;> simp
        omega
      · have : (piece lo hi p).length ≤ 1 := by
          unfold piece
          split
          · simp
          · split <;> simp
        omega
def without (a b : List Pt) : List Pt := (tidy b).foldl (fun r p => cut r p.1 p.2) (tidy a)
theorem wo_go : ∀ (b r : List Pt), Sep r → (∀ p, p ∈ b → p.1 ≤ p.2) → Sep (b.foldl (fun r p => cut r p.1 p.2) r) ∧ (∀ x, has (b.foldl (fun r p => cut r p.1 p.2) r) x ↔ has r x ∧ ¬ has b x) ∧ (b.foldl (fun r p => cut r p.1 p.2) r).length ≤ r.length + b.length
  | [], r, hr, _ => ⟨hr, fun x => by simp [has_nil], by simp⟩
  | p :: b, r, hr, h => by
    obtain ⟨m1, _, m2, m3⟩ := cut_spec (h p List.mem_cons_self) hr
    obtain ⟨i1, i2, i3⟩ := wo_go b _ m1 (fun q hq => h q (List.mem_cons_of_mem _ hq))
    refine ⟨i1, fun x => ?_, by simp only [List.foldl_cons, List.length_cons]; omega⟩
    rw [List.foldl_cons, i2 x, m2 x, has_cons]
    grind
theorem without_spec {a b : List Pt} (ha : ∀ p, p ∈ a → p.1 ≤ p.2) (hb : ∀ p, p ∈ b → p.1 ≤ p.2) : Sep (without a b) ∧ (∀ x, has (without a b) x ↔ has a x ∧ ¬ has b x) ∧ (without a b).length ≤ a.length + b.length := by
  obtain ⟨a1, a2, a3⟩ := tidy_spec ha
  obtain ⟨b1, b2, b3⟩ := tidy_spec hb
  obtain ⟨c1, c2, c3⟩ := wo_go (tidy b) (tidy a) a1 b1.ok
  refine ⟨c1, fun x => ?_, by unfold without; omega⟩
  rw [without, c2 x, a2 x, b2 x]
def joined (a b : List Pt) : List Pt := tidy (a ++ tidy b)
def common (a b : List Pt) : List Pt := without (tidy a) (without (tidy a) b)
theorem ok_app {a b : List Pt} (ha : ∀ p, p ∈ a → p.1 ≤ p.2) (hb : ∀ p, p ∈ b → p.1 ≤ p.2) : ∀ p, p ∈ a ++ b → p.1 ≤ p.2 := fun p hp => by
  rcases List.mem_append.mp hp with hp | hp
  · exact ha p hp
  · exact hb p hp
theorem joined_spec {a b : List Pt} (ha : ∀ p, p ∈ a → p.1 ≤ p.2) (hb : ∀ p, p ∈ b → p.1 ≤ p.2) : Sep (joined a b) ∧ (∀ x, has (joined a b) x ↔ has a x ∨ has b x) ∧ (joined a b).length ≤ a.length + b.length := by
  obtain ⟨b1, b2, b3⟩ := tidy_spec hb
  obtain ⟨c1, c2, c3⟩ := tidy_spec (ok_app ha b1.ok)
  refine ⟨c1, fun x => ?_, by unfold joined; rw [List.length_append] at c3; omega⟩
  rw [joined, c2 x, has_app, b2 x]
theorem common_spec {a b : List Pt} (ha : ∀ p, p ∈ a → p.1 ≤ p.2) (hb : ∀ p, p ∈ b → p.1 ≤ p.2) : Sep (common a b) ∧ (∀ x, has (common a b) x ↔ has a x ∧ has b x) ∧ (common a b).length ≤ 2 * a.length + b.length := by
  obtain ⟨a1, a2, a3⟩ := tidy_spec ha
  obtain ⟨b1, b2, b3⟩ := without_spec a1.ok hb
  obtain ⟨c1, c2, c3⟩ := without_spec a1.ok b1.ok
  refine ⟨c1, fun x => ?_, by unfold common; omega⟩
  rw [common, c2 x, b2 x, a2 x]
  grind
/-! ### sizes -/
def size (l : List Pt) : Int := (l.map fun p => p.2 - p.1 + 1).sum
def bit : Bool → Int
  | true => 1
  | false => 0
def cnt (P : Int → Bool) (lo : Int) : Nat → Int
  | 0 => 0
  | n + 1 => cnt P lo n + bit (P (lo + n))
theorem cnt_congr {P Q : Int → Bool} (h : ∀ x, P x = Q x) (lo : Int) (n : Nat) : cnt P lo n = cnt Q lo n := by
  have : P = Q := funext h
  rw [this]
theorem cnt_incl (P Q : Int → Bool) (lo : Int) : ∀ n, cnt (fun x => P x || Q x) lo n + cnt (fun x => P x && Q x) lo n = cnt P lo n + cnt Q lo n
  | 0 => rfl
  | n + 1 => by
    have := cnt_incl P Q lo n
    simp only [cnt]
    cases h1 : P (lo + n) <;> cases h2 : Q (lo + n) <;> simp [bit] <;> omega
theorem cnt_diff (P Q : Int → Bool) (lo : Int) : ∀ n, cnt (fun x => P x && !Q x) lo n + cnt (fun x => P x && Q x) lo n = cnt P lo n
  | 0 => rfl
  | n + 1 => by
    have := cnt_diff P Q lo n
    simp only [cnt]
    cases h1 : P (lo + n) <;> cases h2 : Q (lo + n) <;> simp [bit] <;> omega
theorem cnt_none (P : Int → Bool) (lo : Int) (h : ∀ x, P x = false) : ∀ n, cnt P lo n = 0
  | 0 => rfl
  | n + 1 => by simp [cnt, cnt_none P lo h n, h, bit]
def inB (p : Pt) (x : Int) : Bool := decide (p.1 ≤ x) && decide (x ≤ p.2)
def hasB (l : List Pt) (x : Int) : Bool := l.any fun p => inB p x
theorem hasB_iff (l : List Pt) (x : Int) : hasB l x = true ↔ has l x := by
  simp [hasB, has, inB]
theorem cnt_in {p : Pt} {lo : Int} (hp : p.1 ≤ p.2) (hl : lo ≤ p.1) : ∀ n : Nat, cnt (inB p) lo n = if lo + n ≤ p.1 then 0 else if p.2 < lo + n then p.2 - p.1 + 1 else lo + n - p.1
  | 0 => by simp [cnt]; omega
  | n + 1 => by
    have := cnt_in hp hl n
    simp only [cnt, this]
    by_cases h1 : p.1 ≤ lo + n
    · by_cases h2 : lo + n ≤ p.2
      · have e : inB p (lo + n) = true := by simp [inB, h1, h2]
        rw [e]
        simp only [bit]
        split <;> split <;> omega
      · have e : inB p (lo + n) = false := by simp [inB, h1]; omega
        rw [e]
        simp only [bit]
        split <;> split <;> omega
    · have e : inB p (lo + n) = false := by simp [inB]; omega
      rw [e]
      simp only [bit]
      split <;> split <;> omega
theorem size_cnt {lo : Int} {n : Nat} : ∀ {l : List Pt}, Sep l → (∀ p, p ∈ l → lo ≤ p.1 ∧ p.2 < lo + n) → size l = cnt (hasB l) lo n
  | [], _, _ => by rw [cnt_none (hasB []) lo (fun x => rfl)]; rfl
  | p :: r, hs, h => by
    have ih := size_cnt hs.2.2 (fun q hq => h q (List.mem_cons_of_mem _ hq))
    obtain ⟨h1, h2⟩ := h p List.mem_cons_self
    have e : size (p :: r) = (p.2 - p.1 + 1) + size r := by simp [size]
    have i1 := cnt_in hs.1 h1 n
    rw [if_neg (by have := hs.1; omega), if_pos h2] at i1
    have inc := cnt_incl (inB p) (hasB r) lo n
    rw [cnt_none (fun x => inB p x && hasB r x) lo (fun x => ?_)] at inc
    · rw [e, ih]
      have : cnt (hasB (p :: r)) lo n = cnt (fun x => inB p x || hasB r x) lo n := cnt_congr (fun x => rfl) lo n
      omega
    · cases h3 : inB p x with
      | false => rfl
      | true =>
        cases h4 : hasB r x with
        | false => rfl
        | true =>
          obtain ⟨q, hq, h5⟩ := (hasB_iff r x).mp h4
          have := hs.2.1 q hq
          simp [inB] at h3
          omega
theorem window : ∀ l : List Pt, ∃ (lo : Int) (n : Nat), ∀ p, p ∈ l → lo ≤ p.1 ∧ p.2 < lo + n
  | [] => ⟨0, 0, fun p hp => by cases hp⟩
  | p :: r => by
    obtain ⟨lo, n, h⟩ := window r
    refine ⟨min lo p.1, (max (lo + n) (p.2 + 1) - min lo p.1).toNat, fun q hq => ?_⟩
    rcases List.mem_cons.mp hq with rfl | hq
    · omega
    · have := h q hq
      omega
theorem sizes {a b : List Pt} (ha : ∀ p, p ∈ a → p.1 ≤ p.2) (hb : ∀ p, p ∈ b → p.1 ≤ p.2) :
    size (joined a b) + size (common a b) = size (tidy a) + size (tidy b) ∧ size (without a b) + size (common a b) = size (tidy a) := by
  obtain ⟨lo, n, h⟩ := window (joined a b ++ common a b ++ tidy a ++ tidy b ++ without a b)
  obtain ⟨j1, j2, _⟩ := joined_spec ha hb
  obtain ⟨c1, c2, _⟩ := common_spec ha hb
  obtain ⟨a1, a2, _⟩ := tidy_spec ha
  obtain ⟨b1, b2, _⟩ := tidy_spec hb
  obtain ⟨w1, w2, _⟩ := without_spec ha hb
  have bj : ∀ x, hasB (joined a b) x = (hasB (tidy a) x || hasB (tidy b) x) := fun x => by
    rw [Bool.eq_iff_iff, Bool.or_eq_true, hasB_iff, hasB_iff, hasB_iff, j2, a2, b2]
  have bc : ∀ x, hasB (common a b) x = (hasB (tidy a) x && hasB (tidy b) x) := fun x => by
    rw [Bool.eq_iff_iff, Bool.and_eq_true, hasB_iff, hasB_iff, hasB_iff, c2, a2, b2]
  have bw : ∀ x, hasB (without a b) x = (hasB (tidy a) x && !hasB (tidy b) x) := fun x => by
    rw [Bool.eq_iff_iff, Bool.and_eq_true, Bool.not_eq_true', ← Bool.not_eq_true, hasB_iff, hasB_iff, hasB_iff, w2, a2, b2]
  rw [size_cnt j1 (fun p hp => h p (by simp [hp])), size_cnt c1 (fun p hp => h p (by simp [hp])), size_cnt a1 (fun p hp => h p (by simp [hp])), size_cnt b1 (fun p hp => h p (by simp [hp])), size_cnt w1 (fun p hp => h p (by simp [hp]))]
  rw [cnt_congr bj, cnt_congr bc, cnt_congr bw]
  exact ⟨cnt_incl _ _ lo n, cnt_diff _ _ lo n⟩
theorem joined_tidy {a b : List Pt} (ha : ∀ p, p ∈ a → p.1 ≤ p.2) (hb : ∀ p, p ∈ b → p.1 ≤ p.2) : joined a b = tidy (a ++ b) := by
  obtain ⟨j1, j2, _⟩ := joined_spec ha hb
  obtain ⟨c1, c2, _⟩ := tidy_spec (ok_app ha hb)
  exact sep_eq _ _ j1 c1 fun x => by rw [j2, c2, has_app]
end Sp

namespace Ev
open PySem L2
/-- a loop whose turns may end by `continue` -/
theorem forGo_inv2 {d : D} {tg : Tg} {body : Sg → Sto → R Fl} {xs : List D} (P : Nat → Sg → Sto → Prop) (hi : ∀ i σ S, P i σ S → items S d = some xs)
    (hs : ∀ i σ S (h : i < xs.length), P i σ S → ∃ σ1, setTg tg xs[i] σ = some σ1 ∧ ∃ σ2 S2, (body σ1 S = .ok (.nx σ2) S2 ∨ body σ1 S = .ok (.ct σ2) S2) ∧ P (i + 1) σ2 S2) :
    ∀ n i σ S, i + n = xs.length + 1 → i ≤ xs.length → P i σ S → ∃ σ' S', forGo d tg body n i σ S = .ok (.nx σ') S' ∧ P xs.length σ' S'
  | 0, i, σ, S, e, h2, p => by omega
  | n + 1, i, σ, S, e, h2, p => by
    unfold forGo
    simp only [hi i σ S p]
    by_cases hx : i < xs.length
    · rw [List.getElem?_eq_getElem hx]
      obtain ⟨σ1, e1, σ2, S2, e2, p2⟩ := hs i σ S hx p
      have ih := forGo_inv2 P hi hs n (i + 1) σ2 S2 (by omega) (by omega) p2
      rcases e2 with e2 | e2
      · simp only [e1, e2, R.bind_ok, loopK_nx]
        exact ih
      · simp only [e1, e2, R.bind_ok, loopK_ct]
        exact ih
    · rw [List.getElem?_eq_none (by omega)]
      have : i = xs.length := by omega
      subst this
      exact ⟨σ, S, rfl, p⟩
theorem forK_inv2 {d : D} {tg : Tg} {body : Sg → Sto → R Fl} {xs : List D} {σ : Sg} {S : Sto} (P : Nat → Sg → Sto → Prop) (hi : ∀ i σ S, P i σ S → items S d = some xs)
    (hs : ∀ i σ S (h : i < xs.length), P i σ S → ∃ σ1, setTg tg xs[i] σ = some σ1 ∧ ∃ σ2 S2, (body σ1 S = .ok (.nx σ2) S2 ∨ body σ1 S = .ok (.ct σ2) S2) ∧ P (i + 1) σ2 S2) (p : P 0 σ S) :
    ∃ σ' S', forK tg body σ d S = .ok (.nx σ') S' ∧ P xs.length σ' S' := by
  unfold forK
  simp only [hi 0 σ S p]
  exact forGo_inv2 P hi hs (xs.length + 1) 0 σ S (by omega) (by omega) p
/-- a comprehension over pairs that takes every pair -/
theorem lcK_map {elt cond : Sg → Sto → R D} {tg : Tg} {σ : Sg} {d : D} {S : Sto} {l : List (Int × Int)} (g : Int × Int → D) (hi : items S d = some (pl l)) (hl : l.length ≤ lim)
    (h : ∀ p, p ∈ l → ∃ σ1, setTg tg (pr p) (wipeD σ tg.slots) = some σ1 ∧ cond σ1 S = .ok (.bl true) S ∧ elt σ1 S = .ok (g p) S) : lcK elt cond tg σ d S = .ok (.lv (l.map g)) S := by
  have e : (((pl l).filter fun _ => true).map fun d => match d with | .tup [.int a, .int b] => g (a, b) | _ => .non) = l.map g := by
    rw [List.filter_eq_self.mpr (fun _ _ => rfl)]
    unfold pl
    rw [List.map_map]
    rfl
  rw [← e]
  refine lcK_pure _ _ hi (by rw [pl_len]; exact hl) fun x hx => ?_
  obtain ⟨p, hp, rfl⟩ := List.mem_map.mp hx
  obtain ⟨σ1, e1, e2, e3⟩ := h p hp
  exact ⟨σ1, e1, e2, fun _ => e3⟩
theorem ints_of (ns : List Int) : intsOf (ns.map D.int) = some ns := by
  induction ns with
  | nil => rfl
  | cons n r ih => simp [intsOf, ih]
theorem sum_lv (ns : List Int) (S : Sto) : bltD .sum [.lv (ns.map D.int)] S = .ok (.int ns.sum) S := by
  simp [bltD, sumD, listOf, ints_of]
/-- a frozen sequence of pairs: a list or a tuple -/
def Src (d : D) (l : List (Int × Int)) : Prop := d = .lv (pl l) ∨ d = .tup (pl l)
theorem Src.items {d : D} {l : List (Int × Int)} (h : Src d l) (S : Sto) : items S d = some (pl l) := by
  rcases h with rfl | rfl <;> rfl
theorem Src.list {d : D} {l : List (Int × Int)} (h : Src d l) (S : Sto) : bltD .list [d] S = .ok (.lv (pl l)) S := by
  rcases h with rfl | rfl <;> rfl
end Ev

/-! Spans by the pieces between all ends. -/
namespace Sp
open Ev (sortI)
def starts (l : List Pt) : List Int := l.flatMap fun p => [p.1, p.2 + 1]
def ptS (r : List Pt) (lo hi : Int) : List Pt := match r.getLast? with
  | none => [(lo, hi)]
  | some q => if q.2 + 1 = lo then r.dropLast ++ [(q.1, hi)] else r ++ [(lo, hi)]
def partS (W : Int → Bool) (r : List Pt) (lo hi : Int) : List Pt := if W lo = true ∧ lo ≤ hi then ptS r lo hi else r
def partK (W : Int → Bool) (pts : List Int) : Nat → List Pt
  | 0 => []
  | k + 1 => partS W (partK W pts k) (pts.getD k 0) (pts.getD (k + 1) 0 - 1)
theorem getD_at (l : List Int) (d : Int) {i : Nat} (h : i < l.length) : l.getD i d = l[i] := by
  rw [List.getD_eq_getElem?_getD, List.getElem?_eq_getElem h]; rfl
theorem part_inv {W : Int → Bool} {pts : List Int} (hs : pts.Pairwise (· ≤ ·)) (hc : ∀ lo hi, (∀ q, q ∈ pts → q ≤ lo ∨ hi < q) → ∀ x, lo ≤ x → x ≤ hi → W x = W lo) (hlow : ∀ x, (∀ q, q ∈ pts → x < q) → W x = false) :
    ∀ k, k < pts.length → Sep (partK W pts k) ∧ (∀ p, p ∈ partK W pts k → p.2 < pts.getD k 0) ∧ (∀ x, has (partK W pts k) x ↔ W x = true ∧ x < pts.getD k 0) ∧ (partK W pts k).length ≤ k
  | 0, h => by
    refine ⟨trivial, (fun p hp => by cases hp), fun x => ?_, Nat.le_refl _⟩
    constructor
    · intro h
      exact absurd h (has_nil x)
    · rintro ⟨h1, h2⟩
      rw [hlow x (fun q hq => ?_)] at h1
      · cases h1
      · obtain ⟨i, hi, rfl⟩ := List.getElem_of_mem hq
        rw [getD_at _ _ h] at h2
        rcases Nat.eq_zero_or_pos i with rfl | hp
        · exact h2
        · have := List.pairwise_iff_getElem.mp hs 0 i h hi hp
          omega
  | k + 1, h => by
    obtain ⟨i1, i2, i3, i4⟩ := part_inv hs hc hlow k (by omega)
    have hk : k < pts.length := by omega
    have le := List.pairwise_iff_getElem.mp hs k (k + 1) hk h (by omega)
    have dich : ∀ q, q ∈ pts → q ≤ pts.getD k 0 ∨ pts.getD (k + 1) 0 - 1 < q := by
      intro q hq
      obtain ⟨i, hi, rfl⟩ := List.getElem_of_mem hq
      rw [getD_at _ _ hk, getD_at _ _ h]
      rcases Nat.lt_or_ge k i with hp | hp
      · right
        rcases Nat.eq_or_lt_of_le (show k + 1 ≤ i from hp) with e | e
        · subst e; omega
        · have := List.pairwise_iff_getElem.mp hs (k + 1) i h hi e
          omega
      · left
        rcases Nat.eq_or_lt_of_le hp with e | e
        · subst e; omega
        · exact List.pairwise_iff_getElem.mp hs i k hi hk e
    have con := hc _ _ dich
    rw [← getD_at pts 0 hk, ← getD_at pts 0 h] at le
    unfold partK partS
    generalize pts.getD k 0 = a at *
    generalize pts.getD (k + 1) 0 = b at *
    generalize partK W pts k = r at *
    by_cases hw : W a = true ∧ a ≤ b - 1
    · rw [if_pos hw]
      have key : ∀ x, (a ≤ x ∧ x ≤ b - 1) → W x = true := fun x hx => by rw [con x hx.1 hx.2]; exact hw.1
      have split : ∀ x, (W x = true ∧ x < b) ↔ (W x = true ∧ x < a) ∨ (a ≤ x ∧ x ≤ b - 1) := by
        intro x
        constructor
        · rintro ⟨h1, h2⟩
          by_cases hx : x < a
          · exact .inl ⟨h1, hx⟩
          · exact .inr (by omega)
        · rintro (⟨h1, h2⟩ | h1)
          · exact ⟨h1, by omega⟩
          · exact ⟨key x h1, by omega⟩
      rcases List.eq_nil_or_concat r with rfl | ⟨r', q, rfl⟩
      · have e : ptS [] a (b - 1) = [(a, b - 1)] := rfl
        rw [e]
        refine ⟨⟨hw.2, (fun q hq => by cases hq), trivial⟩, fun p hp => ?_, fun x => ?_, by simp⟩
        · simp at hp; subst hp; simp only; omega
        · rw [split, ← i3, has_cons]
          simp only
          grind
      · rw [List.concat_eq_append] at *
        obtain ⟨s1, s2, s3⟩ := sep_app.mp i1
        have hq := i2 q (by simp)
        have hqo := s2.1
        unfold ptS
        rw [List.getLast?_concat]
        simp only
        split
        · rename_i h1
          rw [List.dropLast_concat]
          refine ⟨sep_app.mpr ⟨s1, ⟨by simp only; omega, (fun q hq => by cases hq), trivial⟩, fun p hp p' hp' => ?_⟩, fun p hp => ?_, fun x => ?_, by simp at i4 ⊢; omega⟩
          · simp at hp'; subst hp'
            exact s3 p hp q (by simp)
          · rcases List.mem_append.mp hp with hp | hp
            · have := i2 p (by simp [hp]); omega
            · simp at hp; subst hp; simp only; omega
          · rw [split, ← i3, has_app, has_cons, has_app, has_cons]
            have := has_nil x
            simp only
            constructor
            · rintro (h | h | h)
              · exact .inl (.inl h)
              · by_cases hx : x ≤ q.2
                · exact .inl (.inr (.inl ⟨h.1, hx⟩))
                · exact .inr (by omega)
              · exact absurd h this
            · rintro ((h | h | h) | h)
              · exact .inl h
              · exact .inr (.inl (by omega))
              · exact absurd h this
              · exact .inr (.inl (by omega))
        · rename_i h1
          refine ⟨sep_app.mpr ⟨i1, ⟨by simp only; omega, (fun q hq => by cases hq), trivial⟩, fun p hp p' hp' => ?_⟩, fun p hp => ?_, fun x => ?_, by simp at i4 ⊢; omega⟩
          · simp at hp'; subst hp'
            rcases List.mem_append.mp hp with hp | hp
            · have := s3 p hp q (by simp); simp only; omega
            · simp at hp; subst hp; simp only; omega
          · rcases List.mem_append.mp hp with hp | hp
            · have := i2 p hp; omega
            · simp at hp; subst hp; simp only; omega
          · rw [split, ← i3, has_app, has_cons]
            have := has_nil x
            simp only
            grind
    · rw [if_neg hw]
      refine ⟨i1, fun p hp => ?_, fun x => ?_, by omega⟩
      · have := i2 p hp; omega
      · rw [i3]
        constructor
        · rintro ⟨h1, h2⟩
          exact ⟨h1, by omega⟩
        · rintro ⟨h1, h2⟩
          refine ⟨h1, ?_⟩
          by_cases hx : x < a
          · exact hx
          · exfalso
            apply hw
            have := con x (by omega) (by omega)
            exact ⟨by rw [← this]; exact h1, by omega⟩
theorem starts_mem {l : List Pt} {p : Pt} (h : p ∈ l) : p.1 ∈ starts l ∧ p.2 + 1 ∈ starts l := by
  unfold starts
  exact ⟨List.mem_flatMap.mpr ⟨p, h, by simp⟩, List.mem_flatMap.mpr ⟨p, h, by simp⟩⟩
theorem hasB_con {l : List Pt} {lo hi : Int} (h : ∀ q, q ∈ starts l → q ≤ lo ∨ hi < q) {x : Int} (h1 : lo ≤ x) (h2 : x ≤ hi) : hasB l x = hasB l lo := by
  rw [Bool.eq_iff_iff, hasB_iff, hasB_iff]
  constructor
  · rintro ⟨p, hp, a, b⟩
    obtain ⟨m1, m2⟩ := starts_mem hp
    have := h _ m1
    have := h _ m2
    exact ⟨p, hp, by omega, by omega⟩
  · rintro ⟨p, hp, a, b⟩
    obtain ⟨m1, m2⟩ := starts_mem hp
    have := h _ m1
    have := h _ m2
    exact ⟨p, hp, by omega, by omega⟩
theorem hasB_low {l : List Pt} {x : Int} (h : ∀ q, q ∈ starts l → x < q) : hasB l x = false := by
  rw [← Bool.not_eq_true, hasB_iff]
  rintro ⟨p, hp, a, b⟩
  have := h _ (starts_mem hp).1
  omega
theorem hasB_high {l : List Pt} {x : Int} (h : ∀ q, q ∈ starts l → q ≤ x) : hasB l x = false := by
  rw [← Bool.not_eq_true, hasB_iff]
  rintro ⟨p, hp, a, b⟩
  have := h _ (starts_mem hp).2
  omega
def points (a b : List Pt) : List Int := sortI (starts a ++ starts b)
theorem points_mem (a b : List Pt) (x : Int) : x ∈ points a b ↔ x ∈ starts a ∨ x ∈ starts b := by
  unfold points sortI
  rw [List.mem_mergeSort, List.mem_append]
theorem points_sorted (a b : List Pt) : (points a b).Pairwise (· ≤ ·) := by
  have := List.pairwise_mergeSort (le := fun a b : Int => decide (a ≤ b)) (fun a b c h1 h2 => by simp at h1 h2 ⊢; omega) (fun a b => by simp; omega) (starts a ++ starts b)
  exact List.Pairwise.imp (fun h => by simpa using h) this
theorem starts_len (l : List Pt) : (starts l).length = 2 * l.length := by
  induction l with
  | nil => rfl
  | cons p r ih =>
    have : starts (p :: r) = p.1 :: (p.2 + 1) :: starts r := rfl
    rw [this]
    simp [ih]
    omega
theorem points_len (a b : List Pt) : (points a b).length = 2 * a.length + 2 * b.length := by
  unfold points sortI
  rw [List.length_mergeSort, List.length_append, starts_len, starts_len]
def wish (f : Bool → Bool → Bool) (a b : List Pt) (x : Int) : Bool := f (hasB a x) (hasB b x)
def parts (f : Bool → Bool → Bool) (a b : List Pt) : List Pt := partK (wish f a b) (points a b) ((points a b).length - 1)
theorem parts_pre {f : Bool → Bool → Bool} (hf : f false false = false) (a b : List Pt) : ∀ k, k < (points a b).length → Sep (partK (wish f a b) (points a b) k) ∧ (∀ p, p ∈ partK (wish f a b) (points a b) k → p.2 < (points a b).getD k 0) ∧ (∀ x, has (partK (wish f a b) (points a b) k) x ↔ wish f a b x = true ∧ x < (points a b).getD k 0) ∧ (partK (wish f a b) (points a b) k).length ≤ k := by
  refine part_inv (points_sorted a b) (fun lo hi h x h1 h2 => ?_) (fun x h => ?_)
  · unfold wish
    rw [hasB_con (fun q hq => h q ((points_mem a b q).mpr (.inl hq))) h1 h2, hasB_con (fun q hq => h q ((points_mem a b q).mpr (.inr hq))) h1 h2]
  · unfold wish
    rw [hasB_low (fun q hq => h q ((points_mem a b q).mpr (.inl hq))), hasB_low (fun q hq => h q ((points_mem a b q).mpr (.inr hq)))]
    exact hf
theorem parts_spec {f : Bool → Bool → Bool} (hf : f false false = false) (a b : List Pt) : Sep (parts f a b) ∧ (∀ x, has (parts f a b) x ↔ wish f a b x = true) ∧ (parts f a b).length ≤ 2 * a.length + 2 * b.length := by
  have hl := points_len a b
  by_cases h0 : (points a b).length = 0
  · have ea : a = [] := List.eq_nil_of_length_eq_zero (by omega)
    have eb : b = [] := List.eq_nil_of_length_eq_zero (by omega)
    subst ea eb
    have e : parts f [] [] = [] := by unfold parts; rw [h0]; rfl
    rw [e]
    refine ⟨trivial, fun x => ?_, Nat.zero_le _⟩
    have : wish f [] [] x = false := hf
    rw [this]
    constructor
    · intro h
      exact absurd h (has_nil x)
    · intro h
      cases h
  · obtain ⟨i1, i2, i3, i4⟩ := parts_pre hf a b ((points a b).length - 1) (by omega)
    refine ⟨i1, fun x => ?_, by unfold parts; omega⟩
    unfold parts
    rw [i3]
    constructor
    · exact fun h => h.1
    · intro h
      refine ⟨h, ?_⟩
      by_cases hx : x < (points a b).getD ((points a b).length - 1) 0
      · exact hx
      · exfalso
        have big : ∀ q, q ∈ points a b → q ≤ x := by
          intro q hq
          obtain ⟨i, hi, rfl⟩ := List.getElem_of_mem hq
          rw [getD_at _ _ (show (points a b).length - 1 < (points a b).length by omega)] at hx
          rcases Nat.eq_or_lt_of_le (show i ≤ (points a b).length - 1 by omega) with e | e
          · subst e; omega
          · have := List.pairwise_iff_getElem.mp (points_sorted a b) i ((points a b).length - 1) hi (by omega) e
            omega
        unfold wish at h
        rw [hasB_high (fun q hq => big q ((points_mem a b q).mpr (.inl hq))), hasB_high (fun q hq => big q ((points_mem a b q).mpr (.inr hq))), hf] at h
        cases h
theorem parts_joined {a b : List Pt} (ha : ∀ p, p ∈ a → p.1 ≤ p.2) (hb : ∀ p, p ∈ b → p.1 ≤ p.2) : joined a b = parts (fun x y => x || y) a b := by
  obtain ⟨j1, j2, _⟩ := joined_spec ha hb
  obtain ⟨p1, p2, _⟩ := parts_spec (f := fun x y => x || y) rfl a b
  refine sep_eq _ _ j1 p1 fun x => ?_
  rw [j2, p2, wish, Bool.or_eq_true, hasB_iff, hasB_iff]
theorem parts_common {a b : List Pt} (ha : ∀ p, p ∈ a → p.1 ≤ p.2) (hb : ∀ p, p ∈ b → p.1 ≤ p.2) : common a b = parts (fun x y => x && y) a b := by
  obtain ⟨j1, j2, _⟩ := common_spec ha hb
  obtain ⟨p1, p2, _⟩ := parts_spec (f := fun x y => x && y) rfl a b
  refine sep_eq _ _ j1 p1 fun x => ?_
  rw [j2, p2, wish, Bool.and_eq_true, hasB_iff, hasB_iff]
theorem parts_without {a b : List Pt} (ha : ∀ p, p ∈ a → p.1 ≤ p.2) (hb : ∀ p, p ∈ b → p.1 ≤ p.2) : without a b = parts (fun x y => x && !y) a b := by
  obtain ⟨j1, j2, _⟩ := without_spec ha hb
  obtain ⟨p1, p2, _⟩ := parts_spec (f := fun x y => x && !y) rfl a b
  refine sep_eq _ _ j1 p1 fun x => ?_
  rw [j2, p2, wish, Bool.and_eq_true, Bool.not_eq_true', ← Bool.not_eq_true, hasB_iff, hasB_iff]
end Sp

namespace Ev
open PySem L2
/-- a loop that leaves at the first item that passes a test -/
theorem forGo_ret {d v : D} {tg : Tg} {body : Sg → Sto → R Fl} {xs : List D} {S : Sto} (t : D → Bool) (P : Sg → Prop) (hi : items S d = some xs)
    (hs : ∀ σ x, x ∈ xs → P σ → ∃ σ1, setTg tg x σ = some σ1 ∧ (t x = true → body σ1 S = .ok (.rt v) S) ∧ (t x = false → ∃ σ2, body σ1 S = .ok (.nx σ2) S ∧ P σ2)) :
    ∀ n i σ, i + n = xs.length + 1 → i ≤ xs.length → P σ → ((xs.drop i).any t = true → forGo d tg body n i σ S = .ok (.rt v) S) ∧ ((xs.drop i).any t = false → ∃ σ', forGo d tg body n i σ S = .ok (.nx σ') S ∧ P σ')
  | 0, i, σ, e, h2, p => by omega
  | n + 1, i, σ, e, h2, p => by
    unfold forGo
    simp only [hi]
    by_cases hx : i < xs.length
    · rw [List.getElem?_eq_getElem hx, List.drop_eq_getElem_cons hx]
      obtain ⟨σ1, e1, e2, e3⟩ := hs σ xs[i] (List.getElem_mem hx) p
      cases ht : t xs[i] with
      | true =>
        refine ⟨fun _ => ?_, fun h => ?_⟩
        · simp only [e1, e2 ht, R.bind_ok, loopK_rt]
        · rw [List.any_cons, ht] at h
          cases h
      | false =>
        obtain ⟨σ2, e4, p2⟩ := e3 ht
        obtain ⟨a, b⟩ := forGo_ret t P hi hs n (i + 1) σ2 (by omega) (by omega) p2
        simp only [e1, e4, R.bind_ok, loopK_nx, List.any_cons, ht, Bool.false_or]
        exact ⟨a, b⟩
    · rw [List.getElem?_eq_none (by omega), List.drop_eq_nil_of_le (by omega)]
      exact ⟨fun h => by simp at h, fun _ => ⟨σ, rfl, p⟩⟩
theorem forK_ret {d v : D} {tg : Tg} {body : Sg → Sto → R Fl} {xs : List D} {S : Sto} {σ : Sg} (t : D → Bool) (P : Sg → Prop) (hi : items S d = some xs)
    (hs : ∀ σ x, x ∈ xs → P σ → ∃ σ1, setTg tg x σ = some σ1 ∧ (t x = true → body σ1 S = .ok (.rt v) S) ∧ (t x = false → ∃ σ2, body σ1 S = .ok (.nx σ2) S ∧ P σ2)) (p : P σ) :
    (xs.any t = true → forK tg body σ d S = .ok (.rt v) S) ∧ (xs.any t = false → ∃ σ', forK tg body σ d S = .ok (.nx σ') S ∧ P σ') := by
  unfold forK
  simp only [hi]
  exact forGo_ret t P hi hs (xs.length + 1) 0 σ (by omega) (by omega) p
end Ev

/-! lists of texts and of pairs of texts -/
namespace Ev
open PySem L2
def sl (l : List Str) : List D := l.map D.str
theorem sl_len (l : List Str) : (sl l).length = l.length := List.length_map ..
theorem sl_app (l m : List Str) : sl (l ++ m) = sl l ++ sl m := List.map_append ..
theorem sl_take (l : List Str) (n : Nat) : (sl l).take n = sl (l.take n) := by unfold sl; rw [List.map_take]
theorem sl_drop (l : List Str) (n : Nat) : (sl l).drop n = sl (l.drop n) := by unfold sl; rw [List.map_drop]
theorem sl_cons (a : Str) (l : List Str) : sl (a :: l) = .str a :: sl l := rfl
theorem ix_sl {l : List Str} {n : Nat} {a : Str} (h : l[n]? = some a) (S : Sto) : ixD (.tup (sl l)) (.int n) S = .ok (.str a) S :=
  ix_tp (atI_nat (by unfold sl; rw [List.getElem?_map, h]; rfl)) S
def ps (p : Str × Str) : D := .tup [.str p.1, .str p.2]
def psl (l : List (Str × Str)) : List D := l.map ps
theorem psl_len (l : List (Str × Str)) : (psl l).length = l.length := List.length_map ..
def psP (l : List (Str × Str)) : List PyData := l.map fun p => .tuple [.str p.1, .str p.2]
theorem toPys_psl (l : List (Str × Str)) : toPys (psl l) = some (psP l) := by
  induction l with
  | nil => rfl
  | cons a r ih =>
    show toPys (ps a :: psl r) = _
    simp only [toPys, ih, ps, toPy, Option.map_some]
    rfl
def okPs (l : List (Str × Str)) : Prop := ∀ p, p ∈ l → PyData.strOk p.1 = true ∧ PyData.strOk p.2 = true
theorem psP_shape : ∀ {l : List (Str × Str)}, okPs l → PyData.canLayAll0 (psP l) = true ∧ PyData.depthAll (psP l) ≤ 1
  | [], _ => by simp [psP, PyData.canLayAll0, PyData.depthAll]
  | a :: r, h => by
    have ih := psP_shape (l := r) fun p hp => h p (List.mem_cons_of_mem _ hp)
    obtain ⟨h1, h2⟩ := h a List.mem_cons_self
    have e : psP (a :: r) = .tuple [.str a.1, .str a.2] :: psP r := rfl
    rw [e]
    simp only [PyData.canLayAll0, PyData.depthAll, PyData.canLay0, PyData.depth, ih.1, h1, h2]
    have := ih.2
    simp
    omega
theorem shaped_psl {l : List (Str × Str)} (ok : okPs l) : SeqAt.shaped (.list (psP l)) = true := by
  have h := psP_shape ok
  simp only [SeqAt.shaped, PyData.canLay0, PyData.depth, h.1]
  have := h.2
  simp
  omega
theorem shaped_pst {l : List (Str × Str)} (ok : okPs l) : SeqAt.shaped (.tuple (psP l)) = true := by
  have h := psP_shape ok
  simp only [SeqAt.shaped, PyData.canLay0, PyData.depth, h.1]
  have := h.2
  simp
  omega
theorem shaped_ps {a b : Str} (h1 : PyData.strOk a = true) (h2 : PyData.strOk b = true) : SeqAt.shaped (.tuple [.str a, .str b]) = true := by
  simp [SeqAt.shaped, PyData.canLay0, PyData.depth, PyData.canLayAll0, PyData.depthAll, h1, h2]
theorem any_psP (l : List (Str × Str)) (a b : Str) : ((psP l).any fun z => PyData.eqv z (.tuple [.str a, .str b])) = decide ((a, b) ∈ l) := by
  induction l with
  | nil => simp [psP]
  | cons p r ih =>
    have e : psP (p :: r) = .tuple [.str p.1, .str p.2] :: psP r := rfl
    rw [e, List.any_cons, ih]
    obtain ⟨c, d⟩ := p
    simp only [PyData.eqv, PyData.eqvAll, Bool.and_true, List.mem_cons, Prod.mk.injEq]
    by_cases h1 : c = a
    · by_cases h2 : d = b
      · subst h1 h2; simp
      · have : ¬ (b = d) := fun h => h2 h.symm
        simp [h1, h2, this]
    · have : ¬ (a = c) := fun h => h1 h.symm
      simp [h1, this]
structure TSrc (d : D) (l : List (Str × Str)) : Prop where
  is : d = .lv (psl l) ∨ d = .tup (psl l)
  ok : okPs l
theorem inD_psl {d : D} {l : List (Str × Str)} (h : TSrc d l) {a b : Str} (h1 : PyData.strOk a = true) (h2 : PyData.strOk b = true) (S : Sto) : inD S (ps (a, b)) d = some (decide ((a, b) ∈ l)) := by
  have e1 : toPys (psl l) = some (psP l) := toPys_psl l
  obtain ⟨rfl | rfl, ok⟩ := h
  · have : inD S (ps (a, b)) (.lv (psl l)) = if SeqAt.shaped (.tuple [.str a, .str b]) && SeqAt.shaped (.list (psP l)) then some ((psP l).any fun z => PyData.eqv z (.tuple [.str a, .str b])) else none := by
      simp [inD, ps, items, isSeq, flatD, topPy, toPy, toPys, e1]
    rw [this, shaped_ps h1 h2, shaped_psl ok, any_psP]
    rfl
  · have : inD S (ps (a, b)) (.tup (psl l)) = if SeqAt.shaped (.tuple [.str a, .str b]) && SeqAt.shaped (.tuple (psP l)) then some ((psP l).any fun z => PyData.eqv z (.tuple [.str a, .str b])) else none := by
      simp [inD, ps, items, isSeq, flatD, topPy, toPy, toPys, e1]
    rw [this, shaped_ps h1 h2, shaped_pst ok, any_psP]
    rfl
theorem in_psl {d : D} {l : List (Str × Str)} (h : TSrc d l) {a b : Str} (h1 : PyData.strOk a = true) (h2 : PyData.strOk b = true) (S : Sto) : cmpD .in_ (.tup [.str a, .str b]) d S = .ok (.bl (decide ((a, b) ∈ l))) S := by
  have := inD_psl h h1 h2 S
  unfold ps at this
  simp only [cmpD, cmpO, this, ofOpt_some, R.bind_ok]
theorem nin_psl {d : D} {l : List (Str × Str)} (h : TSrc d l) {a b : Str} (h1 : PyData.strOk a = true) (h2 : PyData.strOk b = true) (S : Sto) : cmpD .nin (.tup [.str a, .str b]) d S = .ok (.bl (!decide ((a, b) ∈ l))) S := by
  have := inD_psl h h1 h2 S
  unfold ps at this
  simp only [cmpD, cmpO, this, Option.map_some, ofOpt_some, R.bind_ok]
theorem add_tp {x y : List D} (h : x.length + y.length ≤ lim) (S : Sto) : binD .add (.tup x) (.tup y) S = .ok (.tup (x ++ y)) S := by simp [binD, h]
theorem sl_tpD (xs : List D) (lo hi : Option Int) (S : Sto) : slD (.tup xs) lo hi S = .ok (.tup (cutD xs lo hi)) S := (rfl)
theorem pop_ref {n : Nat} {xs : List D} {i : Nat} {d : D} {S : Sto} (hs : S[n]? = some (.lst xs)) (hi : xs[i]? = some d) (hl : xs.length ≤ lim) : methD .pop (.ref n) [.int (i : Int)] S = .ok d (S.set n (.lst (xs.eraseIdx i))) := by
  have h1 := (List.getElem?_eq_some_iff.mp hi).1
  have h2 : (0 : Int) ≤ i ∧ (i : Int) < xs.length ∧ xs.length ≤ lim := ⟨by omega, by omega, hl⟩
  simp only [methD, hs, Mth.run, popF, if_pos h2, Int.toNat_natCast, hi]
theorem list_lvE (xs : List D) (S : Sto) : bltD .list [.lv xs] S = .ok (.lv xs) S := (rfl)
theorem tuple_lvE (xs : List D) (S : Sto) : bltD .tuple [.lv xs] S = .ok (.tup xs) S := (rfl)
/-- a while that goes by a measure -/
theorem whGo_inv {c : Sg → Sto → R D} {body : Sg → Sto → R Fl} {S : Sto} (P : Nat → Sg → Prop) (F : Sg → Prop) (V : D → Prop)
    (h0 : ∀ j σ, P j σ → (c σ S = .ok (.bl false) S ∧ F σ) ∨ (c σ S = .ok (.bl true) S ∧ 0 < j ∧ ((∃ σ', body σ S = .ok (.nx σ') S ∧ P (j - 1) σ') ∨ (∃ d, body σ S = .ok (.rt d) S ∧ V d)))) :
    ∀ n j σ, j < n → P j σ → (∃ σ', whGo c body n σ S = .ok (.nx σ') S ∧ F σ') ∨ (∃ d, whGo c body n σ S = .ok (.rt d) S ∧ V d)
  | 0, j, σ, h, _ => by omega
  | n + 1, j, σ, h, p => by
    unfold whGo
    rcases h0 j σ p with ⟨e, f⟩ | ⟨e, hj, ⟨σ', e2, p2⟩ | ⟨d, e2, v⟩⟩
    · rw [e, R.bind_ok, tr_bl, R.bind_ok]
      exact .inl ⟨σ, rfl, f⟩
    · rw [e, R.bind_ok, tr_bl, R.bind_ok]
      simp only [e2, R.bind_ok, loopK_nx]
      exact whGo_inv P F V h0 n (j - 1) σ' (by omega) p2
    · rw [e, R.bind_ok, tr_bl, R.bind_ok]
      simp only [e2, R.bind_ok, loopK_rt]
      exact .inr ⟨d, rfl, v⟩
theorem okDs_sl (l : List Str) : okDs (sl l) = true ∧ depDs (sl l) ≤ 1 := by
  induction l with
  | nil => simp [sl, okDs, depDs]
  | cons a r ih =>
    rw [sl_cons]
    simp only [okDs, depDs, okD, depD, ih.1]
    have := ih.2
    simp
    omega
theorem okD_slt {l : List Str} (h : l.length ≤ lim) : okD (.tup (sl l)) = true ∧ depD (.tup (sl l)) ≤ 2 := by
  have := okDs_sl l
  simp only [okD, depD, sl_len, this.1, decide_eq_true h]
  have := this.2
  simp
  omega
theorem okDs_psl (l : List (Str × Str)) : okDs (psl l) = true ∧ depDs (psl l) ≤ 2 := by
  induction l with
  | nil => simp [psl, okDs, depDs]
  | cons a r ih =>
    show okDs (ps a :: psl r) = true ∧ depDs (ps a :: psl r) ≤ 2
    have h2 : (2 : Nat) ≤ lim := by decide
    simp only [okDs, depDs, okD, depD, ps, ih.1, List.length_cons, List.length_nil, Nat.zero_add, decide_eq_true h2]
    have := ih.2
    simp
    omega
theorem okD_psl {l : List (Str × Str)} (h : l.length ≤ lim) : okD (.lv (psl l)) = true ∧ depD (.lv (psl l)) ≤ 3 := by
  have := okDs_psl l
  simp only [okD, depD, psl_len, this.1, decide_eq_true h]
  have := this.2
  simp
  omega
/-- a comprehension that may change the store -/
theorem lcGo_dr {d : D} {tg : Tg} {σ : Sg} {cond elt : Sg → Sto → R D} {xs : List D} {P : Sto → Prop} {G : D → Prop} (hi : ∀ S, P S → items S d = some xs) (hl : xs.length ≤ lim)
    (h : ∀ x, x ∈ xs → ∀ S, P S → ∃ σ1, setTg tg x (wipeD σ tg.slots) = some σ1 ∧ ∃ c S1, cond σ1 S = .ok (.bl c) S1 ∧ P S1 ∧ (c = true → ∃ y S2, elt σ1 S1 = .ok y S2 ∧ P S2 ∧ G y)) :
    ∀ n i acc S, i + n = xs.length + 1 → i ≤ xs.length → acc.length ≤ i → P S → ∃ ys S', lcGo d tg σ cond elt n i acc S = .ok (.lv (acc ++ ys)) S' ∧ P S' ∧ (∀ y, y ∈ ys → G y) ∧ ys.length ≤ xs.length - i
  | 0, i, acc, S, e, h2, ha, p => by omega
  | n + 1, i, acc, S, e, h2, ha, p => by
    unfold lcGo
    simp only [hi S p]
    by_cases hx : i < xs.length
    · rw [List.getElem?_eq_getElem hx]
      obtain ⟨σ1, e1, c, S1, e2, p1, h3⟩ := h xs[i] (List.getElem_mem hx) S p
      simp only [e1, e2, R.bind_ok, tr_bl]
      cases c with
      | false =>
        obtain ⟨ys, S', e4, p4, g4, l4⟩ := lcGo_dr hi hl h n (i + 1) acc S1 (by omega) (by omega) (by omega) p1
        exact ⟨ys, S', e4, p4, g4, by omega⟩
      | true =>
        obtain ⟨y, S2, e3, p2, g⟩ := h3 rfl
        have hal : acc.length < lim := by omega
        simp only [e3, R.bind_ok, hal, if_true]
        obtain ⟨ys, S', e4, p4, g4, l4⟩ := lcGo_dr hi hl h n (i + 1) (acc ++ [y]) S2 (by omega) (by omega) (by simp; omega) p2
        refine ⟨y :: ys, S', by rw [e4]; simp, p4, fun z hz => ?_, by simp; omega⟩
        rcases List.mem_cons.mp hz with rfl | hz
        · exact g
        · exact g4 z hz
    · have : i = xs.length := by omega
      subst this
      rw [List.getElem?_eq_none (Nat.le_refl _)]
      exact ⟨[], S, by simp, p, by simp, by simp⟩
theorem lcK_dr {d : D} {tg : Tg} {σ : Sg} {cond elt : Sg → Sto → R D} {xs : List D} {S : Sto} {P : Sto → Prop} {G : D → Prop} (hi : ∀ S, P S → items S d = some xs) (hl : xs.length ≤ lim)
    (h : ∀ x, x ∈ xs → ∀ S, P S → ∃ σ1, setTg tg x (wipeD σ tg.slots) = some σ1 ∧ ∃ c S1, cond σ1 S = .ok (.bl c) S1 ∧ P S1 ∧ (c = true → ∃ y S2, elt σ1 S1 = .ok y S2 ∧ P S2 ∧ G y)) (p : P S) :
    ∃ ys S', lcK elt cond tg σ d S = .ok (.lv ys) S' ∧ P S' ∧ (∀ y, y ∈ ys → G y) ∧ ys.length ≤ xs.length := by
  unfold lcK
  simp only [hi S p]
  obtain ⟨ys, S', e, h1, h2, h3⟩ := lcGo_dr hi hl h (xs.length + 1) 0 [] S (by omega) (by omega) (by simp) p
  exact ⟨ys, S', by simpa using e, h1, h2, by omega⟩
theorem perm_sl {ys : List D} {l : List Str} (h : ys.Perm (sl l)) : ∃ m, ys = sl m ∧ m.Perm l := by
  have key : ∀ ys : List D, (∀ y, y ∈ ys → ∃ t, y = .str t) → ys = sl (ys.map fun y => match y with | .str t => t | _ => "") := by
    intro ys
    induction ys with
    | nil => intro _; rfl
    | cons a r ih =>
      intro h
      obtain ⟨t, rfl⟩ := h a List.mem_cons_self
      rw [List.map_cons, sl_cons, ← ih fun y hy => h y (List.mem_cons_of_mem _ hy)]
  refine ⟨_, key ys fun y hy => ?_, ?_⟩
  · obtain ⟨t, _, rfl⟩ := List.mem_map.mp (h.mem_iff.mp hy)
    exact ⟨t, rfl⟩
  · have := h.map fun y => match y with | D.str t => t | _ => ("" : Str)
    refine this.trans ?_
    unfold sl
    rw [List.map_map]
    have : ((fun y => match y with | D.str t => t | _ => ("" : Str)) ∘ D.str) = id := rfl
    rw [this, List.map_id]
theorem all_psl : ∀ {ys : List D}, (∀ y, y ∈ ys → ∃ p, y = ps p) → ∃ l, ys = psl l
  | [], _ => ⟨[], rfl⟩
  | a :: r, h => by
    obtain ⟨p, rfl⟩ := h a List.mem_cons_self
    obtain ⟨l, rfl⟩ := all_psl (ys := r) fun y hy => h y (List.mem_cons_of_mem _ hy)
    exact ⟨p :: l, rfl⟩
theorem ps_inj {p q : Str × Str} (h : ps p = ps q) : p = q := by
  unfold ps at h
  obtain ⟨a, b⟩ := p
  obtain ⟨c, d⟩ := q
  simp at h
  rw [h.1, h.2]
theorem mem_psl {p : Str × Str} {l : List (Str × Str)} (h : ps p ∈ psl l) : p ∈ l := by
  obtain ⟨q, hq, e⟩ := List.mem_map.mp h
  rw [← ps_inj e]
  exact hq
end Ev

namespace Pr
open PySem L2 Ev
/-! ### the text by places -/
def top (i : Nat) : Stmt := PySem.Challenge.pw_errortells_k30_moved_orders.main.body.getD i (.Pass ⟨0, 0, 0, 0⟩)
abbrev s_exchanged : Stmt := top 2
def d_exchanged : He.DefD := ⟨("_exchanged", none), "_exchanged", "_exchanged", defArgs s_exchanged, defBody s_exchanged, defScope s_exchanged, [], []⟩
abbrev s_moved : Stmt := top 3
def d_moved : He.DefD := ⟨("moved", none), "moved", "moved", defArgs s_moved, defBody s_moved, defScope s_moved, [], []⟩
abbrev s_law_box : Stmt := top 5
def d_law_box : He.DefD := ⟨("_law_box", none), "_law_box", "_law_box", defArgs s_law_box, defBody s_law_box, defScope s_law_box, [], []⟩
abbrev s_law_draw : Stmt := top 6
def d_law_draw : He.DefD := ⟨("_law_draw", none), "_law_draw", "_law_draw", defArgs s_law_draw, defBody s_law_draw, defScope s_law_draw, [], []⟩
abbrev s_law_same : Stmt := top 7
def d_law_same : He.DefD := ⟨("_law_same", none), "_law_same", "_law_same", defArgs s_law_same, defBody s_law_same, defScope s_law_same, [], []⟩
abbrev s_law_shuffled : Stmt := top 8
def d_law_shuffled : He.DefD := ⟨("_law_shuffled", none), "_law_shuffled", "_law_shuffled", defArgs s_law_shuffled, defBody s_law_shuffled, defScope s_law_shuffled, [], []⟩
abbrev s_law_name : Stmt := top 9
def d_law_name : He.DefD := ⟨("_law_name", none), "_law_name", "_law_name", defArgs s_law_name, defBody s_law_name, defScope s_law_name, [], []⟩
abbrev s_law_names : Stmt := top 10
def d_law_names : He.DefD := ⟨("_law_names", none), "_law_names", "_law_names", defArgs s_law_names, defBody s_law_names, defScope s_law_names, [], []⟩
abbrev s_law_due : Stmt := top 11
def d_law_due : He.DefD := ⟨("_law_due", none), "_law_due", "_law_due", defArgs s_law_due, defBody s_law_due, defScope s_law_due, [], []⟩
abbrev s_law_right : Stmt := top 12
def d_law_right : He.DefD := ⟨("_law_right", none), "_law_right", "_law_right", defArgs s_law_right, defBody s_law_right, defScope s_law_right, [], []⟩
abbrev s_law : Stmt := top 13
def d_law : He.DefD := ⟨("law", none), "law", "law", defArgs s_law, defBody s_law, defScope s_law, [], []⟩
def b_exchanged : Ss :=
  (.cons (.ret (.bin .add (.bin .add (.sl (.var 0) .nop (.bin .sub (.var 1) (.cint 1))) (.tup (.cons (.ix (.var 0) (.var 1)) (.cons (.ix (.var 0) (.bin .sub (.var 1) (.cint 1))) .nil)))) (.sl (.var 0) (.bin .add (.var 1) (.cint 1)) .nop)))
  .nil)
def f_exchanged : Fn := ⟨"_exchanged", ["order", "at"], ["order", "at"], b_exchanged⟩
def b_moved : Ss :=
  (.cons (.ifs (.cmp .eq (.var 3) (.cstr "none"))
    (.cons (.ret (.var 0))
    .nil)
    .nil)
  (.cons (.whl (.and2 (.cmp .gt (.var 1) (.cint 0)) (.and1 (.cmp .nin (.tup (.cons (.ix (.var 0) (.bin .sub (.var 1) (.cint 1))) (.cons (.ix (.var 0) (.var 1)) .nil))) (.var 2))))
    (.cons (.asg (.nm 0) (.call "_exchanged" "_exchanged" (.cons (.var 0) (.cons (.var 1) .nil))))
    (.cons (.asg (.nm 1) (.bin .sub (.var 1) (.cint 1)))
    (.cons (.ifs (.cmp .eq (.var 3) (.cstr "swap"))
      (.cons (.ret (.var 0))
      .nil)
      .nil)
    .nil))))
  (.cons (.ret (.var 0))
  .nil)))
def f_moved : Fn := ⟨"moved", ["order", "at", "pins", "moves"], ["order", "at", "pins", "moves"], b_moved⟩
def b_law_box : Ss :=
  (.cons (.ret (.lstM (.cons (.blt .list (.cons (.var 0) .nil)) (.cons (.cint 0) (.cons (.cint 0) (.cons (.cint 0) (.cons (.cint 0) .nil)))))))
  .nil)
def f_law_box : Fn := ⟨"_law_box", ["_law_script"], ["_law_script"], b_law_box⟩
def b_law_draw : Ss :=
  (.cons (.ifs (.cmp .eq (.ix (.var 0) (.cint 3)) (.cint 0))
    (.cons (.ifs (.cmp .ge (.ix (.var 0) (.cint 1)) (.blt .len (.cons (.ix (.var 0) (.cint 0)) .nil)))
      (.cons (.ret (.cint 0))
      .nil)
      .nil)
    (.cons (.seti (.var 0) (.cint 2) (.blt .abs (.cons (.blt .int (.cons (.ix (.ix (.var 0) (.cint 0)) (.ix (.var 0) (.cint 1))) .nil)) .nil)))
    (.cons (.seti (.var 0) (.cint 1) (.bin .add (.ix (.var 0) (.cint 1)) (.cint 1)))
    (.cons (.seti (.var 0) (.cint 4) (.blt .int (.cons (.cmp .ge (.ix (.var 0) (.cint 2)) (.bin .pow (.cint 10) (.cint 18))) .nil)))
    (.cons (.seti (.var 0) (.cint 3) (.bin .add (.cint 12) (.bin .mul (.cint 48) (.ix (.var 0) (.cint 4)))))
    .nil)))))
    .nil)
  (.cons (.seti (.var 0) (.cint 3) (.bin .sub (.ix (.var 0) (.cint 3)) (.cint 1)))
  (.cons (.ifs (.cmp .eq (.ix (.var 0) (.cint 4)) (.cint 1))
    (.cons (.asg (.nm 3) (.bin .mod (.blt .int (.cons (.ix (.var 0) (.cint 2)) .nil)) (.var 1)))
    (.cons (.seti (.var 0) (.cint 2) (.bin .fdiv (.blt .int (.cons (.ix (.var 0) (.cint 2)) .nil)) (.var 1)))
    (.cons (.ifs (.cmp .eq (.ix (.var 0) (.cint 2)) (.cint 0))
      (.cons (.seti (.var 0) (.cint 3) (.cint 0))
      .nil)
      .nil)
    (.cons (.ret (.var 3))
    .nil))))
    .nil)
  (.cons (.asg (.nm 2) (.bin .mod (.blt .int (.cons (.bin .add (.bin .add (.bin .mul (.blt .int (.cons (.ix (.var 0) (.cint 2)) .nil)) (.cint 48271)) (.bin .mul (.ix (.var 0) (.cint 3)) (.cint 69621))) (.cint 13)) .nil)) (.cint 2147483647)))
  (.cons (.asg (.nm 2) (.bin .mod (.blt .int (.cons (.bin .add (.bin .add (.bin .mul (.var 2) (.cint 16807)) (.bin .mul (.ix (.var 0) (.cint 3)) (.cint 40692))) (.cint 7)) .nil)) (.cint 2147483629)))
  (.cons (.ret (.bin .mod (.blt .int (.cons (.var 2) .nil)) (.var 1)))
  .nil))))))
def f_law_draw : Fn := ⟨"_law_draw", ["_law_box_here", "_law_size", "_law_mixed", "_law_drawn"], ["_law_box_here", "_law_size"], b_law_draw⟩
def b_law_same : Ss :=
  (.cons (.ifs (.cmp .is_ (.var 1) .cnon)
    (.cons (.ret (.cmp .is_ (.var 0) .cnon))
    .nil)
    .nil)
  (.cons (.ifs (.blt .isi (.cons (.var 1) (.cons (.ty "bool") .nil)))
    (.cons (.ret (.and2 (.blt .isi (.cons (.var 0) (.cons (.ty "bool") .nil))) (.and1 (.cmp .eq (.var 0) (.var 1)))))
    .nil)
    .nil)
  (.cons (.ifs (.blt .isi (.cons (.var 1) (.cons (.ty "int") .nil)))
    (.cons (.ret (.and2 (.blt .isi (.cons (.var 0) (.cons (.ty "int") .nil))) (.and2 (.not (.blt .isi (.cons (.var 0) (.cons (.ty "bool") .nil)))) (.and1 (.cmp .eq (.var 0) (.var 1))))))
    .nil)
    .nil)
  (.cons (.ifs (.blt .isi (.cons (.var 1) (.cons (.ty "str") .nil)))
    (.cons (.ret (.and2 (.blt .isi (.cons (.var 0) (.cons (.ty "str") .nil))) (.and1 (.cmp .eq (.var 0) (.var 1)))))
    .nil)
    .nil)
  (.cons (.ifs (.and2 (.blt .isi (.cons (.var 1) (.cons (.ty "tuple") .nil))) (.and1 (.not (.blt .isi (.cons (.var 0) (.cons (.ty "tuple") .nil))))))
    (.cons (.ret (.cbl false))
    .nil)
    .nil)
  (.cons (.ifs (.or2 (.and2 (.blt .isi (.cons (.var 1) (.cons (.ty "list") .nil))) (.and1 (.not (.blt .isi (.cons (.var 0) (.cons (.ty "list") .nil)))))) (.or1 (.cmp .ne (.blt .len (.cons (.var 0) .nil)) (.blt .len (.cons (.var 1) .nil)))))
    (.cons (.ret (.cbl false))
    .nil)
    .nil)
  (.cons (.for_ (.nm 2) (.rng1 (.blt .len (.cons (.var 1) .nil)))
    (.cons (.ifs (.not (.call "_law_same" "_law_same" (.cons (.ix (.var 0) (.var 2)) (.cons (.ix (.var 1) (.var 2)) .nil))))
      (.cons (.ret (.cbl false))
      .nil)
      .nil)
    .nil))
  (.cons (.ret (.cbl true))
  .nil))))))))
def f_law_same : Fn := ⟨"_law_same", ["_law_one", "_law_two", "_law_k"], ["_law_one", "_law_two"], b_law_same⟩
def b_law_shuffled : Ss :=
  (.cons (.asg (.nm 2) (.bltM .list (.cons (.var 1) .nil)))
  (.cons (.asg (.nm 3) (.lstM .nil))
  (.cons (.for_ (.nm 4) (.rng1 (.blt .len (.cons (.var 1) .nil)))
    (.cons (.expr (.meth .append (.var 3) (.cons (.meth .pop (.var 2) (.cons (.call "_law_draw" "_law_draw" (.cons (.var 0) (.cons (.blt .len (.cons (.var 2) .nil)) .nil))) .nil)) .nil)))
    .nil))
  (.cons (.ret (.frz (.var 3)))
  .nil))))
def f_law_shuffled : Fn := ⟨"_law_shuffled", ["_law_box_here", "_law_things", "_law_rest", "_law_result", "_law_k"], ["_law_box_here", "_law_things"], b_law_shuffled⟩
def b_law_name : Ss :=
  (.cons (.asg (.nm 2) (.cstr "abcdefghijklmnopqrstuvwxyz0123456789_"))
  (.cons (.asg (.nm 3) (.ix (.lst (.cons (.cint 1) (.cons (.cint 1) (.cons (.cint 2) (.cons (.cint 2) (.cons (.cint 3) (.cons (.cint 3) (.cons (.cint 4) (.cons (.cint 5) (.cons (.cint 6) (.cons (.cint 8) (.cons (.cint 11) (.cons (.cint 12) .nil))))))))))))) (.call "_law_draw" "_law_draw" (.cons (.var 0) (.cons (.cint 12) .nil)))))
  (.cons (.asg (.nm 4) (.call "_law_draw" "_law_draw" (.cons (.var 0) (.cons (.bin .mul (.cint 26) (.bin .pow (.cint 37) (.cint 11))) .nil))))
  (.cons (.asg (.nm 5) (.ix (.var 2) (.bin .mod (.blt .int (.cons (.var 4) .nil)) (.cint 26))))
  (.cons (.asg (.nm 4) (.bin .fdiv (.var 4) (.cint 26)))
  (.cons (.for_ (.nm 6) (.rng1 (.bin .sub (.var 3) (.cint 1)))
    (.cons (.asg (.nm 5) (.bin .add (.var 5) (.ix (.var 2) (.bin .mod (.blt .int (.cons (.bin .add (.var 4) (.var 6)) .nil)) (.cint 37)))))
    (.cons (.asg (.nm 4) (.bin .fdiv (.var 4) (.cint 37)))
    .nil)))
  (.cons (.ifs (.cmp .nin (.var 5) (.bin .add (.var 1) (.lst (.cons (.cstr "all") (.cons (.cstr "and") (.cons (.cstr "in") (.cons (.cstr "is") (.cons (.cstr "none") (.cons (.cstr "not") (.cons (.cstr "or") (.cons (.cstr "rule") (.cons (.cstr "zero") (.cons (.cstr "range") (.cons (.cstr "fuse") .nil))))))))))))))
    (.cons (.ret (.var 5))
    .nil)
    .nil)
  (.cons (.asg (.nm 7) (.lc (.bin .add (.bin .add (.sl (.var 5) .nop (.cint 9)) (.cstr "z")) (.blt .str (.cons (.var 6) .nil))) (.nm 6) (.rng1 (.bin .add (.blt .len (.cons (.var 1) .nil)) (.cint 1))) (.cbl true)))
  (.cons (.ret (.ix (.lc (.var 8) (.nm 8) (.seq (.var 7)) (.cmp .nin (.var 8) (.var 1))) (.cint 0)))
  .nil)))))))))
def f_law_name : Fn := ⟨"_law_name", ["_law_box_here", "_law_taken", "_law_signs", "_law_size", "_law_rest", "_law_name_here", "_law_k", "_law_others", "_law_other"], ["_law_box_here", "_law_taken"], b_law_name⟩
def b_law_names : Ss :=
  (.cons (.asg (.nm 2) (.lstM .nil))
  (.cons (.for_ (.nm 3) (.rng1 (.var 1))
    (.cons (.expr (.meth .append (.var 2) (.cons (.call "_law_name" "_law_name" (.cons (.var 0) (.cons (.var 2) .nil))) .nil)))
    .nil))
  (.cons (.ret (.frz (.var 2)))
  .nil)))
def f_law_names : Fn := ⟨"_law_names", ["_law_box_here", "_law_many", "_law_names_here", "_law_k"], ["_law_box_here", "_law_many"], b_law_names⟩
def b_law_due : Ss :=
  (.cons (.asg (.nm 4) (.lc (.bin .add (.var 6) (.cint 1)) (.nm 6) (.rng1 (.var 1)) (.cmp .in_ (.tup (.cons (.ix (.var 0) (.var 6)) (.cons (.ix (.var 0) (.var 1)) .nil))) (.var 2))))
  (.cons (.asg (.nm 5) (.var 1))
  (.cons (.ifs (.cmp .ne (.var 3) (.cstr "none"))
    (.cons (.asg (.nm 5) (.ife (.cmp .ne (.var 4) (.lst .nil)) (.ix (.var 4) (.neg (.cint 1))) (.cint 0)))
    .nil)
    .nil)
  (.cons (.ifs (.and2 (.cmp .eq (.var 3) (.cstr "swap")) (.and1 (.cmp .lt (.var 5) (.var 1))))
    (.cons (.asg (.nm 5) (.bin .sub (.var 1) (.cint 1)))
    .nil)
    .nil)
  (.cons (.ret (.bin .add (.bin .add (.bin .add (.sl (.var 0) .nop (.var 5)) (.tup (.cons (.ix (.var 0) (.var 1)) .nil))) (.sl (.var 0) (.var 5) (.var 1))) (.sl (.var 0) (.bin .add (.var 1) (.cint 1)) .nop)))
  .nil)))))
def f_law_due : Fn := ⟨"_law_due", ["_law_steps", "_law_at", "_law_ties", "_law_shift", "_law_stops", "_law_place", "_law_k"], ["_law_steps", "_law_at", "_law_ties", "_law_shift"], b_law_due⟩
def b_law_right : Ss :=
  (.cons (.asg (.nm 4) (.blt .list (.cons (.var 2) .nil)))
  (.cons (.asg (.nm 5) (.call "_law_due" "_law_due" (.cons (.var 0) (.cons (.var 1) (.cons (.var 2) (.cons (.var 3) .nil))))))
  (.cons (.ifs (.or2 (.not (.call "_law_same" "_law_same" (.cons (.call "moved" "moved" (.cons (.var 0) (.cons (.var 1) (.cons (.var 4) (.cons (.var 3) .nil))))) (.cons (.var 5) .nil)))) (.or1 (.not (.call "_law_same" "_law_same" (.cons (.var 4) (.cons (.var 2) .nil))))))
    (.cons (.ret (.cbl false))
    .nil)
    .nil)
  (.cons (.ret (.call "_law_same" "_law_same" (.cons (.call "moved" "moved" (.cons (.var 0) (.cons (.var 1) (.cons (.blt .tuple (.cons (.var 2) .nil)) (.cons (.var 3) .nil))))) (.cons (.var 5) .nil))))
  .nil))))
def f_law_right : Fn := ⟨"_law_right", ["_law_steps", "_law_at", "_law_ties", "_law_shift", "_law_given", "_law_due_here"], ["_law_steps", "_law_at", "_law_ties", "_law_shift"], b_law_right⟩
def b_law : Ss :=
  (.cons (.asg (.nm 1) (.call "_law_box" "_law_box" (.cons (.var 0) .nil)))
  (.cons (.asg (.nm 2) (.bin .add (.lst (.cons (.cstr "rule") .nil)) (.call "_law_names" "_law_names" (.cons (.var 1) (.cons (.call "_law_draw" "_law_draw" (.cons (.var 1) (.cons (.cint 6) .nil))) .nil)))))
  (.cons (.asg (.nm 3) (.blt .tuple (.cons (.call "_law_shuffled" "_law_shuffled" (.cons (.var 1) (.cons (.var 2) .nil))) .nil)))
  (.cons (.asg (.nm 4) (.lst .nil))
  (.cons (.for_ (.nm 5) (.rng1 (.blt .len (.cons (.var 3) .nil)))
    (.cons (.asg (.nm 4) (.bin .add (.var 4) (.lc (.tup (.cons (.ix (.var 3) (.var 5)) (.cons (.var 9) .nil))) (.nm 9) (.seq (.sl (.var 3) (.bin .add (.var 5) (.cint 1)) .nop)) (.cmp .eq (.call "_law_draw" "_law_draw" (.cons (.var 1) (.cons (.cint 3) .nil))) (.cint 1)))))
    .nil))
  (.cons (.asg (.nm 4) (.call "_law_shuffled" "_law_shuffled" (.cons (.var 1) (.cons (.var 4) .nil))))
  (.cons (.for_ (.nm 6) (.seq (.lst (.cons (.cstr "none") (.cons (.cstr "swap") (.cons (.cstr "front") .nil)))))
    (.cons (.for_ (.nm 8) (.rng1 (.blt .len (.cons (.var 3) .nil)))
      (.cons (.ifs (.not (.call "_law_right" "_law_right" (.cons (.var 3) (.cons (.var 8) (.cons (.var 4) (.cons (.var 6) .nil))))))
        (.cons (.ret (.cbl false))
        .nil)
        .nil)
      .nil))
    .nil))
  (.cons (.asg (.nm 7) (.var 3))
  (.cons (.for_ (.nm 5) (.rng1 (.cint 12))
    (.cons (.asg (.nm 8) (.call "_law_draw" "_law_draw" (.cons (.var 1) (.cons (.blt .len (.cons (.var 7) .nil)) .nil))))
    (.cons (.asg (.nm 6) (.ix (.lst (.cons (.cstr "front") (.cons (.cstr "swap") (.cons (.cstr "none") .nil)))) (.call "_law_draw" "_law_draw" (.cons (.var 1) (.cons (.cint 3) .nil)))))
    (.cons (.ifs (.not (.call "_law_right" "_law_right" (.cons (.var 7) (.cons (.var 8) (.cons (.var 4) (.cons (.var 6) .nil))))))
      (.cons (.ret (.cbl false))
      .nil)
      .nil)
    (.cons (.asg (.nm 7) (.call "_law_due" "_law_due" (.cons (.var 7) (.cons (.var 8) (.cons (.var 4) (.cons (.var 6) .nil))))))
    .nil)))))
  (.cons (.ret (.call "_law_same" "_law_same" (.cons (.glob "RULE") (.cons (.cstr "rule") .nil))))
  .nil))))))))))
def f_law : Fn := ⟨"law", ["_law_script", "_law_box_here", "_law_names_here", "_law_first", "_law_ties", "_law_k", "_law_shift", "_law_steps", "_law_at", "_law_name_here"], ["_law_script"], b_law⟩
def cs : List (Str × Cn) := [("RULE", .str "rule")]
def prg (w : Nat) : Prg := ⟨[("_exchanged", f_exchanged), ("moved", f_moved), ("_law_box", f_law_box), ("_law_draw", f_law_draw), ("_law_same", f_law_same), ("_law_shuffled", f_law_shuffled), ("_law_name", f_law_name), ("_law_names", f_law_names), ("_law_due", f_law_due), ("_law_right", f_law_right), ("law", f_law)], cs.map fun p => (p.1, p.2.d), w⟩
def fn : List He.DefD := [d_exchanged, d_moved, d_law_box, d_law_draw, d_law_same, d_law_shuffled, d_law_name, d_law_names, d_law_due, d_law_right, d_law]
/-! ### the own syntax fits the text -/
theorem sc_exchanged : FnScope f_exchanged.ns f_exchanged.ps d_exchanged.scope := ⟨rfl, rfl, rfl, by decide +kernel, rfl, by decide +kernel, by decide +kernel⟩
theorem fit_exchanged : fitSs f_exchanged.ns d_exchanged.scope f_exchanged.body d_exchanged.body = true := by decide +kernel
theorem sc_moved : FnScope f_moved.ns f_moved.ps d_moved.scope := ⟨rfl, rfl, rfl, by decide +kernel, rfl, by decide +kernel, by decide +kernel⟩
theorem fit_moved : fitSs f_moved.ns d_moved.scope f_moved.body d_moved.body = true := by decide +kernel
theorem sc_law_box : FnScope f_law_box.ns f_law_box.ps d_law_box.scope := ⟨rfl, rfl, rfl, by decide +kernel, rfl, by decide +kernel, by decide +kernel⟩
theorem fit_law_box : fitSs f_law_box.ns d_law_box.scope f_law_box.body d_law_box.body = true := by decide +kernel
theorem sc_law_draw : FnScope f_law_draw.ns f_law_draw.ps d_law_draw.scope := ⟨rfl, rfl, rfl, by decide +kernel, rfl, by decide +kernel, by decide +kernel⟩
theorem fit_law_draw : fitSs f_law_draw.ns d_law_draw.scope f_law_draw.body d_law_draw.body = true := by decide +kernel
theorem sc_law_same : FnScope f_law_same.ns f_law_same.ps d_law_same.scope := ⟨rfl, rfl, rfl, by decide +kernel, rfl, by decide +kernel, by decide +kernel⟩
theorem fit_law_same : fitSs f_law_same.ns d_law_same.scope f_law_same.body d_law_same.body = true := by decide +kernel
theorem sc_law_shuffled : FnScope f_law_shuffled.ns f_law_shuffled.ps d_law_shuffled.scope := ⟨rfl, rfl, rfl, by decide +kernel, rfl, by decide +kernel, by decide +kernel⟩
theorem fit_law_shuffled : fitSs f_law_shuffled.ns d_law_shuffled.scope f_law_shuffled.body d_law_shuffled.body = true := by decide +kernel
theorem sc_law_name : FnScope f_law_name.ns f_law_name.ps d_law_name.scope := ⟨rfl, rfl, rfl, by decide +kernel, rfl, by decide +kernel, by decide +kernel⟩
theorem fit_law_name : fitSs f_law_name.ns d_law_name.scope f_law_name.body d_law_name.body = true := by decide +kernel
theorem sc_law_names : FnScope f_law_names.ns f_law_names.ps d_law_names.scope := ⟨rfl, rfl, rfl, by decide +kernel, rfl, by decide +kernel, by decide +kernel⟩
theorem fit_law_names : fitSs f_law_names.ns d_law_names.scope f_law_names.body d_law_names.body = true := by decide +kernel
theorem sc_law_due : FnScope f_law_due.ns f_law_due.ps d_law_due.scope := ⟨rfl, rfl, rfl, by decide +kernel, rfl, by decide +kernel, by decide +kernel⟩
theorem fit_law_due : fitSs f_law_due.ns d_law_due.scope f_law_due.body d_law_due.body = true := by decide +kernel
theorem sc_law_right : FnScope f_law_right.ns f_law_right.ps d_law_right.scope := ⟨rfl, rfl, rfl, by decide +kernel, rfl, by decide +kernel, by decide +kernel⟩
theorem fit_law_right : fitSs f_law_right.ns d_law_right.scope f_law_right.body d_law_right.body = true := by decide +kernel
theorem sc_law : FnScope f_law.ns f_law.ps d_law.scope := ⟨rfl, rfl, rfl, by decide +kernel, rfl, by decide +kernel, by decide +kernel⟩
theorem fit_law : fitSs f_law.ns d_law.scope f_law.body d_law.body = true := by decide +kernel
/-! ### a call is its body's run -/
theorem call_exchanged {w k : Nat} {S : Sto} {a0 a1 : D} : callN (prg w) (k + 1) "_exchanged" "_exchanged" [a0, a1] S = (evSs (ctxOf (prg w) k) b_exchanged [some a0, some a1] S).bind retK := callN_eq (F := f_exchanged) rfl rfl rfl
theorem call_moved {w k : Nat} {S : Sto} {a0 a1 a2 a3 : D} : callN (prg w) (k + 1) "moved" "moved" [a0, a1, a2, a3] S = (evSs (ctxOf (prg w) k) b_moved [some a0, some a1, some a2, some a3] S).bind retK := callN_eq (F := f_moved) rfl rfl rfl
theorem call_law_box {w k : Nat} {S : Sto} {a0 : D} : callN (prg w) (k + 1) "_law_box" "_law_box" [a0] S = (evSs (ctxOf (prg w) k) b_law_box [some a0] S).bind retK := callN_eq (F := f_law_box) rfl rfl rfl
theorem call_law_draw {w k : Nat} {S : Sto} {a0 a1 : D} : callN (prg w) (k + 1) "_law_draw" "_law_draw" [a0, a1] S = (evSs (ctxOf (prg w) k) b_law_draw [some a0, some a1, none, none] S).bind retK := callN_eq (F := f_law_draw) rfl rfl rfl
theorem call_law_same {w k : Nat} {S : Sto} {a0 a1 : D} : callN (prg w) (k + 1) "_law_same" "_law_same" [a0, a1] S = (evSs (ctxOf (prg w) k) b_law_same [some a0, some a1, none] S).bind retK := callN_eq (F := f_law_same) rfl rfl rfl
theorem call_law_shuffled {w k : Nat} {S : Sto} {a0 a1 : D} : callN (prg w) (k + 1) "_law_shuffled" "_law_shuffled" [a0, a1] S = (evSs (ctxOf (prg w) k) b_law_shuffled [some a0, some a1, none, none, none] S).bind retK := callN_eq (F := f_law_shuffled) rfl rfl rfl
theorem call_law_name {w k : Nat} {S : Sto} {a0 a1 : D} : callN (prg w) (k + 1) "_law_name" "_law_name" [a0, a1] S = (evSs (ctxOf (prg w) k) b_law_name [some a0, some a1, none, none, none, none, none, none, none] S).bind retK := callN_eq (F := f_law_name) rfl rfl rfl
theorem call_law_names {w k : Nat} {S : Sto} {a0 a1 : D} : callN (prg w) (k + 1) "_law_names" "_law_names" [a0, a1] S = (evSs (ctxOf (prg w) k) b_law_names [some a0, some a1, none, none] S).bind retK := callN_eq (F := f_law_names) rfl rfl rfl
theorem call_law_due {w k : Nat} {S : Sto} {a0 a1 a2 a3 : D} : callN (prg w) (k + 1) "_law_due" "_law_due" [a0, a1, a2, a3] S = (evSs (ctxOf (prg w) k) b_law_due [some a0, some a1, some a2, some a3, none, none, none] S).bind retK := callN_eq (F := f_law_due) rfl rfl rfl
theorem call_law_right {w k : Nat} {S : Sto} {a0 a1 a2 a3 : D} : callN (prg w) (k + 1) "_law_right" "_law_right" [a0, a1, a2, a3] S = (evSs (ctxOf (prg w) k) b_law_right [some a0, some a1, some a2, some a3, none, none] S).bind retK := callN_eq (F := f_law_right) rfl rfl rfl
theorem call_law {w k : Nat} {S : Sto} {a0 : D} : callN (prg w) (k + 1) "law" "law" [a0] S = (evSs (ctxOf (prg w) k) b_law [some a0, none, none, none, none, none, none, none, none, none] S).bind retK := callN_eq (F := f_law) rfl rfl rfl
theorem con_RULE {w : Nat} : List.lookup ("RULE" : Str) (prg w).con = some (.str "rule") := (rfl)
/-! ### the facts of the head -/
abbrev RR : PySem.W.OpenRow := PySem.W.OpenLaw.row PySem.Challenge.rw_errortells_k30_moved_orders
abbrev hk : PySem.W.Hook := hookX 4 cs fn
def ob (s : PySem.W.SharedT) : He.AlD := obsXG 4 cs fn (HandSHeadRun.getT s)
theorem ob_eq (s : PySem.W.SharedT) : ob s = hk.obs s.abs := obsXG_eq (HandSHeadRun.getT_eq s)
def loose : List PySem.Str := ["RULE", "_exchanged", "moved", "_law_box", "_law_draw", "_law_same", "_law_shuffled", "_law_name", "_law_names", "_law_due", "_law_right"]
theorem run (w : World) : HandSHeadRun.RunEq RR (PySem.W.view RR.prog [13]) hk ob 6000 loose w := by
  intro os
  kernel_rfl
theorem good {K : PySem.W.Frag} {h : Heap} {mg : Str → Option Value} (X : K.In h) (G : h.Ns mainGlobals mg) (c : SaysX cs fn K) (w : Nat) : ∀ f F, (prg w).fns.lookup f = some F → ∃ d, Good K mg F d := by
  intro f F e
  have hm := PySem.mem_of_lookup e
  simp only [prg, List.mem_cons, Prod.mk.injEq, List.not_mem_nil, or_false] at hm
  rcases hm with ⟨rfl, rfl⟩ | ⟨rfl, rfl⟩ | ⟨rfl, rfl⟩ | ⟨rfl, rfl⟩ | ⟨rfl, rfl⟩ | ⟨rfl, rfl⟩ | ⟨rfl, rfl⟩ | ⟨rfl, rfl⟩ | ⟨rfl, rfl⟩ | ⟨rfl, rfl⟩ | ⟨rfl, rfl⟩
  · obtain ⟨fd, FD⟩ := c.def_ (i := 0) (d := d_exchanged) rfl
    exact ⟨d_exchanged, ⟨fd, FD, FunD.bindsN FD fun _ _ _ _ _ _ us hl => match us, hl with | [_, _], _ => rfl⟩, c.glo X G (d := d_exchanged) (by simp [fn]) rfl, sc_exchanged, fit_exchanged⟩
  · obtain ⟨fd, FD⟩ := c.def_ (i := 1) (d := d_moved) rfl
    exact ⟨d_moved, ⟨fd, FD, FunD.bindsN FD fun _ _ _ _ _ _ us hl => match us, hl with | [_, _, _, _], _ => rfl⟩, c.glo X G (d := d_moved) (by simp [fn]) rfl, sc_moved, fit_moved⟩
  · obtain ⟨fd, FD⟩ := c.def_ (i := 2) (d := d_law_box) rfl
    exact ⟨d_law_box, ⟨fd, FD, FunD.bindsN FD fun _ _ _ _ _ _ us hl => match us, hl with | [_], _ => rfl⟩, c.glo X G (d := d_law_box) (by simp [fn]) rfl, sc_law_box, fit_law_box⟩
  · obtain ⟨fd, FD⟩ := c.def_ (i := 3) (d := d_law_draw) rfl
    exact ⟨d_law_draw, ⟨fd, FD, FunD.bindsN FD fun _ _ _ _ _ _ us hl => match us, hl with | [_, _], _ => rfl⟩, c.glo X G (d := d_law_draw) (by simp [fn]) rfl, sc_law_draw, fit_law_draw⟩
  · obtain ⟨fd, FD⟩ := c.def_ (i := 4) (d := d_law_same) rfl
    exact ⟨d_law_same, ⟨fd, FD, FunD.bindsN FD fun _ _ _ _ _ _ us hl => match us, hl with | [_, _], _ => rfl⟩, c.glo X G (d := d_law_same) (by simp [fn]) rfl, sc_law_same, fit_law_same⟩
  · obtain ⟨fd, FD⟩ := c.def_ (i := 5) (d := d_law_shuffled) rfl
    exact ⟨d_law_shuffled, ⟨fd, FD, FunD.bindsN FD fun _ _ _ _ _ _ us hl => match us, hl with | [_, _], _ => rfl⟩, c.glo X G (d := d_law_shuffled) (by simp [fn]) rfl, sc_law_shuffled, fit_law_shuffled⟩
  · obtain ⟨fd, FD⟩ := c.def_ (i := 6) (d := d_law_name) rfl
    exact ⟨d_law_name, ⟨fd, FD, FunD.bindsN FD fun _ _ _ _ _ _ us hl => match us, hl with | [_, _], _ => rfl⟩, c.glo X G (d := d_law_name) (by simp [fn]) rfl, sc_law_name, fit_law_name⟩
  · obtain ⟨fd, FD⟩ := c.def_ (i := 7) (d := d_law_names) rfl
    exact ⟨d_law_names, ⟨fd, FD, FunD.bindsN FD fun _ _ _ _ _ _ us hl => match us, hl with | [_, _], _ => rfl⟩, c.glo X G (d := d_law_names) (by simp [fn]) rfl, sc_law_names, fit_law_names⟩
  · obtain ⟨fd, FD⟩ := c.def_ (i := 8) (d := d_law_due) rfl
    exact ⟨d_law_due, ⟨fd, FD, FunD.bindsN FD fun _ _ _ _ _ _ us hl => match us, hl with | [_, _, _, _], _ => rfl⟩, c.glo X G (d := d_law_due) (by simp [fn]) rfl, sc_law_due, fit_law_due⟩
  · obtain ⟨fd, FD⟩ := c.def_ (i := 9) (d := d_law_right) rfl
    exact ⟨d_law_right, ⟨fd, FD, FunD.bindsN FD fun _ _ _ _ _ _ us hl => match us, hl with | [_, _, _, _], _ => rfl⟩, c.glo X G (d := d_law_right) (by simp [fn]) rfl, sc_law_right, fit_law_right⟩
  · obtain ⟨fd, FD⟩ := c.def_ (i := 10) (d := d_law) rfl
    exact ⟨d_law, ⟨fd, FD, FunD.bindsN FD fun _ _ _ _ _ _ us hl => match us, hl with | [_], _ => rfl⟩, c.glo X G (d := d_law) (by simp [fn]) rfl, sc_law, fit_law⟩
theorem facts {P : Program} {w : World} {K : PySem.W.Frag} {h : Heap} {mg : Str → Option Value} {f : Addr} (X : K.In h) (G : h.Ns mainGlobals mg) (hfa : mg ("law" : Str) = some (.ref f)) (c : SaysX cs fn K) (wn k : Nat)
    (H : ∀ ns : List Int, ns.length ≤ 63 → ∃ S', callN (prg wn) (k + 1) "law" "law" [.fl (ns.map .int)] [] = .ok (.bl true) S') :
    ∃ fd : FuncData, (∀ (s : Shared) (v : Value), BindsTo s fd ⟨[v], []⟩ [("_law_script", v)]) ∧ ∀ base : Heap, K.In base → base.Ns mainGlobals mg → FnOk P w K mg base CX0 (k + 1) f fd ["_law_script"] (spLaw K) := by
  have fr : ∀ x, x ∈ nameFree → mg x = none := fun x hx => c.free X G hx
  have W : ∀ (base : Heap) (k : Nat), WldF (prg wn) k P w K mg base := fun base k => wld_all (fun f => fr _ (by cases f <;> simp [Blt.nm, nameFree])) (fr _ (by simp [nameFree])) (fr _ (by simp [nameFree])) (c.con X G) (good X G c wn) k
  obtain ⟨fd, FD⟩ := c.def_ (i := 10) (d := d_law) rfl
  have e := hfa.symm.trans (c.glo X G (d := d_law) (by simp [fn]) rfl)
  cases e
  have hl : (prg wn).fns.lookup ("law" : Str) = some f_law := rfl
  have b := FunD.bindsA (ps := ["_law_script"]) FD fun _ _ _ _ _ _ us hl => match us, hl with | [_], _ => rfl
  have b2 := FunD.bindsN (ps := ["_law_script"]) FD fun _ _ _ _ _ _ us hl => match us, hl with | [_], _ => rfl
  refine ⟨fd, fun s v => b s [v] rfl, fun base _ _ => ?_⟩
  have g := fn_good (f := "law") (W base k) hl ⟨⟨fd, FD, b2⟩, c.glo X G (d := d_law) (by simp [fn]) rfl, sc_law, fit_law⟩ FD
  exact FnOk.imp g (law_sp H)
end Pr

namespace Pr
open PySem L2 Ev
variable {w k : Nat} {S : Sto} {b : Nat}
theorem pow_10_18 (S : Sto) : binD .pow (.int 10) (.int 18) S = .ok (.int 1000000000000000000) S := rfl
theorem draw_run {size : Int} (hb : BoxAt S b) (h0 : 0 < size) (h1 : size < 2 ^ 250) :
    ∃ r o, callN (prg w) (k + 1) "_law_draw" "_law_draw" [.ref b, .int size] S = .ok (.int r) (S.set b o) ∧ IsBox o ∧ 0 ≤ r ∧ r < size := by
  obtain ⟨o, ho, sc, p, c, l, g, rfl, hp⟩ := hb.ex
  -- behind the first if
  have tail : ∀ (S1 : Sto) (c l g p : Int), 0 ≤ p → S1[b]? = some (boxO sc p c l g) → ∃ r o, (evSs (ctxOf (prg w) k) (match b_law_draw with | .cons _ t => t | _ => .nil) [some (.ref b), some (.int size), none, none] S1).bind retK = .ok (.int r) (S1.set b o) ∧ IsBox o ∧ 0 ≤ r ∧ r < size := by
    intro S1 c l g p hp h
    simp only [b_law_draw]
    unfold boxO at h
    have m1 := fun x => cmul_r (i := x) (j := 48271) (by decide)
    have m2 := fun x => cmul_r (i := x) (j := 69621) (by decide)
    have m3 := fun x => cmul_r (i := x) (j := 16807) (by decide)
    have m4 := fun x => cmul_r (i := x) (j := 40692) (by decide)
    have g1 := get_set (o' := .lst [.lv (sc.map .int), .int p, .int c, .int (l - 1), .int g]) h
    simp only [eE_var, varK_s, eE_glob, eE_ty, eE_int, eE_str, eE_bl, eE_non, eE_bin, eE_binM, eE_cmp, eE_ix, k2_ap, eE_neg, negK_i, eE_not, notK_b, eE_chain, chK1_ap, chK3_ap, chK2_t, chK2_f, eE_and1, eE_or1, eE_and2, andK_t, andK_f, eE_or2, orK_t, orK_f, eE_ife, iteK_t, iteK_f, eE_tup, eE_lst, eE_lstM, tupK_1, tupK_2, lstK_0, lstK_1, eE_sl, slK1_ap, slK2_ap, part_no, eE_call, eE_blt, eE_bltM, bltMK_ap, thaw_lv, eE_meth, eE_lcS, eE_lcR, eE_frz, eE_rev, rev_lv, eEs_nil, eEs_cons, consK_ap, cnsK_ap, eSs_nil, eSs_cons, eS_asg, asgK_nm, eS_seti, stK1_ap, stK2_ap, stK3_ap, stK4_ap, eS_expr, expK_ap, eS_ret, rtK_ap, eS_ifs, eS_forS, eS_forR, eS_whl, eS_pass, eS_ctn, eS_brk, eS_retN, R.bind_ok, seqK_nx, seqK_rt, seqK_bk, seqK_ct, loopK_nx, loopK_rt, loopK_bk, loopK_ct, retK_nx, retK_rt, tr_bl, add_int, sub_int, cmp_eq_int, cmp_eq_str, cmp_eq_bl, cmp_ne_int, cmp_ne_str, cmp_lt_int, cmp_le_int, cmp_gt_int, cmp_ge_int, int_int, int_bl, abs_int, len_lv, len_tup, List.getElem?_cons_zero, List.getElem?_cons_succ, List.set_cons_zero, List.set_cons_succ, E.isNop, List.set_set, ctx_call, ofOpt_some, in_sign, nin_sign, all_lv, any_lv, part_f, partK_i, ix_ref h ix5_3, seti_ref h (show ixN 5 3 = some 3 from rfl), ix_ref g1 ix5_4]
    by_cases hg : g = 1
    · subst hg
      have g2 := get_set (o' := .lst [.lv (sc.map .int), .int p, .int (c / size), .int (l - 1), .int 1]) h
      simp only [eE_var, varK_s, eE_glob, eE_ty, eE_int, eE_str, eE_bl, eE_non, eE_bin, eE_binM, eE_cmp, eE_ix, k2_ap, eE_neg, negK_i, eE_not, notK_b, eE_chain, chK1_ap, chK3_ap, chK2_t, chK2_f, eE_and1, eE_or1, eE_and2, andK_t, andK_f, eE_or2, orK_t, orK_f, eE_ife, iteK_t, iteK_f, eE_tup, eE_lst, eE_lstM, tupK_1, tupK_2, lstK_0, lstK_1, eE_sl, slK1_ap, slK2_ap, part_no, eE_call, eE_blt, eE_bltM, bltMK_ap, thaw_lv, eE_meth, eE_lcS, eE_lcR, eE_frz, eE_rev, rev_lv, eEs_nil, eEs_cons, consK_ap, cnsK_ap, eSs_nil, eSs_cons, eS_asg, asgK_nm, eS_seti, stK1_ap, stK2_ap, stK3_ap, stK4_ap, eS_expr, expK_ap, eS_ret, rtK_ap, eS_ifs, eS_forS, eS_forR, eS_whl, eS_pass, eS_ctn, eS_brk, eS_retN, R.bind_ok, seqK_nx, seqK_rt, seqK_bk, seqK_ct, loopK_nx, loopK_rt, loopK_bk, loopK_ct, retK_nx, retK_rt, tr_bl, add_int, sub_int, cmp_eq_int, cmp_eq_str, cmp_eq_bl, cmp_ne_int, cmp_ne_str, cmp_lt_int, cmp_le_int, cmp_gt_int, cmp_ge_int, int_int, int_bl, abs_int, len_lv, len_tup, List.getElem?_cons_zero, List.getElem?_cons_succ, List.set_cons_zero, List.set_cons_succ, E.isNop, List.set_set, ctx_call, ofOpt_some, in_sign, nin_sign, all_lv, any_lv, part_f, partK_i, decide_true, ix_ref g1 ix5_2, mod_int h0, fdiv_int h0 (log2_small h0 h1), seti_ref g1 (show ixN 5 2 = some 2 from rfl), ix_ref g2 ix5_2]
      by_cases hc : c / size = 0
      · simp only [eE_var, varK_s, eE_glob, eE_ty, eE_int, eE_str, eE_bl, eE_non, eE_bin, eE_binM, eE_cmp, eE_ix, k2_ap, eE_neg, negK_i, eE_not, notK_b, eE_chain, chK1_ap, chK3_ap, chK2_t, chK2_f, eE_and1, eE_or1, eE_and2, andK_t, andK_f, eE_or2, orK_t, orK_f, eE_ife, iteK_t, iteK_f, eE_tup, eE_lst, eE_lstM, tupK_1, tupK_2, lstK_0, lstK_1, eE_sl, slK1_ap, slK2_ap, part_no, eE_call, eE_blt, eE_bltM, bltMK_ap, thaw_lv, eE_meth, eE_lcS, eE_lcR, eE_frz, eE_rev, rev_lv, eEs_nil, eEs_cons, consK_ap, cnsK_ap, eSs_nil, eSs_cons, eS_asg, asgK_nm, eS_seti, stK1_ap, stK2_ap, stK3_ap, stK4_ap, eS_expr, expK_ap, eS_ret, rtK_ap, eS_ifs, eS_forS, eS_forR, eS_whl, eS_pass, eS_ctn, eS_brk, eS_retN, R.bind_ok, seqK_nx, seqK_rt, seqK_bk, seqK_ct, loopK_nx, loopK_rt, loopK_bk, loopK_ct, retK_nx, retK_rt, tr_bl, add_int, sub_int, cmp_eq_int, cmp_eq_str, cmp_eq_bl, cmp_ne_int, cmp_ne_str, cmp_lt_int, cmp_le_int, cmp_gt_int, cmp_ge_int, int_int, int_bl, abs_int, len_lv, len_tup, List.getElem?_cons_zero, List.getElem?_cons_succ, List.set_cons_zero, List.set_cons_succ, E.isNop, List.set_set, ctx_call, ofOpt_some, in_sign, nin_sign, all_lv, any_lv, part_f, partK_i, hc, decide_true]
        rw [hc] at g2
        simp only [eE_var, varK_s, eE_glob, eE_ty, eE_int, eE_str, eE_bl, eE_non, eE_bin, eE_binM, eE_cmp, eE_ix, k2_ap, eE_neg, negK_i, eE_not, notK_b, eE_chain, chK1_ap, chK3_ap, chK2_t, chK2_f, eE_and1, eE_or1, eE_and2, andK_t, andK_f, eE_or2, orK_t, orK_f, eE_ife, iteK_t, iteK_f, eE_tup, eE_lst, eE_lstM, tupK_1, tupK_2, lstK_0, lstK_1, eE_sl, slK1_ap, slK2_ap, part_no, eE_call, eE_blt, eE_bltM, bltMK_ap, thaw_lv, eE_meth, eE_lcS, eE_lcR, eE_frz, eE_rev, rev_lv, eEs_nil, eEs_cons, consK_ap, cnsK_ap, eSs_nil, eSs_cons, eS_asg, asgK_nm, eS_seti, stK1_ap, stK2_ap, stK3_ap, stK4_ap, eS_expr, expK_ap, eS_ret, rtK_ap, eS_ifs, eS_forS, eS_forR, eS_whl, eS_pass, eS_ctn, eS_brk, eS_retN, R.bind_ok, seqK_nx, seqK_rt, seqK_bk, seqK_ct, loopK_nx, loopK_rt, loopK_bk, loopK_ct, retK_nx, retK_rt, tr_bl, add_int, sub_int, cmp_eq_int, cmp_eq_str, cmp_eq_bl, cmp_ne_int, cmp_ne_str, cmp_lt_int, cmp_le_int, cmp_gt_int, cmp_ge_int, int_int, int_bl, abs_int, len_lv, len_tup, List.getElem?_cons_zero, List.getElem?_cons_succ, List.set_cons_zero, List.set_cons_succ, E.isNop, List.set_set, ctx_call, ofOpt_some, in_sign, nin_sign, all_lv, any_lv, part_f, partK_i, seti_ref g2 (show ixN 5 3 = some 3 from rfl), List.set_set]
        exact ⟨_, _, rfl, ⟨sc, p, 0, 0, 1, rfl, hp⟩, Int.emod_nonneg _ (by omega), Int.emod_lt_of_pos _ h0⟩
      · simp only [eE_var, varK_s, eE_glob, eE_ty, eE_int, eE_str, eE_bl, eE_non, eE_bin, eE_binM, eE_cmp, eE_ix, k2_ap, eE_neg, negK_i, eE_not, notK_b, eE_chain, chK1_ap, chK3_ap, chK2_t, chK2_f, eE_and1, eE_or1, eE_and2, andK_t, andK_f, eE_or2, orK_t, orK_f, eE_ife, iteK_t, iteK_f, eE_tup, eE_lst, eE_lstM, tupK_1, tupK_2, lstK_0, lstK_1, eE_sl, slK1_ap, slK2_ap, part_no, eE_call, eE_blt, eE_bltM, bltMK_ap, thaw_lv, eE_meth, eE_lcS, eE_lcR, eE_frz, eE_rev, rev_lv, eEs_nil, eEs_cons, consK_ap, cnsK_ap, eSs_nil, eSs_cons, eS_asg, asgK_nm, eS_seti, stK1_ap, stK2_ap, stK3_ap, stK4_ap, eS_expr, expK_ap, eS_ret, rtK_ap, eS_ifs, eS_forS, eS_forR, eS_whl, eS_pass, eS_ctn, eS_brk, eS_retN, R.bind_ok, seqK_nx, seqK_rt, seqK_bk, seqK_ct, loopK_nx, loopK_rt, loopK_bk, loopK_ct, retK_nx, retK_rt, tr_bl, add_int, sub_int, cmp_eq_int, cmp_eq_str, cmp_eq_bl, cmp_ne_int, cmp_ne_str, cmp_lt_int, cmp_le_int, cmp_gt_int, cmp_ge_int, int_int, int_bl, abs_int, len_lv, len_tup, List.getElem?_cons_zero, List.getElem?_cons_succ, List.set_cons_zero, List.set_cons_succ, E.isNop, List.set_set, ctx_call, ofOpt_some, in_sign, nin_sign, all_lv, any_lv, part_f, partK_i, hc, decide_false, List.set_set]
        exact ⟨_, _, rfl, ⟨sc, p, _, _, 1, rfl, hp⟩, Int.emod_nonneg _ (by omega), Int.emod_lt_of_pos _ h0⟩
    · simp only [eE_var, varK_s, eE_glob, eE_ty, eE_int, eE_str, eE_bl, eE_non, eE_bin, eE_binM, eE_cmp, eE_ix, k2_ap, eE_neg, negK_i, eE_not, notK_b, eE_chain, chK1_ap, chK3_ap, chK2_t, chK2_f, eE_and1, eE_or1, eE_and2, andK_t, andK_f, eE_or2, orK_t, orK_f, eE_ife, iteK_t, iteK_f, eE_tup, eE_lst, eE_lstM, tupK_1, tupK_2, lstK_0, lstK_1, eE_sl, slK1_ap, slK2_ap, part_no, eE_call, eE_blt, eE_bltM, bltMK_ap, thaw_lv, eE_meth, eE_lcS, eE_lcR, eE_frz, eE_rev, rev_lv, eEs_nil, eEs_cons, consK_ap, cnsK_ap, eSs_nil, eSs_cons, eS_asg, asgK_nm, eS_seti, stK1_ap, stK2_ap, stK3_ap, stK4_ap, eS_expr, expK_ap, eS_ret, rtK_ap, eS_ifs, eS_forS, eS_forR, eS_whl, eS_pass, eS_ctn, eS_brk, eS_retN, R.bind_ok, seqK_nx, seqK_rt, seqK_bk, seqK_ct, loopK_nx, loopK_rt, loopK_bk, loopK_ct, retK_nx, retK_rt, tr_bl, add_int, sub_int, cmp_eq_int, cmp_eq_str, cmp_eq_bl, cmp_ne_int, cmp_ne_str, cmp_lt_int, cmp_le_int, cmp_gt_int, cmp_ge_int, int_int, int_bl, abs_int, len_lv, len_tup, List.getElem?_cons_zero, List.getElem?_cons_succ, List.set_cons_zero, List.set_cons_succ, E.isNop, List.set_set, ctx_call, ofOpt_some, in_sign, nin_sign, all_lv, any_lv, part_f, partK_i, hg, decide_false, ix_ref g1 ix5_2, ix_ref g1 ix5_3, mul_int (m1 _), mul_int (m2 _), mul_int (m3 _), mul_int (m4 _), mod_int (show (0 : Int) < 2147483647 by decide), mod_int (show (0 : Int) < 2147483629 by decide), mod_int h0]
      exact ⟨_, _, rfl, ⟨sc, p, c, _, g, rfl, hp⟩, Int.emod_nonneg _ (by omega), Int.emod_lt_of_pos _ h0⟩
  rw [call_law_draw]
  have split : ∀ S' , evSs (ctxOf (prg w) k) b_law_draw [some (.ref b), some (.int size), none, none] S' = (evS (ctxOf (prg w) k) (match b_law_draw with | .cons s _ => s | _ => .pass) [some (.ref b), some (.int size), none, none] S').bind (seqK (evSs (ctxOf (prg w) k) (match b_law_draw with | .cons _ t => t | _ => .nil))) := fun S' => by
    unfold b_law_draw
    exact eSs_cons
  rw [split]
  unfold boxO at ho
  have fin : ∀ S1 : Sto, (evS (ctxOf (prg w) k) (match b_law_draw with | .cons s _ => s | _ => .pass) [some (.ref b), some (.int size), none, none] S) = .ok (.nx [some (.ref b), some (.int size), none, none]) S1 → (∃ o, S1 = S.set b o ∧ ∃ p c l g, o = boxO sc p c l g ∧ 0 ≤ p) →
      ∃ r o, ((evS (ctxOf (prg w) k) (match b_law_draw with | .cons s _ => s | _ => .pass) [some (.ref b), some (.int size), none, none] S).bind (seqK (evSs (ctxOf (prg w) k) (match b_law_draw with | .cons _ t => t | _ => .nil)))).bind retK = .ok (.int r) (S.set b o) ∧ IsBox o ∧ 0 ≤ r ∧ r < size := by
    rintro S1 e ⟨o, rfl, p, c, l, g, rfl, hp⟩
    rw [e, R.bind_ok, seqK_nx]
    obtain ⟨r, o, h1, h2⟩ := tail _ c l g p hp (get_set ho)
    rw [List.set_set] at h1
    exact ⟨r, o, h1, h2⟩
  by_cases hl : l = 0
  · subst hl
    by_cases hx : (sc.length : Int) ≤ p
    · refine ⟨0, boxO sc p c 0 g, ?_, ⟨sc, p, c, 0, g, rfl, hp⟩, Int.le_refl 0, h0⟩
      have e : S.set b (boxO sc p c 0 g) = S := by
        apply List.ext_getElem?
        intro j
        by_cases hj : b = j
        · subst hj
          rw [get_set ho, ho]
          rfl
        · rw [List.getElem?_set_ne hj]
      rw [e]
      simp only [b_law_draw]
      simp only [eE_var, varK_s, eE_glob, eE_ty, eE_int, eE_str, eE_bl, eE_non, eE_bin, eE_binM, eE_cmp, eE_ix, k2_ap, eE_neg, negK_i, eE_not, notK_b, eE_chain, chK1_ap, chK3_ap, chK2_t, chK2_f, eE_and1, eE_or1, eE_and2, andK_t, andK_f, eE_or2, orK_t, orK_f, eE_ife, iteK_t, iteK_f, eE_tup, eE_lst, eE_lstM, tupK_1, tupK_2, lstK_0, lstK_1, eE_sl, slK1_ap, slK2_ap, part_no, eE_call, eE_blt, eE_bltM, bltMK_ap, thaw_lv, eE_meth, eE_lcS, eE_lcR, eE_frz, eE_rev, rev_lv, eEs_nil, eEs_cons, consK_ap, cnsK_ap, eSs_nil, eSs_cons, eS_asg, asgK_nm, eS_seti, stK1_ap, stK2_ap, stK3_ap, stK4_ap, eS_expr, expK_ap, eS_ret, rtK_ap, eS_ifs, eS_forS, eS_forR, eS_whl, eS_pass, eS_ctn, eS_brk, eS_retN, R.bind_ok, seqK_nx, seqK_rt, seqK_bk, seqK_ct, loopK_nx, loopK_rt, loopK_bk, loopK_ct, retK_nx, retK_rt, tr_bl, add_int, sub_int, cmp_eq_int, cmp_eq_str, cmp_eq_bl, cmp_ne_int, cmp_ne_str, cmp_lt_int, cmp_le_int, cmp_gt_int, cmp_ge_int, int_int, int_bl, abs_int, len_lv, len_tup, List.getElem?_cons_zero, List.getElem?_cons_succ, List.set_cons_zero, List.set_cons_succ, E.isNop, List.set_set, ctx_call, ofOpt_some, in_sign, nin_sign, all_lv, any_lv, part_f, partK_i, ix_ref ho ix5_3, ix_ref ho ix5_1, ix_ref ho ix5_0, decide_true, List.length_map, decide_eq_true hx]
    · have hx2 : p < sc.length := by omega
      obtain ⟨n, rfl⟩ : ∃ n : Nat, p = n := ⟨p.toNat, by omega⟩
      have hn : n < sc.length := by omega
      have ea : atI (sc.map D.int) (n : Int) = some (.int sc[n]) := atI_nat (by rw [List.getElem?_map, List.getElem?_eq_getElem hn]; rfl)
      simp only [b_law_draw] at fin ⊢
      have m5 := fun x => cmul_l (i := 48) (j := x) (by decide)
      have q1 := get_set (o' := .lst [.lv (sc.map .int), .int n, .int (if sc[n] < 0 then -sc[n] else sc[n]), .int 0, .int g]) ho
      have q2 := get_set (o' := .lst [.lv (sc.map .int), .int (n + 1), .int (if sc[n] < 0 then -sc[n] else sc[n]), .int 0, .int g]) ho
      have q3 := get_set (o' := .lst [.lv (sc.map .int), .int (n + 1), .int (if sc[n] < 0 then -sc[n] else sc[n]), .int 0, .int (if decide (1000000000000000000 ≤ if sc[n] < 0 then -sc[n] else sc[n]) = true then 1 else 0)]) ho
      refine fin (S.set b (boxO sc (n + 1) (if sc[n] < 0 then -sc[n] else sc[n]) (12 + 48 * (if decide (1000000000000000000 ≤ if sc[n] < 0 then -sc[n] else sc[n]) = true then 1 else 0)) (if decide (1000000000000000000 ≤ if sc[n] < 0 then -sc[n] else sc[n]) = true then 1 else 0))) ?_ ⟨_, rfl, n + 1, _, _, _, rfl, by omega⟩
      simp only [eE_var, varK_s, eE_glob, eE_ty, eE_int, eE_str, eE_bl, eE_non, eE_bin, eE_binM, eE_cmp, eE_ix, k2_ap, eE_neg, negK_i, eE_not, notK_b, eE_chain, chK1_ap, chK3_ap, chK2_t, chK2_f, eE_and1, eE_or1, eE_and2, andK_t, andK_f, eE_or2, orK_t, orK_f, eE_ife, iteK_t, iteK_f, eE_tup, eE_lst, eE_lstM, tupK_1, tupK_2, lstK_0, lstK_1, eE_sl, slK1_ap, slK2_ap, part_no, eE_call, eE_blt, eE_bltM, bltMK_ap, thaw_lv, eE_meth, eE_lcS, eE_lcR, eE_frz, eE_rev, rev_lv, eEs_nil, eEs_cons, consK_ap, cnsK_ap, eSs_nil, eSs_cons, eS_asg, asgK_nm, eS_seti, stK1_ap, stK2_ap, stK3_ap, stK4_ap, eS_expr, expK_ap, eS_ret, rtK_ap, eS_ifs, eS_forS, eS_forR, eS_whl, eS_pass, eS_ctn, eS_brk, eS_retN, R.bind_ok, seqK_nx, seqK_rt, seqK_bk, seqK_ct, loopK_nx, loopK_rt, loopK_bk, loopK_ct, retK_nx, retK_rt, tr_bl, add_int, sub_int, cmp_eq_int, cmp_eq_str, cmp_eq_bl, cmp_ne_int, cmp_ne_str, cmp_lt_int, cmp_le_int, cmp_gt_int, cmp_ge_int, int_int, int_bl, abs_int, len_lv, len_tup, List.getElem?_cons_zero, List.getElem?_cons_succ, List.set_cons_zero, List.set_cons_succ, E.isNop, List.set_set, ctx_call, ofOpt_some, in_sign, nin_sign, all_lv, any_lv, part_f, partK_i, ix_ref ho ix5_3, ix_ref ho ix5_1, ix_ref ho ix5_0, decide_true, List.length_map, decide_eq_false hx, ix_lv ea, seti_ref ho (show ixN 5 2 = some 2 from rfl), ix_ref q1 ix5_1, seti_ref q1 (show ixN 5 1 = some 1 from rfl), ix_ref q2 ix5_2, pow_10_18, seti_ref q2 (show ixN 5 4 = some 4 from rfl), ix_ref q3 ix5_4, mul_int (m5 _), seti_ref q3 (show ixN 5 3 = some 3 from rfl)]
      rfl
  · refine fin S ?_ ⟨boxO sc p c l g, ?_, p, c, l, g, rfl, hp⟩
    · simp only [b_law_draw]
      simp only [eE_var, varK_s, eE_glob, eE_ty, eE_int, eE_str, eE_bl, eE_non, eE_bin, eE_binM, eE_cmp, eE_ix, k2_ap, eE_neg, negK_i, eE_not, notK_b, eE_chain, chK1_ap, chK3_ap, chK2_t, chK2_f, eE_and1, eE_or1, eE_and2, andK_t, andK_f, eE_or2, orK_t, orK_f, eE_ife, iteK_t, iteK_f, eE_tup, eE_lst, eE_lstM, tupK_1, tupK_2, lstK_0, lstK_1, eE_sl, slK1_ap, slK2_ap, part_no, eE_call, eE_blt, eE_bltM, bltMK_ap, thaw_lv, eE_meth, eE_lcS, eE_lcR, eE_frz, eE_rev, rev_lv, eEs_nil, eEs_cons, consK_ap, cnsK_ap, eSs_nil, eSs_cons, eS_asg, asgK_nm, eS_seti, stK1_ap, stK2_ap, stK3_ap, stK4_ap, eS_expr, expK_ap, eS_ret, rtK_ap, eS_ifs, eS_forS, eS_forR, eS_whl, eS_pass, eS_ctn, eS_brk, eS_retN, R.bind_ok, seqK_nx, seqK_rt, seqK_bk, seqK_ct, loopK_nx, loopK_rt, loopK_bk, loopK_ct, retK_nx, retK_rt, tr_bl, add_int, sub_int, cmp_eq_int, cmp_eq_str, cmp_eq_bl, cmp_ne_int, cmp_ne_str, cmp_lt_int, cmp_le_int, cmp_gt_int, cmp_ge_int, int_int, int_bl, abs_int, len_lv, len_tup, List.getElem?_cons_zero, List.getElem?_cons_succ, List.set_cons_zero, List.set_cons_succ, E.isNop, List.set_set, ctx_call, ofOpt_some, in_sign, nin_sign, all_lv, any_lv, part_f, partK_i, ix_ref ho ix5_3, hl, decide_false]
    · apply List.ext_getElem?
      intro j
      by_cases hj : b = j
      · subst hj
        rw [get_set ho, ho]
        rfl
      · rw [List.getElem?_set_ne hj]

theorem list_fl {xs : List D} (h : xs.length ≤ lim) (S : Sto) : bltD .list [.fl xs] S = .ok (.lv xs) S := by
  simp [bltD, lstD, items, isSeq]
theorem box_run {ns : List Int} (hn : ns.length ≤ 63) : callN (prg w) (k + 1) "_law_box" "_law_box" [.fl (ns.map .int)] [] = .ok (.ref 0) [boxO ns 0 0 0 0] := by
  rw [call_law_box]
  unfold b_law_box
  simp only [eE_var, varK_s, eE_glob, eE_ty, eE_int, eE_str, eE_bl, eE_non, eE_bin, eE_binM, eE_cmp, eE_ix, k2_ap, eE_neg, negK_i, eE_not, notK_b, eE_chain, chK1_ap, chK3_ap, chK2_t, chK2_f, eE_and1, eE_or1, eE_and2, andK_t, andK_f, eE_or2, orK_t, orK_f, eE_ife, iteK_t, iteK_f, eE_tup, eE_lst, eE_lstM, tupK_1, tupK_2, lstK_0, lstK_1, eE_sl, slK1_ap, slK2_ap, part_no, eE_call, eE_blt, eE_bltM, bltMK_ap, thaw_lv, eE_meth, eE_lcS, eE_lcR, eE_frz, eE_rev, rev_lv, eEs_nil, eEs_cons, consK_ap, cnsK_ap, eSs_nil, eSs_cons, eS_asg, asgK_nm, eS_seti, stK1_ap, stK2_ap, stK3_ap, stK4_ap, eS_expr, expK_ap, eS_ret, rtK_ap, eS_ifs, eS_forS, eS_forR, eS_whl, eS_pass, eS_ctn, eS_brk, eS_retN, R.bind_ok, seqK_nx, seqK_rt, seqK_bk, seqK_ct, loopK_nx, loopK_rt, loopK_bk, loopK_ct, retK_nx, retK_rt, tr_bl, add_int, sub_int, cmp_eq_int, cmp_eq_str, cmp_eq_bl, cmp_ne_int, cmp_ne_str, cmp_lt_int, cmp_le_int, cmp_gt_int, cmp_ge_int, int_int, int_bl, abs_int, len_lv, len_tup, List.getElem?_cons_zero, List.getElem?_cons_succ, List.set_cons_zero, List.set_cons_succ, E.isNop, List.set_set, ctx_call, ofOpt_some, in_sign, nin_sign, all_lv, any_lv, part_f, partK_i, list_fl (xs := ns.map D.int) (by simp [lim]; omega)]
  rw [lstMK_n (by simp [lim])]
  simp only [eE_var, varK_s, eE_glob, eE_ty, eE_int, eE_str, eE_bl, eE_non, eE_bin, eE_binM, eE_cmp, eE_ix, k2_ap, eE_neg, negK_i, eE_not, notK_b, eE_chain, chK1_ap, chK3_ap, chK2_t, chK2_f, eE_and1, eE_or1, eE_and2, andK_t, andK_f, eE_or2, orK_t, orK_f, eE_ife, iteK_t, iteK_f, eE_tup, eE_lst, eE_lstM, tupK_1, tupK_2, lstK_0, lstK_1, eE_sl, slK1_ap, slK2_ap, part_no, eE_call, eE_blt, eE_bltM, bltMK_ap, thaw_lv, eE_meth, eE_lcS, eE_lcR, eE_frz, eE_rev, rev_lv, eEs_nil, eEs_cons, consK_ap, cnsK_ap, eSs_nil, eSs_cons, eS_asg, asgK_nm, eS_seti, stK1_ap, stK2_ap, stK3_ap, stK4_ap, eS_expr, expK_ap, eS_ret, rtK_ap, eS_ifs, eS_forS, eS_forR, eS_whl, eS_pass, eS_ctn, eS_brk, eS_retN, R.bind_ok, seqK_nx, seqK_rt, seqK_bk, seqK_ct, loopK_nx, loopK_rt, loopK_bk, loopK_ct, retK_nx, retK_rt, tr_bl, add_int, sub_int, cmp_eq_int, cmp_eq_str, cmp_eq_bl, cmp_ne_int, cmp_ne_str, cmp_lt_int, cmp_le_int, cmp_gt_int, cmp_ge_int, int_int, int_bl, abs_int, len_lv, len_tup, List.getElem?_cons_zero, List.getElem?_cons_succ, List.set_cons_zero, List.set_cons_succ, E.isNop, List.set_set, ctx_call, ofOpt_some, in_sign, nin_sign, all_lv, any_lv, part_f, partK_i]
  rfl
theorem draw_fr {S : Sto} {b : Nat} {size : Int} (hb : BoxAt S b) (h0 : 0 < size) (h1 : size < 2 ^ 250) :
    ∃ r S', callN (prg w) (k + 1) "_law_draw" "_law_draw" [.ref b, .int size] S = .ok (.int r) S' ∧ Fr b S S' ∧ 0 ≤ r ∧ r < size := by
  obtain ⟨r, o, e, ho, h2⟩ := draw_run (w := w) (k := k) hb h0 h1
  exact ⟨r, _, e, Fr.set hb ho, h2⟩
end Pr

namespace Pr
open PySem L2 Ev
variable {w : Nat}
theorem same_seq {n : Nat} {a b : D} {xs ys : List D} {S : Sto} (nb : cmpD .is_ b .non S = .ok (.bl false) S)
    (ty : (tyName S a = some "list" ∧ tyName S b = some "list") ∨ (tyName S a = some "tuple" ∧ tyName S b = some "tuple"))
    (la : bltD .len [a] S = .ok (.int xs.length) S) (lb : bltD .len [b] S = .ok (.int ys.length) S)
    (ia : ∀ i (h : i < xs.length), ixD a (.int (0 + (i : Int))) S = .ok xs[i] S) (ib : ∀ i (h : i < ys.length), ixD b (.int (0 + (i : Int))) S = .ok ys[i] S)
    (hl : xs.length = ys.length) (hm : ys.length ≤ lim)
    (rec : ∀ i (h1 : i < xs.length) (h2 : i < ys.length), callN (prg w) n "_law_same" "_law_same" [xs[i], ys[i]] S = .ok (.bl true) S) :
    callN (prg w) (n + 1) "_law_same" "_law_same" [a, b] S = .ok (.bl true) S := by
  rw [call_law_same]
  have hlim : ys.length < 2 ^ 62 := Nat.lt_of_le_of_lt hm (by decide)
  obtain ⟨σ', S', e3, x2, rfl, rfl⟩ := forRg_inv (tg := .nm 2) (lo := 0) (N := ys.length) (body := evSs (ctxOf (prg w) n) (.cons (.ifs (.not (.call "_law_same" "_law_same" (.cons (.ix (.var 0) (.var 2)) (.cons (.ix (.var 1) (.var 2)) .nil))))
      (.cons (.ret (.cbl false))
      .nil)
      .nil)
    .nil))
    (fun i σ S' => ∃ x2, σ = [some a, some b, x2] ∧ S' = S)
    (by
      rintro i σ S' hi ⟨x2, rfl, rfl⟩
      refine ⟨_, rfl, _, _, ?_, some (.int (0 + (i : Int))), rfl, rfl⟩
      simp only [eE_var, varK_s, eE_glob, eE_ty, eE_int, eE_str, eE_bl, eE_non, eE_bin, eE_binM, eE_cmp, eE_ix, k2_ap, eE_neg, negK_i, eE_not, notK_b, eE_chain, chK1_ap, chK3_ap, chK2_t, chK2_f, eE_and1, eE_or1, eE_and2, andK_t, andK_f, eE_or2, orK_t, orK_f, eE_ife, iteK_t, iteK_f, eE_tup, eE_lst, eE_lstM, tupK_1, tupK_2, lstK_0, lstK_1, eE_sl, slK1_ap, slK2_ap, part_no, eE_call, eE_blt, eE_bltM, bltMK_ap, thaw_lv, eE_meth, eE_lcS, eE_lcR, eE_frz, eE_rev, rev_lv, eEs_nil, eEs_cons, consK_ap, cnsK_ap, eSs_nil, eSs_cons, eS_asg, asgK_nm, eS_seti, stK1_ap, stK2_ap, stK3_ap, stK4_ap, eS_expr, expK_ap, eS_ret, rtK_ap, eS_ifs, eS_forS, eS_forR, eS_whl, eS_pass, eS_ctn, eS_brk, eS_retN, R.bind_ok, seqK_nx, seqK_rt, seqK_bk, seqK_ct, loopK_nx, loopK_rt, loopK_bk, loopK_ct, retK_nx, retK_rt, tr_bl, add_int, sub_int, cmp_eq_int, cmp_eq_str, cmp_eq_bl, cmp_ne_int, cmp_ne_str, cmp_lt_int, cmp_le_int, cmp_gt_int, cmp_ge_int, int_int, int_bl, abs_int, len_lv, len_tup, List.getElem?_cons_zero, List.getElem?_cons_succ, List.set_cons_zero, List.set_cons_succ, E.isNop, List.set_set, ctx_call, ofOpt_some, in_sign, nin_sign, all_lv, any_lv, part_f, partK_i, ia i (by omega), ib i hi, rec i (by omega) hi, Bool.not_true])
    ys.length 0 [some a, some b, none] S (by omega) ⟨none, rfl, rfl⟩
  unfold b_law_same
  have fin : decide ((xs.length : Int) = (ys.length : Nat)) = true := decide_eq_true (by omega)
  rcases ty with ⟨ta, tb⟩ | ⟨ta, tb⟩
  · simp only [eE_var, varK_s, eE_glob, eE_ty, eE_int, eE_str, eE_bl, eE_non, eE_bin, eE_binM, eE_cmp, eE_ix, k2_ap, eE_neg, negK_i, eE_not, notK_b, eE_chain, chK1_ap, chK3_ap, chK2_t, chK2_f, eE_and1, eE_or1, eE_and2, andK_t, andK_f, eE_or2, orK_t, orK_f, eE_ife, iteK_t, iteK_f, eE_tup, eE_lst, eE_lstM, tupK_1, tupK_2, lstK_0, lstK_1, eE_sl, slK1_ap, slK2_ap, part_no, eE_call, eE_blt, eE_bltM, bltMK_ap, thaw_lv, eE_meth, eE_lcS, eE_lcR, eE_frz, eE_rev, rev_lv, eEs_nil, eEs_cons, consK_ap, cnsK_ap, eSs_nil, eSs_cons, eS_asg, asgK_nm, eS_seti, stK1_ap, stK2_ap, stK3_ap, stK4_ap, eS_expr, expK_ap, eS_ret, rtK_ap, eS_ifs, eS_forS, eS_forR, eS_whl, eS_pass, eS_ctn, eS_brk, eS_retN, R.bind_ok, seqK_nx, seqK_rt, seqK_bk, seqK_ct, loopK_nx, loopK_rt, loopK_bk, loopK_ct, retK_nx, retK_rt, tr_bl, add_int, sub_int, cmp_eq_int, cmp_eq_str, cmp_eq_bl, cmp_ne_int, cmp_ne_str, cmp_lt_int, cmp_le_int, cmp_gt_int, cmp_ge_int, int_int, int_bl, abs_int, len_lv, len_tup, List.getElem?_cons_zero, List.getElem?_cons_succ, List.set_cons_zero, List.set_cons_succ, E.isNop, List.set_set, ctx_call, ofOpt_some, in_sign, nin_sign, all_lv, any_lv, part_f, partK_i, nb, isi_t tb kb_lb, isi_t tb kb_li, isi_t tb kb_ls, isi_t tb kb_lt, isi_t tb kb_ll, isi_t ta kb_ll, Bool.not_true, la, lb, fin]
    rw [forK1_nat hlim, e3]
    simp only [eE_var, varK_s, eE_glob, eE_ty, eE_int, eE_str, eE_bl, eE_non, eE_bin, eE_binM, eE_cmp, eE_ix, k2_ap, eE_neg, negK_i, eE_not, notK_b, eE_chain, chK1_ap, chK3_ap, chK2_t, chK2_f, eE_and1, eE_or1, eE_and2, andK_t, andK_f, eE_or2, orK_t, orK_f, eE_ife, iteK_t, iteK_f, eE_tup, eE_lst, eE_lstM, tupK_1, tupK_2, lstK_0, lstK_1, eE_sl, slK1_ap, slK2_ap, part_no, eE_call, eE_blt, eE_bltM, bltMK_ap, thaw_lv, eE_meth, eE_lcS, eE_lcR, eE_frz, eE_rev, rev_lv, eEs_nil, eEs_cons, consK_ap, cnsK_ap, eSs_nil, eSs_cons, eS_asg, asgK_nm, eS_seti, stK1_ap, stK2_ap, stK3_ap, stK4_ap, eS_expr, expK_ap, eS_ret, rtK_ap, eS_ifs, eS_forS, eS_forR, eS_whl, eS_pass, eS_ctn, eS_brk, eS_retN, R.bind_ok, seqK_nx, seqK_rt, seqK_bk, seqK_ct, loopK_nx, loopK_rt, loopK_bk, loopK_ct, retK_nx, retK_rt, tr_bl, add_int, sub_int, cmp_eq_int, cmp_eq_str, cmp_eq_bl, cmp_ne_int, cmp_ne_str, cmp_lt_int, cmp_le_int, cmp_gt_int, cmp_ge_int, int_int, int_bl, abs_int, len_lv, len_tup, List.getElem?_cons_zero, List.getElem?_cons_succ, List.set_cons_zero, List.set_cons_succ, E.isNop, List.set_set, ctx_call, ofOpt_some, in_sign, nin_sign, all_lv, any_lv, part_f, partK_i]
  · simp only [eE_var, varK_s, eE_glob, eE_ty, eE_int, eE_str, eE_bl, eE_non, eE_bin, eE_binM, eE_cmp, eE_ix, k2_ap, eE_neg, negK_i, eE_not, notK_b, eE_chain, chK1_ap, chK3_ap, chK2_t, chK2_f, eE_and1, eE_or1, eE_and2, andK_t, andK_f, eE_or2, orK_t, orK_f, eE_ife, iteK_t, iteK_f, eE_tup, eE_lst, eE_lstM, tupK_1, tupK_2, lstK_0, lstK_1, eE_sl, slK1_ap, slK2_ap, part_no, eE_call, eE_blt, eE_bltM, bltMK_ap, thaw_lv, eE_meth, eE_lcS, eE_lcR, eE_frz, eE_rev, rev_lv, eEs_nil, eEs_cons, consK_ap, cnsK_ap, eSs_nil, eSs_cons, eS_asg, asgK_nm, eS_seti, stK1_ap, stK2_ap, stK3_ap, stK4_ap, eS_expr, expK_ap, eS_ret, rtK_ap, eS_ifs, eS_forS, eS_forR, eS_whl, eS_pass, eS_ctn, eS_brk, eS_retN, R.bind_ok, seqK_nx, seqK_rt, seqK_bk, seqK_ct, loopK_nx, loopK_rt, loopK_bk, loopK_ct, retK_nx, retK_rt, tr_bl, add_int, sub_int, cmp_eq_int, cmp_eq_str, cmp_eq_bl, cmp_ne_int, cmp_ne_str, cmp_lt_int, cmp_le_int, cmp_gt_int, cmp_ge_int, int_int, int_bl, abs_int, len_lv, len_tup, List.getElem?_cons_zero, List.getElem?_cons_succ, List.set_cons_zero, List.set_cons_succ, E.isNop, List.set_set, ctx_call, ofOpt_some, in_sign, nin_sign, all_lv, any_lv, part_f, partK_i, nb, isi_t tb kb_tb, isi_t tb kb_ti, isi_t tb kb_ts, isi_t tb kb_tt, isi_t tb kb_tl, isi_t ta kb_tt, Bool.not_true, la, lb, fin]
    rw [forK1_nat hlim, e3]
    simp only [eE_var, varK_s, eE_glob, eE_ty, eE_int, eE_str, eE_bl, eE_non, eE_bin, eE_binM, eE_cmp, eE_ix, k2_ap, eE_neg, negK_i, eE_not, notK_b, eE_chain, chK1_ap, chK3_ap, chK2_t, chK2_f, eE_and1, eE_or1, eE_and2, andK_t, andK_f, eE_or2, orK_t, orK_f, eE_ife, iteK_t, iteK_f, eE_tup, eE_lst, eE_lstM, tupK_1, tupK_2, lstK_0, lstK_1, eE_sl, slK1_ap, slK2_ap, part_no, eE_call, eE_blt, eE_bltM, bltMK_ap, thaw_lv, eE_meth, eE_lcS, eE_lcR, eE_frz, eE_rev, rev_lv, eEs_nil, eEs_cons, consK_ap, cnsK_ap, eSs_nil, eSs_cons, eS_asg, asgK_nm, eS_seti, stK1_ap, stK2_ap, stK3_ap, stK4_ap, eS_expr, expK_ap, eS_ret, rtK_ap, eS_ifs, eS_forS, eS_forR, eS_whl, eS_pass, eS_ctn, eS_brk, eS_retN, R.bind_ok, seqK_nx, seqK_rt, seqK_bk, seqK_ct, loopK_nx, loopK_rt, loopK_bk, loopK_ct, retK_nx, retK_rt, tr_bl, add_int, sub_int, cmp_eq_int, cmp_eq_str, cmp_eq_bl, cmp_ne_int, cmp_ne_str, cmp_lt_int, cmp_le_int, cmp_gt_int, cmp_ge_int, int_int, int_bl, abs_int, len_lv, len_tup, List.getElem?_cons_zero, List.getElem?_cons_succ, List.set_cons_zero, List.set_cons_succ, E.isNop, List.set_set, ctx_call, ofOpt_some, in_sign, nin_sign, all_lv, any_lv, part_f, partK_i]
theorem same_self : ∀ (n : Nat) (d : D) (S : Sto), depD d ≤ n → okD d = true → callN (prg w) n "_law_same" "_law_same" [d, d] S = .ok (.bl true) S
  | 0, d, S, h, _ => by cases d <;> simp [depD] at h
  | n + 1, .non, S, _, _ => by
    rw [call_law_same]
    unfold b_law_same
    simp only [eE_var, varK_s, eE_glob, eE_ty, eE_int, eE_str, eE_bl, eE_non, eE_bin, eE_binM, eE_cmp, eE_ix, k2_ap, eE_neg, negK_i, eE_not, notK_b, eE_chain, chK1_ap, chK3_ap, chK2_t, chK2_f, eE_and1, eE_or1, eE_and2, andK_t, andK_f, eE_or2, orK_t, orK_f, eE_ife, iteK_t, iteK_f, eE_tup, eE_lst, eE_lstM, tupK_1, tupK_2, lstK_0, lstK_1, eE_sl, slK1_ap, slK2_ap, part_no, eE_call, eE_blt, eE_bltM, bltMK_ap, thaw_lv, eE_meth, eE_lcS, eE_lcR, eE_frz, eE_rev, rev_lv, eEs_nil, eEs_cons, consK_ap, cnsK_ap, eSs_nil, eSs_cons, eS_asg, asgK_nm, eS_seti, stK1_ap, stK2_ap, stK3_ap, stK4_ap, eS_expr, expK_ap, eS_ret, rtK_ap, eS_ifs, eS_forS, eS_forR, eS_whl, eS_pass, eS_ctn, eS_brk, eS_retN, R.bind_ok, seqK_nx, seqK_rt, seqK_bk, seqK_ct, loopK_nx, loopK_rt, loopK_bk, loopK_ct, retK_nx, retK_rt, tr_bl, add_int, sub_int, cmp_eq_int, cmp_eq_str, cmp_eq_bl, cmp_ne_int, cmp_ne_str, cmp_lt_int, cmp_le_int, cmp_gt_int, cmp_ge_int, int_int, int_bl, abs_int, len_lv, len_tup, List.getElem?_cons_zero, List.getElem?_cons_succ, List.set_cons_zero, List.set_cons_succ, E.isNop, List.set_set, ctx_call, ofOpt_some, in_sign, nin_sign, all_lv, any_lv, part_f, partK_i, cmp_is_non]
  | n + 1, .bl b, S, _, _ => by
    rw [call_law_same]
    unfold b_law_same
    simp only [eE_var, varK_s, eE_glob, eE_ty, eE_int, eE_str, eE_bl, eE_non, eE_bin, eE_binM, eE_cmp, eE_ix, k2_ap, eE_neg, negK_i, eE_not, notK_b, eE_chain, chK1_ap, chK3_ap, chK2_t, chK2_f, eE_and1, eE_or1, eE_and2, andK_t, andK_f, eE_or2, orK_t, orK_f, eE_ife, iteK_t, iteK_f, eE_tup, eE_lst, eE_lstM, tupK_1, tupK_2, lstK_0, lstK_1, eE_sl, slK1_ap, slK2_ap, part_no, eE_call, eE_blt, eE_bltM, bltMK_ap, thaw_lv, eE_meth, eE_lcS, eE_lcR, eE_frz, eE_rev, rev_lv, eEs_nil, eEs_cons, consK_ap, cnsK_ap, eSs_nil, eSs_cons, eS_asg, asgK_nm, eS_seti, stK1_ap, stK2_ap, stK3_ap, stK4_ap, eS_expr, expK_ap, eS_ret, rtK_ap, eS_ifs, eS_forS, eS_forR, eS_whl, eS_pass, eS_ctn, eS_brk, eS_retN, R.bind_ok, seqK_nx, seqK_rt, seqK_bk, seqK_ct, loopK_nx, loopK_rt, loopK_bk, loopK_ct, retK_nx, retK_rt, tr_bl, add_int, sub_int, cmp_eq_int, cmp_eq_str, cmp_eq_bl, cmp_ne_int, cmp_ne_str, cmp_lt_int, cmp_le_int, cmp_gt_int, cmp_ge_int, int_int, int_bl, abs_int, len_lv, len_tup, List.getElem?_cons_zero, List.getElem?_cons_succ, List.set_cons_zero, List.set_cons_succ, E.isNop, List.set_set, ctx_call, ofOpt_some, in_sign, nin_sign, all_lv, any_lv, part_f, partK_i, cmp_isN_bl, isi_t (d := .bl b) (S := S) rfl kb_bb, decide_true]
  | n + 1, .int b, S, _, _ => by
    rw [call_law_same]
    unfold b_law_same
    simp only [eE_var, varK_s, eE_glob, eE_ty, eE_int, eE_str, eE_bl, eE_non, eE_bin, eE_binM, eE_cmp, eE_ix, k2_ap, eE_neg, negK_i, eE_not, notK_b, eE_chain, chK1_ap, chK3_ap, chK2_t, chK2_f, eE_and1, eE_or1, eE_and2, andK_t, andK_f, eE_or2, orK_t, orK_f, eE_ife, iteK_t, iteK_f, eE_tup, eE_lst, eE_lstM, tupK_1, tupK_2, lstK_0, lstK_1, eE_sl, slK1_ap, slK2_ap, part_no, eE_call, eE_blt, eE_bltM, bltMK_ap, thaw_lv, eE_meth, eE_lcS, eE_lcR, eE_frz, eE_rev, rev_lv, eEs_nil, eEs_cons, consK_ap, cnsK_ap, eSs_nil, eSs_cons, eS_asg, asgK_nm, eS_seti, stK1_ap, stK2_ap, stK3_ap, stK4_ap, eS_expr, expK_ap, eS_ret, rtK_ap, eS_ifs, eS_forS, eS_forR, eS_whl, eS_pass, eS_ctn, eS_brk, eS_retN, R.bind_ok, seqK_nx, seqK_rt, seqK_bk, seqK_ct, loopK_nx, loopK_rt, loopK_bk, loopK_ct, retK_nx, retK_rt, tr_bl, add_int, sub_int, cmp_eq_int, cmp_eq_str, cmp_eq_bl, cmp_ne_int, cmp_ne_str, cmp_lt_int, cmp_le_int, cmp_gt_int, cmp_ge_int, int_int, int_bl, abs_int, len_lv, len_tup, List.getElem?_cons_zero, List.getElem?_cons_succ, List.set_cons_zero, List.set_cons_succ, E.isNop, List.set_set, ctx_call, ofOpt_some, in_sign, nin_sign, all_lv, any_lv, part_f, partK_i, cmp_isN_int, isi_t (d := .int b) (S := S) rfl kb_ib, isi_t (d := .int b) (S := S) rfl kb_ii, decide_true, Bool.not_false]
  | n + 1, .str b, S, _, _ => by
    rw [call_law_same]
    unfold b_law_same
    simp only [eE_var, varK_s, eE_glob, eE_ty, eE_int, eE_str, eE_bl, eE_non, eE_bin, eE_binM, eE_cmp, eE_ix, k2_ap, eE_neg, negK_i, eE_not, notK_b, eE_chain, chK1_ap, chK3_ap, chK2_t, chK2_f, eE_and1, eE_or1, eE_and2, andK_t, andK_f, eE_or2, orK_t, orK_f, eE_ife, iteK_t, iteK_f, eE_tup, eE_lst, eE_lstM, tupK_1, tupK_2, lstK_0, lstK_1, eE_sl, slK1_ap, slK2_ap, part_no, eE_call, eE_blt, eE_bltM, bltMK_ap, thaw_lv, eE_meth, eE_lcS, eE_lcR, eE_frz, eE_rev, rev_lv, eEs_nil, eEs_cons, consK_ap, cnsK_ap, eSs_nil, eSs_cons, eS_asg, asgK_nm, eS_seti, stK1_ap, stK2_ap, stK3_ap, stK4_ap, eS_expr, expK_ap, eS_ret, rtK_ap, eS_ifs, eS_forS, eS_forR, eS_whl, eS_pass, eS_ctn, eS_brk, eS_retN, R.bind_ok, seqK_nx, seqK_rt, seqK_bk, seqK_ct, loopK_nx, loopK_rt, loopK_bk, loopK_ct, retK_nx, retK_rt, tr_bl, add_int, sub_int, cmp_eq_int, cmp_eq_str, cmp_eq_bl, cmp_ne_int, cmp_ne_str, cmp_lt_int, cmp_le_int, cmp_gt_int, cmp_ge_int, int_int, int_bl, abs_int, len_lv, len_tup, List.getElem?_cons_zero, List.getElem?_cons_succ, List.set_cons_zero, List.set_cons_succ, E.isNop, List.set_set, ctx_call, ofOpt_some, in_sign, nin_sign, all_lv, any_lv, part_f, partK_i, cmp_isN_str, isi_t (d := .str b) (S := S) rfl kb_sb, isi_t (d := .str b) (S := S) rfl kb_si, isi_t (d := .str b) (S := S) rfl kb_ss, decide_true]
  | n + 1, .tup xs, S, h, ho => by
    simp only [okD, Bool.and_eq_true, decide_eq_true_eq] at ho
    simp only [depD] at h
    have hi : ∀ i (h : i < xs.length), ixD (.tup xs) (.int (0 + (i : Int))) S = .ok xs[i] S := fun i h => ix_tp (by rw [Int.zero_add]; exact atI_nat (List.getElem?_eq_getElem h)) S
    exact same_seq (xs := xs) (ys := xs) (cmp_isN_tup _ _) (.inr ⟨rfl, rfl⟩) (len_tup _ _) (len_tup _ _) hi hi rfl ho.1 fun i h1 h2 => same_self n _ S (Nat.le_trans (depDs_mem (List.getElem_mem h1)) (by omega)) (okDs_mem ho.2 (List.getElem_mem h1))
  | n + 1, .lv xs, S, h, ho => by
    simp only [okD, Bool.and_eq_true, decide_eq_true_eq] at ho
    simp only [depD] at h
    have hi : ∀ i (h : i < xs.length), ixD (.lv xs) (.int (0 + (i : Int))) S = .ok xs[i] S := fun i h => ix_lv (by rw [Int.zero_add]; exact atI_nat (List.getElem?_eq_getElem h)) S
    exact same_seq (xs := xs) (ys := xs) (cmp_isN_lv _ _) (.inl ⟨rfl, rfl⟩) (len_lv _ _) (len_lv _ _) hi hi rfl ho.1 fun i h1 h2 => same_self n _ S (Nat.le_trans (depDs_mem (List.getElem_mem h1)) (by omega)) (okDs_mem ho.2 (List.getElem_mem h1))
  | n + 1, .fl xs, S, _, ho => by simp [okD] at ho
  | n + 1, .ref m, S, _, ho => by simp [okD] at ho
  | n + 1, .ty m, S, _, ho => by simp [okD] at ho
theorem same_ref {n m : Nat} {xs : List D} {S : Sto} (hs : S[m]? = some (.lst xs)) (h : depDs xs ≤ n) (ho : okD (.lv xs) = true) : callN (prg w) (n + 1) "_law_same" "_law_same" [.ref m, .lv xs] S = .ok (.bl true) S := by
  simp only [okD, Bool.and_eq_true, decide_eq_true_eq] at ho
  have hi : ∀ i (h : i < xs.length), ixD (.lv xs) (.int (0 + (i : Int))) S = .ok xs[i] S := fun i h => ix_lv (by rw [Int.zero_add]; exact atI_nat (List.getElem?_eq_getElem h)) S
  have hj : ∀ i (h : i < xs.length), ixD (.ref m) (.int (0 + (i : Int))) S = .ok xs[i] S := fun i h => ix_ref hs (by rw [Int.zero_add]; exact atI_nat (List.getElem?_eq_getElem h))
  exact same_seq (xs := xs) (ys := xs) (cmp_isN_lv _ _) (.inl ⟨by simp [tyName, hs], rfl⟩) (len_ref hs) (len_lv _ _) hj hi rfl ho.1 fun i h1 h2 => same_self n _ S (Nat.le_trans (depDs_mem (List.getElem_mem h1)) h) (okDs_mem ho.2 (List.getElem_mem h1))
end Pr

/-! moved and what is due, plain -/
namespace Mv
open PySem
def stop (P : Str → Bool) : List Str → Nat
  | [] => 0
  | a :: r => if P a then r.length + 1 else stop P r
/-- the step x moved to the front: A turned round stands ahead of it, C behind -/
def front (P : Str → Bool) (x : Str) : List Str → List Str → List Str
  | [], C => x :: C
  | a :: r, C => if P a then r.reverse ++ a :: x :: C else front P x r (a :: C)
theorem front_eq (P : Str → Bool) (x : Str) : ∀ (R C : List Str), front P x R C = R.reverse.take (stop P R) ++ x :: (R.reverse.drop (stop P R) ++ C)
  | [], C => by simp [front, stop]
  | a :: r, C => by
    unfold front stop
    by_cases h : P a = true
    · simp only [h, if_true, List.reverse_cons]
      have e : (r.reverse ++ [a]).length = r.length + 1 := by simp
      rw [← e, List.take_length, List.drop_length]
      simp
    · simp only [h, if_false, Bool.false_eq_true]
      rw [front_eq P x r (a :: C), List.reverse_cons]
      have hl : stop P r ≤ r.reverse.length := by
        rw [List.length_reverse]
        clear front_eq h
        induction r with
        | nil => simp [stop]
        | cons b s ih =>
          unfold stop
          split
          · simp
          · simp; omega
      rw [List.take_append_of_le_length hl, List.drop_append_of_le_length hl]
      simp
theorem stop_le (P : Str → Bool) (r : List Str) : stop P r ≤ r.length := by
  induction r with
  | nil => simp [stop]
  | cons b s ih =>
    unfold stop
    split
    · simp
    · simp; omega
/-- the last of the stops -/
def stopsOf (P : Str → Bool) (A : List Str) : List Nat := ((List.range A.length).filter fun k => match A[k]? with | some a => P a | none => false).map (· + 1)
theorem stopsOf_snoc (P : Str → Bool) (A : List Str) (a : Str) : stopsOf P (A ++ [a]) = stopsOf P A ++ if P a then [A.length + 1] else [] := by
  unfold stopsOf
  rw [List.length_append, List.length_singleton, List.range_succ, List.filter_append, List.map_append]
  congr 1
  · congr 1
    apply List.filter_congr
    intro k hk
    rw [List.mem_range] at hk
    rw [List.getElem?_append_left hk]
  · have : (A ++ [a])[A.length]? = some a := by simp
    by_cases h : P a = true
    · simp [List.filter, this, h]
    · simp [List.filter, this, h]
theorem stops_last (P : Str → Bool) : ∀ R : List Str, stop P R = (stopsOf P R.reverse).getLast?.getD 0
  | [] => rfl
  | a :: r => by
    rw [List.reverse_cons, stopsOf_snoc]
    unfold stop
    by_cases h : P a = true
    · simp [h]
    · simp [h, stops_last P r]
/-- what is due -/
def plcOf (P : Str → Bool) (A : List Str) (sh : Str) : Nat :=
  let p := if sh = "none" then A.length else stop P A.reverse
  if sh = "swap" ∧ p < A.length then A.length - 1 else p
def due (P : Str → Bool) (A : List Str) (x : Str) (C : List Str) (sh : Str) : List Str := A.take (plcOf P A sh) ++ x :: (A.drop (plcOf P A sh) ++ C)
theorem due_length (P : Str → Bool) (A : List Str) (x : Str) (C : List Str) (sh : Str) : (due P A x C sh).length = (A ++ x :: C).length := by
  unfold due
  simp only [List.length_append, List.length_cons, List.length_take, List.length_drop]
  omega
theorem due_mem {P : Str → Bool} {A : List Str} {x : Str} {C : List Str} {sh : Str} {y : Str} (h : y ∈ due P A x C sh) : y ∈ A ++ x :: C := by
  unfold due at h
  simp only [List.mem_append, List.mem_cons] at h ⊢
  rcases h with h | h | h | h
  · exact .inl (List.mem_of_mem_take h)
  · exact .inr (.inl h)
  · exact .inl (List.mem_of_mem_drop h)
  · exact .inr (.inr h)
end Mv
namespace Pr
open PySem L2 Ev Mv
variable {w k : Nat} {S : Sto}
def tie (ties : List (Str × Str)) (x a : Str) : Bool := decide ((a, x) ∈ ties)
theorem exch_run {A C : List Str} {a x : Str} (hl : A.length + C.length ≤ 100) : callN (prg w) (k + 1) "_exchanged" "_exchanged" [.tup (sl (A ++ a :: x :: C)), .int ((A.length + 1 : Nat) : Int)] S = .ok (.tup (sl (A ++ x :: a :: C))) S := by
  rw [call_exchanged]
  unfold b_exchanged
  have e0 : ((A.length + 1 : Nat) : Int) - 1 = (A.length : Nat) := by omega
  have e1 : ((A.length + 1 : Nat) : Int) + 1 = ((A.length + 2 : Nat) : Int) := by omega
  have i0 : (A ++ a :: x :: C)[A.length]? = some a := by simp
  have i1 : (A ++ a :: x :: C)[A.length + 1]? = some x := by
    rw [List.getElem?_append_right (by omega)]
    simp
  have lL : (sl (A ++ a :: x :: C)).length = A.length + (C.length + 2) := by rw [sl_len]; simp
  have c1 : cutD (sl (A ++ a :: x :: C)) none (some ((A.length : Nat) : Int)) = sl A := by
    rw [cut_to _ (by omega), sl_take]; simp
  have c2 : cutD (sl (A ++ a :: x :: C)) (some ((A.length + 2 : Nat) : Int)) none = sl C := by
    rw [cut_from _ (by omega), sl_drop]
    congr 1
    rw [show A.length + 2 = (A ++ [a, x]).length by simp, show A ++ a :: x :: C = (A ++ [a, x]) ++ C by simp, List.drop_left']
    rfl
  have l1 : (sl A).length + ([D.str x, D.str a] : List D).length ≤ lim := by rw [sl_len]; simp [lim]; omega
  have l2 : (sl A ++ [D.str x, D.str a]).length + (sl C).length ≤ lim := by rw [List.length_append, sl_len, sl_len]; simp [lim]; omega
  simp only [eE_var, varK_s, eE_glob, eE_ty, eE_int, eE_str, eE_bl, eE_non, eE_bin, eE_binM, eE_cmp, eE_ix, k2_ap, eE_neg, negK_i, eE_not, notK_b, eE_chain, chK1_ap, chK3_ap, chK2_t, chK2_f, eE_and1, eE_or1, eE_and2, andK_t, andK_f, eE_or2, orK_t, orK_f, eE_ife, iteK_t, iteK_f, eE_tup, eE_lst, eE_lstM, tupK_1, tupK_2, lstK_0, lstK_1, eE_sl, slK1_ap, slK2_ap, part_no, eE_call, eE_blt, eE_bltM, bltMK_ap, thaw_lv, eE_meth, eE_lcS, eE_lcR, eE_frz, eE_rev, rev_lv, eEs_nil, eEs_cons, consK_ap, cnsK_ap, eSs_nil, eSs_cons, eS_asg, asgK_nm, eS_seti, stK1_ap, stK2_ap, stK3_ap, stK4_ap, eS_expr, expK_ap, eS_ret, rtK_ap, eS_ifs, eS_forS, eS_forR, eS_whl, eS_pass, eS_ctn, eS_brk, eS_retN, R.bind_ok, seqK_nx, seqK_rt, seqK_bk, seqK_ct, loopK_nx, loopK_rt, loopK_bk, loopK_ct, retK_nx, retK_rt, tr_bl, add_int, sub_int, cmp_eq_int, cmp_eq_str, cmp_eq_bl, cmp_ne_int, cmp_ne_str, cmp_lt_int, cmp_le_int, cmp_gt_int, cmp_ge_int, int_int, int_bl, abs_int, len_lv, len_tup, List.getElem?_cons_zero, List.getElem?_cons_succ, List.set_cons_zero, List.set_cons_succ, E.isNop, List.set_set, ctx_call, ofOpt_some, in_sign, nin_sign, all_lv, any_lv, part_f, partK_i, e0, e1, sl_tpD, c1, c2, ix_sl i0, ix_sl i1, add_tp l1, add_tp l2]
  have : sl (A ++ x :: a :: C) = sl A ++ [D.str x, D.str a] ++ sl C := by simp [sl]
  rw [this]
theorem ix_mid {A C : List Str} {x : Str} : ixD (.tup (sl (A ++ x :: C))) (.int ((A.length : Nat) : Int)) S = .ok (.str x) S := ix_sl (by simp) S
theorem ix_before {A C : List Str} {a x : Str} : ixD (.tup (sl (A ++ a :: x :: C))) (.int ((A.length : Nat) : Int)) S = .ok (.str a) S := ix_sl (by simp) S
theorem moved_run {d : D} {ties : List (Str × Str)} {A C : List Str} {x sh : Str} (hd : TSrc d ties) (hs : sh = "none" ∨ sh = "swap" ∨ sh = "front") (hok : ∀ y, y ∈ A ++ x :: C → PyData.strOk y = true) (hl : A.length + C.length ≤ 90) (hw : 100 ≤ w) :
    callN (prg w) (k + 2) "moved" "moved" [.tup (sl (A ++ x :: C)), .int ((A.length : Nat) : Int), d, .str sh] S = .ok (.tup (sl (due (tie ties x) A x C sh))) S := by
  rw [call_moved]
  unfold b_moved
  by_cases h0 : sh = "none"
  · subst h0
    have : due (tie ties x) A x C "none" = A ++ x :: C := by
      unfold due plcOf
      have h : ¬ (("none" : Str) = "swap") := by decide
      simp [h]
    rw [this]
    simp only [eE_var, varK_s, eE_glob, eE_ty, eE_int, eE_str, eE_bl, eE_non, eE_bin, eE_binM, eE_cmp, eE_ix, k2_ap, eE_neg, negK_i, eE_not, notK_b, eE_chain, chK1_ap, chK3_ap, chK2_t, chK2_f, eE_and1, eE_or1, eE_and2, andK_t, andK_f, eE_or2, orK_t, orK_f, eE_ife, iteK_t, iteK_f, eE_tup, eE_lst, eE_lstM, tupK_1, tupK_2, lstK_0, lstK_1, eE_sl, slK1_ap, slK2_ap, part_no, eE_call, eE_blt, eE_bltM, bltMK_ap, thaw_lv, eE_meth, eE_lcS, eE_lcR, eE_frz, eE_rev, rev_lv, eEs_nil, eEs_cons, consK_ap, cnsK_ap, eSs_nil, eSs_cons, eS_asg, asgK_nm, eS_seti, stK1_ap, stK2_ap, stK3_ap, stK4_ap, eS_expr, expK_ap, eS_ret, rtK_ap, eS_ifs, eS_forS, eS_forR, eS_whl, eS_pass, eS_ctn, eS_brk, eS_retN, R.bind_ok, seqK_nx, seqK_rt, seqK_bk, seqK_ct, loopK_nx, loopK_rt, loopK_bk, loopK_ct, retK_nx, retK_rt, tr_bl, add_int, sub_int, cmp_eq_int, cmp_eq_str, cmp_eq_bl, cmp_ne_int, cmp_ne_str, cmp_lt_int, cmp_le_int, cmp_gt_int, cmp_ge_int, int_int, int_bl, abs_int, len_lv, len_tup, List.getElem?_cons_zero, List.getElem?_cons_succ, List.set_cons_zero, List.set_cons_succ, E.isNop, List.set_set, ctx_call, ofOpt_some, in_sign, nin_sign, all_lv, any_lv, part_f, partK_i, decide_true]
  · -- the walk to the front
    have main : ∀ (n : Nat) (R C : List Str), R.length + C.length ≤ 90 → (∀ y, y ∈ R.reverse ++ x :: C → PyData.strOk y = true) → R.length < n →
        (evSs (ctxOf (prg w) (k + 1)) (.cons (.ret (.var 0)) .nil) |> fun g => (whGo (evE (ctxOf (prg w) (k + 1)) (.and2 (.cmp .gt (.var 1) (.cint 0)) (.and1 (.cmp .nin (.tup (.cons (.ix (.var 0) (.bin .sub (.var 1) (.cint 1))) (.cons (.ix (.var 0) (.var 1)) .nil))) (.var 2)))))
          (evSs (ctxOf (prg w) (k + 1)) (.cons (.asg (.nm 0) (.call "_exchanged" "_exchanged" (.cons (.var 0) (.cons (.var 1) .nil))))
            (.cons (.asg (.nm 1) (.bin .sub (.var 1) (.cint 1)))
            (.cons (.ifs (.cmp .eq (.var 3) (.cstr "swap"))
              (.cons (.ret (.var 0))
              .nil)
              .nil)
            .nil)))) n [some (.tup (sl (R.reverse ++ x :: C))), some (.int ((R.length : Nat) : Int)), some d, some (.str sh)] S).bind (seqK g))
          = .ok (.rt (.tup (sl (if sh = "swap" then (match R with | [] => x :: C | a :: r => if tie ties x a then R.reverse ++ x :: C else r.reverse ++ x :: a :: C) else front (tie ties x) x R C)))) S := by
      intro n
      induction n with
      | zero => intro R C _ _ h; omega
      | succ n ih =>
        intro R C hl hok hn
        simp only [whGo]
        cases R with
        | nil =>
          have e : decide ((0 : Int) < ((([] : List Str).length : Nat) : Int)) = false := by simp
          simp only [eE_var, varK_s, eE_glob, eE_ty, eE_int, eE_str, eE_bl, eE_non, eE_bin, eE_binM, eE_cmp, eE_ix, k2_ap, eE_neg, negK_i, eE_not, notK_b, eE_chain, chK1_ap, chK3_ap, chK2_t, chK2_f, eE_and1, eE_or1, eE_and2, andK_t, andK_f, eE_or2, orK_t, orK_f, eE_ife, iteK_t, iteK_f, eE_tup, eE_lst, eE_lstM, tupK_1, tupK_2, lstK_0, lstK_1, eE_sl, slK1_ap, slK2_ap, part_no, eE_call, eE_blt, eE_bltM, bltMK_ap, thaw_lv, eE_meth, eE_lcS, eE_lcR, eE_frz, eE_rev, rev_lv, eEs_nil, eEs_cons, consK_ap, cnsK_ap, eSs_nil, eSs_cons, eS_asg, asgK_nm, eS_seti, stK1_ap, stK2_ap, stK3_ap, stK4_ap, eS_expr, expK_ap, eS_ret, rtK_ap, eS_ifs, eS_forS, eS_forR, eS_whl, eS_pass, eS_ctn, eS_brk, eS_retN, R.bind_ok, seqK_nx, seqK_rt, seqK_bk, seqK_ct, loopK_nx, loopK_rt, loopK_bk, loopK_ct, retK_nx, retK_rt, tr_bl, add_int, sub_int, cmp_eq_int, cmp_eq_str, cmp_eq_bl, cmp_ne_int, cmp_ne_str, cmp_lt_int, cmp_le_int, cmp_gt_int, cmp_ge_int, int_int, int_bl, abs_int, len_lv, len_tup, List.getElem?_cons_zero, List.getElem?_cons_succ, List.set_cons_zero, List.set_cons_succ, E.isNop, List.set_set, ctx_call, ofOpt_some, in_sign, nin_sign, all_lv, any_lv, part_f, partK_i, e]
          have : (if sh = "swap" then x :: C else front (tie ties x) x [] C) = x :: C := by split <;> rfl
          simp only [this, List.reverse_nil, List.nil_append]
        | cons a r =>
          have e : decide ((0 : Int) < (((a :: r).length : Nat) : Int)) = true := by simp
          have e0 : (((a :: r).length : Nat) : Int) - 1 = (r.reverse.length : Nat) := by simp
          have e1 : (((a :: r).length : Nat) : Int) = ((r.reverse.length + 1 : Nat) : Int) := by simp
          have el : (a :: r).reverse ++ x :: C = r.reverse ++ a :: x :: C := by simp
          have ix1 : ixD (.tup (sl (r.reverse ++ a :: x :: C))) (.int ((r.reverse.length : Nat) : Int)) S = .ok (.str a) S := ix_before
          have ix2 : ixD (.tup (sl (r.reverse ++ a :: x :: C))) (.int ((r.reverse.length + 1 : Nat) : Int)) S = .ok (.str x) S := ix_sl (by rw [List.getElem?_append_right (by omega)]; simp) S
          have ha : PyData.strOk a = true := hok a (by simp)
          have hx : PyData.strOk x = true := hok x (by simp)
          have ex := exch_run (w := w) (k := k) (S := S) (A := r.reverse) (C := C) (a := a) (x := x) (by simp at hl ⊢; omega)
          rw [el, e1]
          have e0' : ((r.reverse.length + 1 : Nat) : Int) - 1 = (r.reverse.length : Nat) := by omega
          have e' : decide ((0 : Int) < ((r.reverse.length + 1 : Nat) : Int)) = true := by rw [decide_eq_true_eq]; omega
          by_cases ht : (a, x) ∈ ties
          · simp only [eE_var, varK_s, eE_glob, eE_ty, eE_int, eE_str, eE_bl, eE_non, eE_bin, eE_binM, eE_cmp, eE_ix, k2_ap, eE_neg, negK_i, eE_not, notK_b, eE_chain, chK1_ap, chK3_ap, chK2_t, chK2_f, eE_and1, eE_or1, eE_and2, andK_t, andK_f, eE_or2, orK_t, orK_f, eE_ife, iteK_t, iteK_f, eE_tup, eE_lst, eE_lstM, tupK_1, tupK_2, lstK_0, lstK_1, eE_sl, slK1_ap, slK2_ap, part_no, eE_call, eE_blt, eE_bltM, bltMK_ap, thaw_lv, eE_meth, eE_lcS, eE_lcR, eE_frz, eE_rev, rev_lv, eEs_nil, eEs_cons, consK_ap, cnsK_ap, eSs_nil, eSs_cons, eS_asg, asgK_nm, eS_seti, stK1_ap, stK2_ap, stK3_ap, stK4_ap, eS_expr, expK_ap, eS_ret, rtK_ap, eS_ifs, eS_forS, eS_forR, eS_whl, eS_pass, eS_ctn, eS_brk, eS_retN, R.bind_ok, seqK_nx, seqK_rt, seqK_bk, seqK_ct, loopK_nx, loopK_rt, loopK_bk, loopK_ct, retK_nx, retK_rt, tr_bl, add_int, sub_int, cmp_eq_int, cmp_eq_str, cmp_eq_bl, cmp_ne_int, cmp_ne_str, cmp_lt_int, cmp_le_int, cmp_gt_int, cmp_ge_int, int_int, int_bl, abs_int, len_lv, len_tup, List.getElem?_cons_zero, List.getElem?_cons_succ, List.set_cons_zero, List.set_cons_succ, E.isNop, List.set_set, ctx_call, ofOpt_some, in_sign, nin_sign, all_lv, any_lv, part_f, partK_i, e', e0', ix1, ix2, nin_psl hd ha hx, decide_eq_true ht, Bool.not_true]
            have ht' : tie ties x a = true := decide_eq_true ht
            simp only [front, ht', if_true]
            split <;> simp
          · simp only [eE_var, varK_s, eE_glob, eE_ty, eE_int, eE_str, eE_bl, eE_non, eE_bin, eE_binM, eE_cmp, eE_ix, k2_ap, eE_neg, negK_i, eE_not, notK_b, eE_chain, chK1_ap, chK3_ap, chK2_t, chK2_f, eE_and1, eE_or1, eE_and2, andK_t, andK_f, eE_or2, orK_t, orK_f, eE_ife, iteK_t, iteK_f, eE_tup, eE_lst, eE_lstM, tupK_1, tupK_2, lstK_0, lstK_1, eE_sl, slK1_ap, slK2_ap, part_no, eE_call, eE_blt, eE_bltM, bltMK_ap, thaw_lv, eE_meth, eE_lcS, eE_lcR, eE_frz, eE_rev, rev_lv, eEs_nil, eEs_cons, consK_ap, cnsK_ap, eSs_nil, eSs_cons, eS_asg, asgK_nm, eS_seti, stK1_ap, stK2_ap, stK3_ap, stK4_ap, eS_expr, expK_ap, eS_ret, rtK_ap, eS_ifs, eS_forS, eS_forR, eS_whl, eS_pass, eS_ctn, eS_brk, eS_retN, R.bind_ok, seqK_nx, seqK_rt, seqK_bk, seqK_ct, loopK_nx, loopK_rt, loopK_bk, loopK_ct, retK_nx, retK_rt, tr_bl, add_int, sub_int, cmp_eq_int, cmp_eq_str, cmp_eq_bl, cmp_ne_int, cmp_ne_str, cmp_lt_int, cmp_le_int, cmp_gt_int, cmp_ge_int, int_int, int_bl, abs_int, len_lv, len_tup, List.getElem?_cons_zero, List.getElem?_cons_succ, List.set_cons_zero, List.set_cons_succ, E.isNop, List.set_set, ctx_call, ofOpt_some, in_sign, nin_sign, all_lv, any_lv, part_f, partK_i, e', e0', ix1, ix2, nin_psl hd ha hx, decide_eq_false ht, Bool.not_false, ex]
            have ht' : tie ties x a = false := decide_eq_false ht
            by_cases hsw : sh = "swap"
            · simp only [hsw, decide_true, eE_var, varK_s, eE_glob, eE_ty, eE_int, eE_str, eE_bl, eE_non, eE_bin, eE_binM, eE_cmp, eE_ix, k2_ap, eE_neg, negK_i, eE_not, notK_b, eE_chain, chK1_ap, chK3_ap, chK2_t, chK2_f, eE_and1, eE_or1, eE_and2, andK_t, andK_f, eE_or2, orK_t, orK_f, eE_ife, iteK_t, iteK_f, eE_tup, eE_lst, eE_lstM, tupK_1, tupK_2, lstK_0, lstK_1, eE_sl, slK1_ap, slK2_ap, part_no, eE_call, eE_blt, eE_bltM, bltMK_ap, thaw_lv, eE_meth, eE_lcS, eE_lcR, eE_frz, eE_rev, rev_lv, eEs_nil, eEs_cons, consK_ap, cnsK_ap, eSs_nil, eSs_cons, eS_asg, asgK_nm, eS_seti, stK1_ap, stK2_ap, stK3_ap, stK4_ap, eS_expr, expK_ap, eS_ret, rtK_ap, eS_ifs, eS_forS, eS_forR, eS_whl, eS_pass, eS_ctn, eS_brk, eS_retN, R.bind_ok, seqK_nx, seqK_rt, seqK_bk, seqK_ct, loopK_nx, loopK_rt, loopK_bk, loopK_ct, retK_nx, retK_rt, tr_bl, add_int, sub_int, cmp_eq_int, cmp_eq_str, cmp_eq_bl, cmp_ne_int, cmp_ne_str, cmp_lt_int, cmp_le_int, cmp_gt_int, cmp_ge_int, int_int, int_bl, abs_int, len_lv, len_tup, List.getElem?_cons_zero, List.getElem?_cons_succ, List.set_cons_zero, List.set_cons_succ, E.isNop, List.set_set, ctx_call, ofOpt_some, in_sign, nin_sign, all_lv, any_lv, part_f, partK_i, ht', if_true, Bool.false_eq_true, if_false]
            · simp only [hsw, decide_false, eE_var, varK_s, eE_glob, eE_ty, eE_int, eE_str, eE_bl, eE_non, eE_bin, eE_binM, eE_cmp, eE_ix, k2_ap, eE_neg, negK_i, eE_not, notK_b, eE_chain, chK1_ap, chK3_ap, chK2_t, chK2_f, eE_and1, eE_or1, eE_and2, andK_t, andK_f, eE_or2, orK_t, orK_f, eE_ife, iteK_t, iteK_f, eE_tup, eE_lst, eE_lstM, tupK_1, tupK_2, lstK_0, lstK_1, eE_sl, slK1_ap, slK2_ap, part_no, eE_call, eE_blt, eE_bltM, bltMK_ap, thaw_lv, eE_meth, eE_lcS, eE_lcR, eE_frz, eE_rev, rev_lv, eEs_nil, eEs_cons, consK_ap, cnsK_ap, eSs_nil, eSs_cons, eS_asg, asgK_nm, eS_seti, stK1_ap, stK2_ap, stK3_ap, stK4_ap, eS_expr, expK_ap, eS_ret, rtK_ap, eS_ifs, eS_forS, eS_forR, eS_whl, eS_pass, eS_ctn, eS_brk, eS_retN, R.bind_ok, seqK_nx, seqK_rt, seqK_bk, seqK_ct, loopK_nx, loopK_rt, loopK_bk, loopK_ct, retK_nx, retK_rt, tr_bl, add_int, sub_int, cmp_eq_int, cmp_eq_str, cmp_eq_bl, cmp_ne_int, cmp_ne_str, cmp_lt_int, cmp_le_int, cmp_gt_int, cmp_ge_int, int_int, int_bl, abs_int, len_lv, len_tup, List.getElem?_cons_zero, List.getElem?_cons_succ, List.set_cons_zero, List.set_cons_succ, E.isNop, List.set_set, ctx_call, ofOpt_some, in_sign, nin_sign, all_lv, any_lv, part_f, partK_i]
              have := ih r (a :: C) (by simp at hl ⊢; omega) (fun y hy => hok y (by simp at hy ⊢; rcases hy with h | h | h | h <;> simp [h])) (by simp at hn; omega)
              simp only [hsw, if_false] at this
              rw [List.length_reverse]
              simp only [front, ht', Bool.false_eq_true, if_false]
              exact this
    have h1 : decide (sh = ("none" : Str)) = false := decide_eq_false h0
    have mm := main w A.reverse C (by simp; omega) (by rw [List.reverse_reverse]; exact hok) (by simp; omega)
    rw [List.reverse_reverse, List.length_reverse] at mm
    rw [eSs_cons, eS_ifs]
    simp only [eE_cmp, eE_var, varK_s, eE_str, List.getElem?_cons_zero, List.getElem?_cons_succ, R.bind_ok, k2_ap, cmp_eq_str, h1, tr_bl, iteK_f, eSs_nil, seqK_nx]
    rw [eSs_cons, eS_whl]
    have hwc : (ctxOf (prg w) (k + 1)).w = w := rfl
    rw [hwc]
    have mm' := mm
    simp only at mm'
    rw [mm', R.bind_ok, retK_rt]
    congr 3
    have fr := front_eq (tie ties x) x A.reverse C
    rw [List.reverse_reverse] at fr
    unfold due plcOf
    by_cases hsw : sh = "swap"
    · simp only [hsw, if_true]
      have hns : ¬ (("swap" : Str) = "none") := by decide
      simp only [hns, if_false, true_and]
      rcases List.eq_nil_or_concat A with rfl | ⟨B, a, rfl⟩
      · simp [stop]
      · rw [List.concat_eq_append, List.reverse_append]
        simp only [List.reverse_cons, List.reverse_nil, List.nil_append, List.singleton_append]
        unfold stop
        by_cases ht : tie ties x a = true
        · have e : (B ++ [a]).length = B.reverse.length + 1 := by simp
          have e2 : ¬ (B.reverse.length + 1 < (B ++ [a]).length) := by omega
          simp only [ht, if_true, e2, if_false]
          rw [← e, List.take_length, List.drop_length]
          simp
        · have := stop_le (tie ties x) B.reverse
          rw [List.length_reverse] at this
          have h2 : stop (tie ties x) B.reverse < (B ++ [a]).length := by simp; omega
          simp only [ht, if_false, Bool.false_eq_true, h2, if_true]
          simp
    · simp only [hsw, if_false, h0, false_and]
      exact fr
end Pr

namespace Pr
open PySem L2 Ev Mv
variable {w k : Nat} {S : Sto}
theorem stops_run {d : D} {ties : List (Str × Str)} {A C : List Str} {x : Str} (hd : TSrc d ties) (hok : ∀ y, y ∈ A ++ x :: C → PyData.strOk y = true) (hl : A.length + C.length ≤ 90) {x3 x4 x5 x6 : Option D} :
    lcRg (.nm 6) [some (.tup (sl (A ++ x :: C))), some (.int ((A.length : Nat) : Int)), some d, x3, x4, x5, x6]
      (evE (ctxOf (prg w) k) (.cmp .in_ (.tup (.cons (.ix (.var 0) (.var 6)) (.cons (.ix (.var 0) (.var 1)) .nil))) (.var 2)))
      (evE (ctxOf (prg w) k) (.bin .add (.var 6) (.cint 1))) 0 A.length 0 [] S = .ok (.lv ((stopsOf (tie ties x) A).map fun n => D.int ((n : Nat) : Int))) S := by
  have hx : PyData.strOk x = true := hok x (by simp)
  have main : ∀ n i : Nat, i + n = A.length → ∀ acc : List Nat, acc.length ≤ i → lcRg (.nm 6) [some (.tup (sl (A ++ x :: C))), some (.int ((A.length : Nat) : Int)), some d, x3, x4, x5, x6]
      (evE (ctxOf (prg w) k) (.cmp .in_ (.tup (.cons (.ix (.var 0) (.var 6)) (.cons (.ix (.var 0) (.var 1)) .nil))) (.var 2)))
      (evE (ctxOf (prg w) k) (.bin .add (.var 6) (.cint 1))) 0 n i (acc.map fun n => D.int ((n : Nat) : Int)) S
      = .ok (.lv ((acc ++ (((List.range' i n).filter fun k => match A[k]? with | some a => tie ties x a | none => false).map (· + 1))).map fun n => D.int ((n : Nat) : Int))) S := by
    intro n
    induction n with
    | zero => intro i _ acc _; simp [lcRg]
    | succ n ih =>
      intro i hi acc ha
      have hlt : i < A.length := by omega
      have ea : A[i]? = some A[i] := List.getElem?_eq_getElem hlt
      have hoa : PyData.strOk A[i] = true := hok _ (by simp)
      have i0 : (A ++ x :: C)[i]? = some A[i] := by rw [List.getElem?_append_left hlt, ea]
      have i0' : ixD (.tup (sl (A ++ x :: C))) (.int (0 + (i : Int))) S = .ok (.str A[i]) S := by rw [Int.zero_add]; exact ix_sl i0 S
      have i1 : ixD (.tup (sl (A ++ x :: C))) (.int ((A.length : Nat) : Int)) S = .ok (.str x) S := ix_mid
      unfold lcRg
      simp only [setTg, Tg.slots, wipeD]
      rw [List.range'_succ, List.filter_cons, ea]
      by_cases ht : (A[i], x) ∈ ties
      · have ht' : tie ties x A[i] = true := decide_eq_true ht
        have hal : (acc.map fun n => D.int ((n : Nat) : Int)).length < lim := by rw [List.length_map]; simp [lim]; omega
        simp only [eE_var, varK_s, eE_glob, eE_ty, eE_int, eE_str, eE_bl, eE_non, eE_bin, eE_binM, eE_cmp, eE_ix, k2_ap, eE_neg, negK_i, eE_not, notK_b, eE_chain, chK1_ap, chK3_ap, chK2_t, chK2_f, eE_and1, eE_or1, eE_and2, andK_t, andK_f, eE_or2, orK_t, orK_f, eE_ife, iteK_t, iteK_f, eE_tup, eE_lst, eE_lstM, tupK_1, tupK_2, lstK_0, lstK_1, eE_sl, slK1_ap, slK2_ap, part_no, eE_call, eE_blt, eE_bltM, bltMK_ap, thaw_lv, eE_meth, eE_lcS, eE_lcR, eE_frz, eE_rev, rev_lv, eEs_nil, eEs_cons, consK_ap, cnsK_ap, eSs_nil, eSs_cons, eS_asg, asgK_nm, eS_seti, stK1_ap, stK2_ap, stK3_ap, stK4_ap, eS_expr, expK_ap, eS_ret, rtK_ap, eS_ifs, eS_forS, eS_forR, eS_whl, eS_pass, eS_ctn, eS_brk, eS_retN, R.bind_ok, seqK_nx, seqK_rt, seqK_bk, seqK_ct, loopK_nx, loopK_rt, loopK_bk, loopK_ct, retK_nx, retK_rt, tr_bl, add_int, sub_int, cmp_eq_int, cmp_eq_str, cmp_eq_bl, cmp_ne_int, cmp_ne_str, cmp_lt_int, cmp_le_int, cmp_gt_int, cmp_ge_int, int_int, int_bl, abs_int, len_lv, len_tup, List.getElem?_cons_zero, List.getElem?_cons_succ, List.set_cons_zero, List.set_cons_succ, E.isNop, List.set_set, ctx_call, ofOpt_some, in_sign, nin_sign, all_lv, any_lv, part_f, partK_i, i0', i1, in_psl hd hoa hx, decide_eq_true ht, ht', if_true, hal]
        have := ih (i + 1) (by omega) (acc ++ [i + 1]) (by simp; omega)
        rw [List.map_append] at this
        have e3 : (0 + (i : Int)) + 1 = ((i + 1 : Nat) : Int) := by omega
        rw [e3]
        simp only [List.map_cons, List.map_nil] at this ⊢
        rw [this]
        simp
      · have ht' : tie ties x A[i] = false := decide_eq_false ht
        simp only [eE_var, varK_s, eE_glob, eE_ty, eE_int, eE_str, eE_bl, eE_non, eE_bin, eE_binM, eE_cmp, eE_ix, k2_ap, eE_neg, negK_i, eE_not, notK_b, eE_chain, chK1_ap, chK3_ap, chK2_t, chK2_f, eE_and1, eE_or1, eE_and2, andK_t, andK_f, eE_or2, orK_t, orK_f, eE_ife, iteK_t, iteK_f, eE_tup, eE_lst, eE_lstM, tupK_1, tupK_2, lstK_0, lstK_1, eE_sl, slK1_ap, slK2_ap, part_no, eE_call, eE_blt, eE_bltM, bltMK_ap, thaw_lv, eE_meth, eE_lcS, eE_lcR, eE_frz, eE_rev, rev_lv, eEs_nil, eEs_cons, consK_ap, cnsK_ap, eSs_nil, eSs_cons, eS_asg, asgK_nm, eS_seti, stK1_ap, stK2_ap, stK3_ap, stK4_ap, eS_expr, expK_ap, eS_ret, rtK_ap, eS_ifs, eS_forS, eS_forR, eS_whl, eS_pass, eS_ctn, eS_brk, eS_retN, R.bind_ok, seqK_nx, seqK_rt, seqK_bk, seqK_ct, loopK_nx, loopK_rt, loopK_bk, loopK_ct, retK_nx, retK_rt, tr_bl, add_int, sub_int, cmp_eq_int, cmp_eq_str, cmp_eq_bl, cmp_ne_int, cmp_ne_str, cmp_lt_int, cmp_le_int, cmp_gt_int, cmp_ge_int, int_int, int_bl, abs_int, len_lv, len_tup, List.getElem?_cons_zero, List.getElem?_cons_succ, List.set_cons_zero, List.set_cons_succ, E.isNop, List.set_set, ctx_call, ofOpt_some, in_sign, nin_sign, all_lv, any_lv, part_f, partK_i, i0', i1, in_psl hd hoa hx, decide_eq_false ht, ht', if_false, Bool.false_eq_true]
        exact ih (i + 1) (by omega) acc (by omega)
  have := main A.length 0 (by omega) [] (by simp)
  rw [List.map_nil] at this
  rw [this]
  unfold stopsOf
  rw [List.range_eq_range']
  rfl
theorem ints_ne_nil (l : List Nat) (S : Sto) : cmpD .ne (.lv (l.map fun n => D.int ((n : Nat) : Int))) (.lv []) S = .ok (.bl (!l.isEmpty)) S := by
  have h1 : ∀ l : List Nat, toPys (l.map fun n => D.int ((n : Nat) : Int)) = some (l.map fun n => PyData.int ((n : Nat) : Int)) := by
    intro l
    induction l with
    | nil => rfl
    | cons a r ih => simp only [List.map_cons, toPys, toPy, ih]
  have h2 : ∀ l : List Nat, PyData.canLayAll0 (l.map fun n => PyData.int ((n : Nat) : Int)) = true ∧ PyData.depthAll (l.map fun n => PyData.int ((n : Nat) : Int)) = 0 := by
    intro l
    induction l with
    | nil => simp [PyData.canLayAll0, PyData.depthAll]
    | cons a r ih => simp [PyData.canLayAll0, PyData.depthAll, PyData.canLay0, PyData.depth, ih.1, ih.2]
  have sh : SeqAt.shaped (.list (l.map fun n => PyData.int ((n : Nat) : Int))) = true := by
    simp [SeqAt.shaped, PyData.canLay0, PyData.depth, (h2 l).1, (h2 l).2]
  have sh0 : SeqAt.shaped (.list []) = true := by simp [SeqAt.shaped, PyData.canLay0, PyData.depth, PyData.canLayAll0, PyData.depthAll]
  have e : eqD S (.lv (l.map fun n => D.int ((n : Nat) : Int))) (.lv []) = some (PyData.eqv (.list (l.map fun n => PyData.int ((n : Nat) : Int))) (.list [])) := by
    simp [eqD, eqS, topPy, toPy, h1, toPys, sh, sh0]
  simp only [cmpD, cmpO, e, Option.map_some, ofOpt_some, R.bind_ok]
  cases l <;> simp [PyData.eqv, PyData.eqvAll]
theorem due_run {d : D} {ties : List (Str × Str)} {A C : List Str} {x sh : Str} (hd : TSrc d ties) (hs : sh = "none" ∨ sh = "swap" ∨ sh = "front") (hok : ∀ y, y ∈ A ++ x :: C → PyData.strOk y = true) (hl : A.length + C.length ≤ 90) :
    callN (prg w) (k + 1) "_law_due" "_law_due" [.tup (sl (A ++ x :: C)), .int ((A.length : Nat) : Int), d, .str sh] S = .ok (.tup (sl (due (tie ties x) A x C sh))) S := by
  have st := stops_run (w := w) (k := k) (S := S) (x3 := some (.str sh)) (x4 := none) (x5 := none) (x6 := none) hd hok hl
  have rg : rngOk ((A.length : Nat) : Int) = true := by
    unfold rngOk
    rw [decide_eq_true_eq]
    omega
  -- behind the place
  have fin : ∀ (p : Nat) (x4 x6 : Option D), p ≤ A.length → (evSs (ctxOf (prg w) k) (.cons (.ret (.bin .add (.bin .add (.bin .add (.sl (.var 0) .nop (.var 5)) (.tup (.cons (.ix (.var 0) (.var 1)) .nil))) (.sl (.var 0) (.var 5) (.var 1))) (.sl (.var 0) (.bin .add (.var 1) (.cint 1)) .nop))) .nil)
      [some (.tup (sl (A ++ x :: C))), some (.int ((A.length : Nat) : Int)), some d, some (.str sh), x4, some (.int ((p : Nat) : Int)), x6] S).bind retK = .ok (.tup (sl (A.take p ++ x :: (A.drop p ++ C)))) S := by
    intro p x4 x6 hp
    have lL : (sl (A ++ x :: C)).length = A.length + (C.length + 1) := by rw [sl_len]; simp
    have e1 : ((A.length : Nat) : Int) + 1 = ((A.length + 1 : Nat) : Int) := by omega
    have c1 : cutD (sl (A ++ x :: C)) none (some ((p : Nat) : Int)) = sl (A.take p) := by
      rw [cut_to _ (by omega), sl_take, List.take_append_of_le_length hp]
    have c2 : cutD (sl (A ++ x :: C)) (some ((p : Nat) : Int)) (some ((A.length : Nat) : Int)) = sl (A.drop p) := by
      rw [cut_mid _ hp (by omega), sl_drop, sl_take, List.drop_append_of_le_length hp, List.take_append_of_le_length (by simp), List.take_of_length_le (by simp)]
    have c3 : cutD (sl (A ++ x :: C)) (some ((A.length + 1 : Nat) : Int)) none = sl C := by
      rw [cut_from _ (by omega), sl_drop]
      have : (A ++ x :: C).drop (A.length + 1) = C := by simp [List.drop_append]
      rw [this]
    have l1 : (sl (A.take p)).length + ([D.str x] : List D).length ≤ lim := by rw [sl_len]; simp [lim]; omega
    have l2 : (sl (A.take p) ++ [D.str x]).length + (sl (A.drop p)).length ≤ lim := by rw [List.length_append, sl_len, sl_len]; simp [lim]; omega
    have l3 : (sl (A.take p) ++ [D.str x] ++ sl (A.drop p)).length + (sl C).length ≤ lim := by simp only [List.length_append, sl_len]; simp [lim]; omega
    simp only [eE_var, varK_s, eE_glob, eE_ty, eE_int, eE_str, eE_bl, eE_non, eE_bin, eE_binM, eE_cmp, eE_ix, k2_ap, eE_neg, negK_i, eE_not, notK_b, eE_chain, chK1_ap, chK3_ap, chK2_t, chK2_f, eE_and1, eE_or1, eE_and2, andK_t, andK_f, eE_or2, orK_t, orK_f, eE_ife, iteK_t, iteK_f, eE_tup, eE_lst, eE_lstM, tupK_1, tupK_2, lstK_0, lstK_1, eE_sl, slK1_ap, slK2_ap, part_no, eE_call, eE_blt, eE_bltM, bltMK_ap, thaw_lv, eE_meth, eE_lcS, eE_lcR, eE_frz, eE_rev, rev_lv, eEs_nil, eEs_cons, consK_ap, cnsK_ap, eSs_nil, eSs_cons, eS_asg, asgK_nm, eS_seti, stK1_ap, stK2_ap, stK3_ap, stK4_ap, eS_expr, expK_ap, eS_ret, rtK_ap, eS_ifs, eS_forS, eS_forR, eS_whl, eS_pass, eS_ctn, eS_brk, eS_retN, R.bind_ok, seqK_nx, seqK_rt, seqK_bk, seqK_ct, loopK_nx, loopK_rt, loopK_bk, loopK_ct, retK_nx, retK_rt, tr_bl, add_int, sub_int, cmp_eq_int, cmp_eq_str, cmp_eq_bl, cmp_ne_int, cmp_ne_str, cmp_lt_int, cmp_le_int, cmp_gt_int, cmp_ge_int, int_int, int_bl, abs_int, len_lv, len_tup, List.getElem?_cons_zero, List.getElem?_cons_succ, List.set_cons_zero, List.set_cons_succ, E.isNop, List.set_set, ctx_call, ofOpt_some, in_sign, nin_sign, all_lv, any_lv, part_f, partK_i, e1, sl_tpD, c1, c2, c3, ix_mid, add_tp l1, add_tp l2, add_tp l3]
    have : sl (A.take p ++ x :: (A.drop p ++ C)) = sl (A.take p) ++ [D.str x] ++ sl (A.drop p) ++ sl C := by simp [sl]
    rw [this]
  rw [call_law_due]
  unfold b_law_due
  rw [eSs_cons, eS_asg, eE_lcR]
  simp only [eE_var, varK_s, List.getElem?_cons_zero, List.getElem?_cons_succ, R.bind_ok]
  have e0 : lcK1 (evE (ctxOf (prg w) k) (.bin .add (.var 6) (.cint 1))) (evE (ctxOf (prg w) k) (.cmp .in_ (.tup (.cons (.ix (.var 0) (.var 6)) (.cons (.ix (.var 0) (.var 1)) .nil))) (.var 2))) (.nm 6) [some (.tup (sl (A ++ x :: C))), some (.int ((A.length : Nat) : Int)), some d, some (.str sh), none, none, none] (.int ((A.length : Nat) : Int)) S = .ok (.lv ((stopsOf (tie ties x) A).map fun n => D.int ((n : Nat) : Int))) S := by
    unfold lcK1
    simp only [rg, if_true, Int.toNat_natCast]
    exact st
  rw [e0]
  simp only [R.bind_ok, asgK_nm, List.set_cons_zero, List.set_cons_succ, seqK_nx]
  rw [eSs_cons, eS_asg]
  simp only [eE_var, varK_s, List.getElem?_cons_zero, List.getElem?_cons_succ, R.bind_ok, asgK_nm, List.set_cons_zero, List.set_cons_succ, seqK_nx]
  have sl0 := stop_le (tie ties x) A.reverse
  rw [List.length_reverse] at sl0
  have last := stops_last (tie ties x) A.reverse
  rw [List.reverse_reverse] at last
  by_cases h0 : sh = "none"
  · have h1 : ¬ (sh = ("swap" : Str)) := by rw [h0]; decide
    rw [eSs_cons, eS_ifs]
    simp only [eE_cmp, eE_var, varK_s, eE_str, List.getElem?_cons_zero, List.getElem?_cons_succ, R.bind_ok, k2_ap, cmp_ne_str, decide_eq_true h0, Bool.not_true, tr_bl, iteK_f, eSs_nil, seqK_nx]
    rw [eSs_cons, eS_ifs]
    simp only [eE_cmp, eE_and2, eE_and1, eE_var, varK_s, eE_str, List.getElem?_cons_zero, List.getElem?_cons_succ, R.bind_ok, k2_ap, cmp_eq_str, decide_eq_false h1, andK_f, tr_bl, iteK_f, eSs_nil, seqK_nx]
    have hp : plcOf (tie ties x) A sh = A.length := by unfold plcOf; simp [h0, h1]
    have := fin A.length (some (.lv ((stopsOf (tie ties x) A).map fun n => D.int ((n : Nat) : Int)))) none (Nat.le_refl _)
    unfold due
    rw [hp]
    exact this
  · have ifx : evE (ctxOf (prg w) k) (.ife (.cmp .ne (.var 4) (.lst .nil)) (.ix (.var 4) (.neg (.cint 1))) (.cint 0)) [some (.tup (sl (A ++ x :: C))), some (.int ((A.length : Nat) : Int)), some d, some (.str sh), some (.lv ((stopsOf (tie ties x) A).map fun n => D.int ((n : Nat) : Int))), some (.int ((A.length : Nat) : Int)), none] S = .ok (.int ((stop (tie ties x) A.reverse : Nat) : Int)) S := by
      rw [last]
      generalize stopsOf (tie ties x) A = l
      rcases List.eq_nil_or_concat l with rfl | ⟨l', a, rfl⟩
      · have := ints_ne_nil [] S
        simp only [List.map_nil] at this
        simp only [eE_var, varK_s, eE_glob, eE_ty, eE_int, eE_str, eE_bl, eE_non, eE_bin, eE_binM, eE_cmp, eE_ix, k2_ap, eE_neg, negK_i, eE_not, notK_b, eE_chain, chK1_ap, chK3_ap, chK2_t, chK2_f, eE_and1, eE_or1, eE_and2, andK_t, andK_f, eE_or2, orK_t, orK_f, eE_ife, iteK_t, iteK_f, eE_tup, eE_lst, eE_lstM, tupK_1, tupK_2, lstK_0, lstK_1, eE_sl, slK1_ap, slK2_ap, part_no, eE_call, eE_blt, eE_bltM, bltMK_ap, thaw_lv, eE_meth, eE_lcS, eE_lcR, eE_frz, eE_rev, rev_lv, eEs_nil, eEs_cons, consK_ap, cnsK_ap, eSs_nil, eSs_cons, eS_asg, asgK_nm, eS_seti, stK1_ap, stK2_ap, stK3_ap, stK4_ap, eS_expr, expK_ap, eS_ret, rtK_ap, eS_ifs, eS_forS, eS_forR, eS_whl, eS_pass, eS_ctn, eS_brk, eS_retN, R.bind_ok, seqK_nx, seqK_rt, seqK_bk, seqK_ct, loopK_nx, loopK_rt, loopK_bk, loopK_ct, retK_nx, retK_rt, tr_bl, add_int, sub_int, cmp_eq_int, cmp_eq_str, cmp_eq_bl, cmp_ne_int, cmp_ne_str, cmp_lt_int, cmp_le_int, cmp_gt_int, cmp_ge_int, int_int, int_bl, abs_int, len_lv, len_tup, List.getElem?_cons_zero, List.getElem?_cons_succ, List.set_cons_zero, List.set_cons_succ, E.isNop, List.set_set, ctx_call, ofOpt_some, in_sign, nin_sign, all_lv, any_lv, part_f, partK_i, List.map_nil, this, List.isEmpty_nil, Bool.not_true]
        rfl
      · rw [List.concat_eq_append]
        have := ints_ne_nil (l' ++ [a]) S
        have e1 : (!(l' ++ [a]).isEmpty) = true := by simp
        rw [e1] at this
        have i1 : ixD (.lv ((l' ++ [a]).map fun n => D.int ((n : Nat) : Int))) (.int (-1)) S = .ok (.int ((a : Nat) : Int)) S := by
          refine ix_lv ?_ S
          unfold atI
          rw [List.map_append, List.length_append]
          simp only [List.map_cons, List.map_nil, List.length_cons, List.length_nil, Nat.zero_add]
          rw [ixN_last]
          simp
        simp only [eE_var, varK_s, eE_glob, eE_ty, eE_int, eE_str, eE_bl, eE_non, eE_bin, eE_binM, eE_cmp, eE_ix, k2_ap, eE_neg, negK_i, eE_not, notK_b, eE_chain, chK1_ap, chK3_ap, chK2_t, chK2_f, eE_and1, eE_or1, eE_and2, andK_t, andK_f, eE_or2, orK_t, orK_f, eE_ife, iteK_t, iteK_f, eE_tup, eE_lst, eE_lstM, tupK_1, tupK_2, lstK_0, lstK_1, eE_sl, slK1_ap, slK2_ap, part_no, eE_call, eE_blt, eE_bltM, bltMK_ap, thaw_lv, eE_meth, eE_lcS, eE_lcR, eE_frz, eE_rev, rev_lv, eEs_nil, eEs_cons, consK_ap, cnsK_ap, eSs_nil, eSs_cons, eS_asg, asgK_nm, eS_seti, stK1_ap, stK2_ap, stK3_ap, stK4_ap, eS_expr, expK_ap, eS_ret, rtK_ap, eS_ifs, eS_forS, eS_forR, eS_whl, eS_pass, eS_ctn, eS_brk, eS_retN, R.bind_ok, seqK_nx, seqK_rt, seqK_bk, seqK_ct, loopK_nx, loopK_rt, loopK_bk, loopK_ct, retK_nx, retK_rt, tr_bl, add_int, sub_int, cmp_eq_int, cmp_eq_str, cmp_eq_bl, cmp_ne_int, cmp_ne_str, cmp_lt_int, cmp_le_int, cmp_gt_int, cmp_ge_int, int_int, int_bl, abs_int, len_lv, len_tup, List.getElem?_cons_zero, List.getElem?_cons_succ, List.set_cons_zero, List.set_cons_succ, E.isNop, List.set_set, ctx_call, ofOpt_some, in_sign, nin_sign, all_lv, any_lv, part_f, partK_i, this, i1]
        simp
    rw [eSs_cons, eS_ifs]
    simp only [eE_cmp, eE_var, varK_s, eE_str, List.getElem?_cons_zero, List.getElem?_cons_succ, R.bind_ok, k2_ap, cmp_ne_str, decide_eq_false h0, Bool.not_false, tr_bl, iteK_t, eSs_cons, eS_asg, ifx, asgK_nm, List.set_cons_zero, List.set_cons_succ, eSs_nil, seqK_nx]
    by_cases h1 : sh = "swap"
    · by_cases h2 : stop (tie ties x) A.reverse < A.length
      · have h2' : decide (((stop (tie ties x) A.reverse : Nat) : Int) < ((A.length : Nat) : Int)) = true := by rw [decide_eq_true_eq]; omega
        have e4 : ((A.length : Nat) : Int) - 1 = ((A.length - 1 : Nat) : Int) := by omega
        have hp : plcOf (tie ties x) A sh = A.length - 1 := by
          unfold plcOf
          have : ¬ (("swap" : Str) = "none") := by decide
          simp only [h1, this, if_false, true_and, h2, if_true]
        rw [eS_ifs]
        simp only [eE_cmp, eE_and2, eE_and1, eE_var, varK_s, eE_str, eE_int, eE_bin, sub_int, List.getElem?_cons_zero, List.getElem?_cons_succ, R.bind_ok, k2_ap, cmp_eq_str, cmp_lt_int, decide_eq_true h1, h2', andK_t, tr_bl, iteK_t, eSs_cons, eS_asg, asgK_nm, List.set_cons_zero, List.set_cons_succ, eSs_nil, seqK_nx, e4]
        have := fin (A.length - 1) (some (.lv ((stopsOf (tie ties x) A).map fun n => D.int ((n : Nat) : Int)))) none (by omega)
        rw [eSs_cons] at this
        unfold due
        rw [hp]
        exact this
      · have h2' : decide (((stop (tie ties x) A.reverse : Nat) : Int) < ((A.length : Nat) : Int)) = false := by rw [decide_eq_false_iff_not]; omega
        have hp : plcOf (tie ties x) A sh = stop (tie ties x) A.reverse := by
          unfold plcOf
          have : ¬ (("swap" : Str) = "none") := by decide
          simp only [h1, this, if_false, true_and, h2]
        rw [eS_ifs]
        simp only [eE_cmp, eE_and2, eE_and1, eE_var, varK_s, eE_str, List.getElem?_cons_zero, List.getElem?_cons_succ, R.bind_ok, k2_ap, cmp_eq_str, cmp_lt_int, decide_eq_true h1, h2', andK_t, tr_bl, iteK_f, eSs_nil, seqK_nx]
        have := fin (stop (tie ties x) A.reverse) (some (.lv ((stopsOf (tie ties x) A).map fun n => D.int ((n : Nat) : Int)))) none sl0
        rw [eSs_cons] at this
        unfold due
        rw [hp]
        exact this
    · have hp : plcOf (tie ties x) A sh = stop (tie ties x) A.reverse := by
        unfold plcOf
        simp only [h0, h1, if_false, false_and]
      rw [eS_ifs]
      simp only [eE_cmp, eE_and2, eE_and1, eE_var, varK_s, eE_str, List.getElem?_cons_zero, List.getElem?_cons_succ, R.bind_ok, k2_ap, cmp_eq_str, decide_eq_false h1, andK_f, tr_bl, iteK_f, eSs_nil, seqK_nx]
      have := fin (stop (tie ties x) A.reverse) (some (.lv ((stopsOf (tie ties x) A).map fun n => D.int ((n : Nat) : Int)))) none sl0
      rw [eSs_cons] at this
      unfold due
      rw [hp]
      exact this
end Pr

namespace Pr
open PySem L2 Ev
variable {w k : Nat} {S : Sto} {b : Nat}
/-! ### things in a drawn order -/
theorem perm_pop {l : List D} {i : Nat} {d : D} (h : l[i]? = some d) : l.Perm (d :: l.eraseIdx i) := by
  induction l generalizing i with
  | nil => simp at h
  | cons a r ih =>
    cases i with
    | zero =>
      simp at h
      subst h
      simp
    | succ i =>
      simp only [List.getElem?_cons_succ] at h
      simp only [List.eraseIdx_cons_succ]
      exact ((ih h).cons a).trans (.swap ..)
theorem shuffled_run {xs : List D} (hb : BoxAt S b) (hl : xs.length ≤ 1000) :
    ∃ ys S', callN (prg w) (k + 2) "_law_shuffled" "_law_shuffled" [.ref b, .lv xs] S = .ok (.lv ys) S' ∧ Fr b S S' ∧ ys.Perm xs := by
  have hbl := hb.lt
  have n1b : S.length ≠ b := by omega
  have n2b : S.length + 1 ≠ b := by omega
  have f0 : Fr b S (S ++ [.lst xs] ++ [.lst []]) := by
    rw [List.append_assoc]
    exact Fr.app hb
  have g1 : (S ++ [.lst xs] ++ [.lst []])[S.length]? = some (O.lst xs) := get_old get_app
  have g2 : (S ++ [.lst xs] ++ [.lst []])[S.length + 1]? = some (O.lst []) := by
    have := get_app (S := S ++ [O.lst xs]) (o := O.lst [])
    rw [List.length_append] at this
    exact this
  obtain ⟨σ', S', e3, rest, res, x4, rfl, f3, h1, h2, hp, hr⟩ := forRg_inv (tg := .nm 4) (lo := 0) (N := xs.length) (body := evSs (ctxOf (prg w) (k + 1)) (.cons (.expr (.meth .append (.var 3) (.cons (.meth .pop (.var 2) (.cons (.call "_law_draw" "_law_draw" (.cons (.var 0) (.cons (.blt .len (.cons (.var 2) .nil)) .nil))) .nil)) .nil))) .nil))
    (fun i σ S' => ∃ rest res x4, σ = [some (.ref b), some (.lv xs), some (.ref S.length), some (.ref (S.length + 1)), x4] ∧ Fr b S S' ∧ S'[S.length]? = some (O.lst rest) ∧ S'[S.length + 1]? = some (O.lst res) ∧ (res ++ rest).Perm xs ∧ res.length = i)
    (by
      rintro i σ S' hi ⟨rest, res, x4, rfl, f, h1, h2, hp, hr⟩
      refine ⟨_, rfl, ?_⟩
      have hlen := hp.length_eq
      rw [List.length_append] at hlen
      have hpos : 0 < rest.length := by omega
      obtain ⟨r, S1, e1, f1, q0, q1⟩ := draw_fr (w := w) (k := k) (size := ((rest.length : Nat) : Int)) f.box (by omega) (by omega)
      obtain ⟨j, rfl⟩ : ∃ j : Nat, r = j := ⟨r.toNat, by omega⟩
      have hj : j < rest.length := by omega
      have hd : rest[j]? = some rest[j] := List.getElem?_eq_getElem hj
      have k1 := f1.at h1 n1b
      have k2 := f1.at h2 n2b
      have m2 : (S1.set S.length (O.lst (rest.eraseIdx j)))[S.length + 1]? = some (O.lst res) := by rw [get_ne (by omega)]; exact k2
      have m2' : (S1.set S.length (O.lst (rest.eraseIdx j)))[S.length]? = some (O.lst (rest.eraseIdx j)) := get_set k1
      have hll : res.length < lim := by simp [lim]; omega
      have hrl : rest.length ≤ lim := by simp [lim]; omega
      refine ⟨_, _, ?_, rest.eraseIdx j, res ++ [rest[j]], some (.int (0 + (i : Int))), rfl, ?_, ?_, get_set m2, ?_, by simp [hr]⟩
      rotate_left
      · have ff := f.trans f1
        have f5 := ff.put (n := S.length) (o := .lst (rest.eraseIdx j)) (Nat.le_refl _) n1b
        exact f5.put (n := S.length + 1) (o := .lst (res ++ [rest[j]])) (by omega) n2b
      · rw [get_ne (by omega)]; exact m2'
      · refine List.Perm.trans ?_ hp
        rw [List.append_assoc]
        exact List.Perm.append_left res (perm_pop hd).symm
      · simp only [eSs_cons, eS_expr, List.set_cons_zero, List.set_cons_succ]
        rw [eE_meth, eE_var]
        simp only [varK_s, List.getElem?_cons_zero, List.getElem?_cons_succ, R.bind_ok]
        rw [methK_ref h2, eEs_cons, eE_meth, eE_var]
        simp only [varK_s, List.getElem?_cons_zero, List.getElem?_cons_succ, R.bind_ok]
        rw [methK_ref h1]
        simp only [eE_var, varK_s, eE_glob, eE_ty, eE_int, eE_str, eE_bl, eE_non, eE_bin, eE_binM, eE_cmp, eE_ix, k2_ap, eE_neg, negK_i, eE_not, notK_b, eE_chain, chK1_ap, chK3_ap, chK2_t, chK2_f, eE_and1, eE_or1, eE_and2, andK_t, andK_f, eE_or2, orK_t, orK_f, eE_ife, iteK_t, iteK_f, eE_tup, eE_lst, eE_lstM, tupK_1, tupK_2, lstK_0, lstK_1, eE_sl, slK1_ap, slK2_ap, part_no, eE_call, eE_blt, eE_bltM, bltMK_ap, thaw_lv, eE_meth, eE_lcS, eE_lcR, eE_frz, eE_rev, rev_lv, eEs_nil, eEs_cons, consK_ap, cnsK_ap, eSs_nil, eSs_cons, eS_asg, asgK_nm, eS_seti, stK1_ap, stK2_ap, stK3_ap, stK4_ap, eS_expr, expK_ap, eS_ret, rtK_ap, eS_ifs, eS_forS, eS_forR, eS_whl, eS_pass, eS_ctn, eS_brk, eS_retN, R.bind_ok, seqK_nx, seqK_rt, seqK_bk, seqK_ct, loopK_nx, loopK_rt, loopK_bk, loopK_ct, retK_nx, retK_rt, tr_bl, add_int, sub_int, cmp_eq_int, cmp_eq_str, cmp_eq_bl, cmp_ne_int, cmp_ne_str, cmp_lt_int, cmp_le_int, cmp_gt_int, cmp_ge_int, int_int, int_bl, abs_int, len_lv, len_tup, List.getElem?_cons_zero, List.getElem?_cons_succ, List.set_cons_zero, List.set_cons_succ, E.isNop, List.set_set, ctx_call, ofOpt_some, in_sign, nin_sign, all_lv, any_lv, part_f, partK_i, len_ref h1, e1, pop_ref k1 hd hrl, app_ref m2 hll])
    xs.length 0 [some (.ref b), some (.lv xs), some (.ref S.length), some (.ref (S.length + 1)), none] (S ++ [.lst xs] ++ [.lst []]) (by omega) ⟨xs, [], none, rfl, f0, g1, g2, by simp, rfl⟩
  have hrest : rest = [] := by
    have := hp.length_eq
    rw [List.length_append] at this
    exact List.length_eq_zero_iff.mp (by omega)
  subst hrest
  rw [List.append_nil] at hp
  refine ⟨res, S'.set (S.length + 1) .dead, ?_, f3.put (by omega) n2b, hp⟩
  rw [call_law_shuffled]
  unfold b_law_shuffled
  rw [eSs_cons, eS_asg]
  simp only [eE_bltM, eEs_cons, eEs_nil, eE_var, varK_s, List.getElem?_cons_zero, List.getElem?_cons_succ, R.bind_ok, consK_ap, cnsK_ap, bltMK_ap, list_lvE, thaw_lv, asgK_nm, List.set_cons_zero, List.set_cons_succ, seqK_nx]
  rw [eSs_cons, eS_asg, eE_lstM, eEs_nil, R.bind_ok, lstMK_n (by simp), R.bind_ok, asgK_nm, R.bind_ok]
  simp only [List.set_cons_zero, List.set_cons_succ, seqK_nx, List.length_append, List.length_singleton]
  rw [eSs_cons, eS_forR]
  simp only [eE_blt, eEs_cons, eEs_nil, eE_var, varK_s, List.getElem?_cons_zero, List.getElem?_cons_succ, R.bind_ok, consK_ap, cnsK_ap, len_lv]
  rw [forK1_nat (by omega), e3]
  simp only [eE_var, varK_s, eE_glob, eE_ty, eE_int, eE_str, eE_bl, eE_non, eE_bin, eE_binM, eE_cmp, eE_ix, k2_ap, eE_neg, negK_i, eE_not, notK_b, eE_chain, chK1_ap, chK3_ap, chK2_t, chK2_f, eE_and1, eE_or1, eE_and2, andK_t, andK_f, eE_or2, orK_t, orK_f, eE_ife, iteK_t, iteK_f, eE_tup, eE_lst, eE_lstM, tupK_1, tupK_2, lstK_0, lstK_1, eE_sl, slK1_ap, slK2_ap, part_no, eE_call, eE_blt, eE_bltM, bltMK_ap, thaw_lv, eE_meth, eE_lcS, eE_lcR, eE_frz, eE_rev, rev_lv, eEs_nil, eEs_cons, consK_ap, cnsK_ap, eSs_nil, eSs_cons, eS_asg, asgK_nm, eS_seti, stK1_ap, stK2_ap, stK3_ap, stK4_ap, eS_expr, expK_ap, eS_ret, rtK_ap, eS_ifs, eS_forS, eS_forR, eS_whl, eS_pass, eS_ctn, eS_brk, eS_retN, R.bind_ok, seqK_nx, seqK_rt, seqK_bk, seqK_ct, loopK_nx, loopK_rt, loopK_bk, loopK_ct, retK_nx, retK_rt, tr_bl, add_int, sub_int, cmp_eq_int, cmp_eq_str, cmp_eq_bl, cmp_ne_int, cmp_ne_str, cmp_lt_int, cmp_le_int, cmp_gt_int, cmp_ge_int, int_int, int_bl, abs_int, len_lv, len_tup, List.getElem?_cons_zero, List.getElem?_cons_succ, List.set_cons_zero, List.set_cons_succ, E.isNop, List.set_set, ctx_call, ofOpt_some, in_sign, nin_sign, all_lv, any_lv, part_f, partK_i, frz_ref h2]
/-! ### names -/
def sgn : Str := "abcdefghijklmnopqrstuvwxyz0123456789_"
theorem sgn_len : sgn.cps.toList.length = 37 := by decide +kernel
theorem sgn_ok : ∀ c, c ∈ sgn.cps.toList → c < 0x110000 := by decide +kernel
theorem sgn_at {r : Int} (h0 : 0 ≤ r) (h1 : r < 37) (S : Sto) : ∃ c, c ∈ sgn.cps.toList ∧ ixD (.str sgn) (.int r) S = .ok (.str ⟨#[c]⟩) S := by
  obtain ⟨n, rfl⟩ : ∃ n : Nat, r = n := ⟨r.toNat, by omega⟩
  have hn : n < sgn.cps.toList.length := by rw [sgn_len]; omega
  exact ⟨sgn.cps.toList[n], List.getElem_mem hn, ix_st (by decide +kernel) (atI_nat (List.getElem?_eq_getElem hn)) S⟩
theorem strOk_iff (x : Str) : PyData.strOk x = true ↔ ∀ c, c ∈ x.cps.toList → c < 0x110000 := by
  unfold PyData.strOk
  rw [← Array.all_toList, List.all_eq_true]
  simp
theorem strOk_app {x y : Str} (h1 : PyData.strOk x = true) (h2 : PyData.strOk y = true) : PyData.strOk (x ++ y) = true := by
  rw [strOk_iff] at *
  intro c hc
  rw [str_list, List.mem_append] at hc
  rcases hc with hc | hc
  · exact h1 c hc
  · exact h2 c hc
theorem strOk_cut {x : Str} {lo hi : Option Int} (h : PyData.strOk x = true) : PyData.strOk (cutS x lo hi) = true := by
  rw [strOk_iff] at *
  intro c hc
  rw [cutS_list] at hc
  exact h c (List.mem_of_mem_drop (List.mem_of_mem_take hc))
theorem strOk_one {c : Nat} (h : c < 0x110000) : PyData.strOk ⟨#[c]⟩ = true := by
  rw [strOk_iff]
  intro d hd
  simp at hd
  omega
/-- the taken names -/
inductive Tk (S : Sto) : D → List Str → Prop where
  | lv (l : List Str) : Tk S (.lv (sl l)) l
  | ref {n : Nat} {l : List Str} (h : S[n]? = some (.lst (sl l))) : Tk S (.ref n) l
theorem Tk.set {d : D} {l : List Str} {o : O} (h : Tk S d l) (hb : d ≠ .ref b) : Tk (S.set b o) d l := by
  cases h with
  | lv => exact .lv l
  | ref h => exact .ref (by rw [get_ne (fun e => hb (by rw [e]))]; exact h)
theorem Tk.nin {d : D} {l : List Str} (h : Tk S d l) (t : Str) : cmpD .nin (.str t) d S = .ok (.bl (!decide (t ∈ l))) S := by
  cases h with
  | lv => exact nin_lv t l S
  | @ref n _ h =>
    have e : inD S (.str t) (.ref n) = some (decide (t ∈ l)) := by
      have h1 := inV_strs t l
      have h2 := flat_strs l
      have hi : items S (.ref n) = some (l.map D.str) := by simp [items, h, sl]
      unfold inD
      simp only [hi]
      rw [if_pos (by rw [h2]; rfl)]
      exact congrArg some h1
    simp only [cmpD, cmpO, e, Option.map_some, ofOpt_some, R.bind_ok]
theorem Tk.len {d : D} {l : List Str} (h : Tk S d l) : bltD .len [d] S = .ok (.int ((l.length : Nat) : Int)) S := by
  cases h with
  | lv => rw [len_lv, sl_len]
  | ref h => rw [len_ref h, sl_len]
theorem Tk.add {d : D} {l m : List Str} (h : Tk S d l) (hl : l.length + m.length ≤ lim) : binD .add d (.lv (sl m)) S = .ok (.lv (sl (l ++ m))) S := by
  have e : (sl l).length + (sl m).length ≤ lim := by rw [sl_len, sl_len]; exact hl
  cases h with
  | lv => rw [add_lv e, sl_app]
  | ref h => simp only [binD, Ev.listOf, h, e, if_true, sl_app]
theorem nodup_le : ∀ {l m : List Str}, l.Nodup → (∀ x, x ∈ l → x ∈ m) → l.length ≤ m.length
  | [], _, _, _ => by simp
  | a :: r, m, hn, hs => by
    rw [List.nodup_cons] at hn
    have ha : a ∈ m := hs a List.mem_cons_self
    have := nodup_le (l := r) (m := m.erase a) hn.2 fun x hx => (List.mem_erase_of_ne (fun (e : x = a) => hn.1 (by rw [← e]; exact hx))).mpr (hs x (List.mem_cons_of_mem _ hx))
    rw [List.length_erase_of_mem ha] at this
    have hp : 0 < m.length := List.length_pos_of_mem ha
    simp only [List.length_cons]
    omega
def ot (t : Str) (i : Nat) : Str := cutS t none (some 9) ++ "z" ++ (toString ((i : Nat) : Int) : String)
theorem digits_inj : ∀ i j : Fin 40, ((toString ((i.1 : Nat) : Int) : String) : Str) = ((toString ((j.1 : Nat) : Int) : String) : Str) → i = j := by decide +kernel
theorem digits_ok : ∀ i : Fin 40, PyData.strOk ((toString ((i.1 : Nat) : Int) : String) : Str) = true ∧ ((toString ((i.1 : Nat) : Int) : String) : Str).length ≤ 2 := by decide +kernel
theorem ot_inj {t : Str} {i j : Nat} (hi : i < 40) (hj : j < 40) (h : ot t i = ot t j) : i = j := by
  have h2 := congrArg (fun z : Str => z.cps.toList) h
  simp only [ot, str_list] at h2
  have h3 := List.append_cancel_left h2
  have h4 : ((toString ((i : Nat) : Int) : String) : Str) = ((toString ((j : Nat) : Int) : String) : Str) := by
    have : ∀ x y : Str, x.cps.toList = y.cps.toList → x = y := by
      rintro ⟨⟨x⟩⟩ ⟨⟨y⟩⟩ h
      simp at h
      subst h
      rfl
    exact this _ _ h3
  have := digits_inj ⟨i, hi⟩ ⟨j, hj⟩ h4
  exact congrArg Fin.val this
theorem ot_free {t : Str} {l : List Str} (hl : l.length ≤ 30) : ∃ i, i < l.length + 1 ∧ ot t i ∉ l := by
  by_cases h : ∃ i, i < l.length + 1 ∧ ot t i ∉ l
  · exact h
  · exfalso
    have hall : ∀ x, x ∈ (List.range (l.length + 1)).map (ot t) → x ∈ l := by
      intro x hx
      obtain ⟨i, hi, rfl⟩ := List.mem_map.mp hx
      rw [List.mem_range] at hi
      by_cases q : ot t i ∈ l
      · exact q
      · exact absurd ⟨i, hi, q⟩ h
    have nd : ((List.range (l.length + 1)).map (ot t)).Nodup := by
      rw [List.nodup_iff_pairwise_ne, List.pairwise_map]
      have : (List.range (l.length + 1)).Pairwise fun a b => a < b := List.pairwise_lt_range
      refine List.Pairwise.imp_of_mem ?_ this
      intro a b ha hb hab e
      rw [List.mem_range] at ha hb
      have := ot_inj (by omega) (by omega) e
      omega
    have := nodup_le nd hall
    simp at this
    omega
theorem ot_len (t : Str) {i : Nat} (hi : i < 40) : (ot t i).length ≤ 12 := by
  unfold ot
  rw [str_len, str_len]
  have h1 := (digits_ok ⟨i, hi⟩).2
  have h2 : (cutS t none (some 9)).length ≤ 9 := by
    have : (cutS t none (some 9)).cps.toList.length ≤ 9 := by
      rw [cutS_list, List.length_take]
      have : HT.sIx t.length t.length (some 9) ≤ 9 := by
        have e : (9 : Int) = ((9 : Nat) : Int) := rfl
        rw [e]
        by_cases h : 9 ≤ t.length
        · rw [six_nat _ _ _ h]; exact Nat.le_refl _
        · unfold HT.sIx
          simp
          omega
      omega
    simpa [Str.length] using this
  have h3 : ("z" : Str).length = 1 := by decide +kernel
  simp only at h1
  omega
theorem str_run {i : Nat} (hi : i < 40) (S : Sto) : bltD .str [.int ((i : Nat) : Int)] S = .ok (.str ((toString ((i : Nat) : Int) : String) : Str)) S := by
  have : ((i : Nat) : Int).natAbs.log2 < 1920 := by
    have : ∀ i : Fin 40, ((i.1 : Nat) : Int).natAbs.log2 < 1920 := by decide
    exact this ⟨i, hi⟩
  simp only [bltD, strD, this, if_true]
theorem pw11 : ∃ P : Int, 0 < P ∧ P < 2 ^ 200 ∧ ∀ S : Sto, binD .pow (.int 37) (.int 11) S = .ok (.int P) S :=
  ⟨37 ^ 11, by decide, by decide, fun S => pow_int (by decide) S⟩
def rsvN : List Str := ["all", "and", "in", "is", "none", "not", "or", "rule", "zero", "range", "fuse"]
def szs : List Nat := [1, 1, 2, 2, 3, 3, 4, 5, 6, 8, 11, 12]
theorem name_run {d : D} {l : List Str} (hb : BoxAt S b) (ht : Tk S d l) (hd : d ≠ .ref b) (hl : l.length ≤ 30) :
    ∃ t o, callN (prg w) (k + 2) "_law_name" "_law_name" [.ref b, d] S = .ok (.str t) (S.set b o) ∧ IsBox o ∧ PyData.strOk t = true ∧ t.length ≤ 12 ∧ t ∉ l := by
  obtain ⟨r1, o1, e1, b1, q1, q2⟩ := draw_run (w := w) (k := k) (size := 12) hb (by decide) (by decide)
  obtain ⟨P, p0, p1, hP⟩ := pw11
  obtain ⟨r2, o2, e2, b2, q3, q4⟩ := draw_run (w := w) (k := k) (size := 26 * P) (hb.set b1) (by omega) (by omega)
  rw [List.set_set] at e2
  clear q4
  have hz : ∀ S : Sto, lstK [.int 1, .int 1, .int 2, .int 2, .int 3, .int 3, .int 4, .int 5, .int 6, .int 8, .int 11, .int 12] S = .ok (.lv (szs.map fun (n : Nat) => D.int n)) S := fun S => lstK_n (by decide)
  obtain ⟨dd, hdd, hat⟩ := atI_ex (xs := szs.map fun (n : Nat) => D.int n) q1 (by simpa [szs] using q2)
  obtain ⟨n, hn, rfl⟩ := List.mem_map.mp hdd
  have hn12 : 1 ≤ n ∧ n ≤ 12 := by
    have : ∀ n, n ∈ szs → 1 ≤ n ∧ n ≤ 12 := by decide
    exact this n hn
  obtain ⟨c0, hc0, ec0⟩ := sgn_at (r := r2 % 26) (Int.emod_nonneg _ (by omega)) (by have := Int.emod_lt_of_pos r2 (show (0 : Int) < 26 by omega); omega) (S.set b o2)
  have ht2 := ht.set (o := o2) hd
  obtain ⟨σ', S', e3, t, rest, x6, rfl, rfl, hok, htl, hr⟩ := forRg_inv (tg := .nm 6) (lo := 0) (N := n - 1) (body := evSs (ctxOf (prg w) (k + 1)) (.cons (.asg (.nm 5) (.bin .add (.var 5) (.ix (.var 2) (.bin .mod (.blt .int (.cons (.bin .add (.var 4) (.var 6)) .nil)) (.cint 37)))))
    (.cons (.asg (.nm 4) (.bin .fdiv (.var 4) (.cint 37)))
    .nil)))
    (fun i σ S' => ∃ t rest x6, σ = [some (.ref b), some d, some (.str sgn), some (.int n), some (.int rest), some (.str t), x6, none, none] ∧ S' = S.set b o2 ∧ PyData.strOk t = true ∧ t.length = i + 1 ∧ 0 ≤ rest)
    (by
      rintro i σ S' hi ⟨t, rest, x6, rfl, rfl, hok, hl, hr⟩
      refine ⟨_, rfl, ?_⟩
      obtain ⟨c, hc, ec⟩ := sgn_at (r := (rest + (0 + (i : Int))) % 37) (Int.emod_nonneg _ (by omega)) (by have := Int.emod_lt_of_pos (rest + (0 + (i : Int))) (show (0 : Int) < 37 by omega); omega) (S.set b o2)
      refine ⟨_, _, ?_, t ++ ⟨#[c]⟩, rest / 37, some (.int (0 + (i : Int))), rfl, rfl, strOk_app hok (strOk_one (sgn_ok c hc)), by rw [str_len, one_len, hl], Int.ediv_nonneg hr (by omega)⟩
      simp only [eE_var, varK_s, eE_glob, eE_ty, eE_int, eE_str, eE_bl, eE_non, eE_bin, eE_binM, eE_cmp, eE_ix, k2_ap, eE_neg, negK_i, eE_not, notK_b, eE_chain, chK1_ap, chK3_ap, chK2_t, chK2_f, eE_and1, eE_or1, eE_and2, andK_t, andK_f, eE_or2, orK_t, orK_f, eE_ife, iteK_t, iteK_f, eE_tup, eE_lst, eE_lstM, tupK_1, tupK_2, lstK_0, lstK_1, eE_sl, slK1_ap, slK2_ap, part_no, eE_call, eE_blt, eE_bltM, bltMK_ap, thaw_lv, eE_meth, eE_lcS, eE_lcR, eE_frz, eE_rev, rev_lv, eEs_nil, eEs_cons, consK_ap, cnsK_ap, eSs_nil, eSs_cons, eS_asg, asgK_nm, eS_seti, stK1_ap, stK2_ap, stK3_ap, stK4_ap, eS_expr, expK_ap, eS_ret, rtK_ap, eS_ifs, eS_forS, eS_forR, eS_whl, eS_pass, eS_ctn, eS_brk, eS_retN, R.bind_ok, seqK_nx, seqK_rt, seqK_bk, seqK_ct, loopK_nx, loopK_rt, loopK_bk, loopK_ct, retK_nx, retK_rt, tr_bl, add_int, sub_int, cmp_eq_int, cmp_eq_str, cmp_eq_bl, cmp_ne_int, cmp_ne_str, cmp_lt_int, cmp_le_int, cmp_gt_int, cmp_ge_int, int_int, int_bl, abs_int, len_lv, len_tup, List.getElem?_cons_zero, List.getElem?_cons_succ, List.set_cons_zero, List.set_cons_succ, E.isNop, List.set_set, ctx_call, ofOpt_some, in_sign, nin_sign, all_lv, any_lv, part_f, partK_i, mod_int (show (0 : Int) < 37 by decide), ec, add_str (show t.length + (⟨#[c]⟩ : Str).length ≤ lim by rw [one_len, hl]; simp [lim]; omega), fdiv_int (show (0 : Int) < 37 by decide) (show (37 : Int).natAbs.log2 < 9000 by decide)])
    (n - 1) 0 [some (.ref b), some d, some (.str sgn), some (.int n), some (.int (r2 / 26)), some (.str ⟨#[c0]⟩), none, none, none] (S.set b o2) (by omega) ⟨_, _, none, rfl, rfl, strOk_one (sgn_ok c0 hc0), one_len c0, Int.ediv_nonneg q3 (by omega)⟩
  have htl12 : t.length ≤ 12 := by omega
  have hsub : ((n : Nat) : Int) - 1 = ((n - 1 : Nat) : Int) := by omega
  have hlr : ∀ S : Sto, lstK [.str "all", .str "and", .str "in", .str "is", .str "none", .str "not", .str "or", .str "rule", .str "zero", .str "range", .str "fuse"] S = .ok (.lv (sl rsvN)) S := fun S => lstK_n (by decide)
  have hadd := ht2.add (m := rsvN) (by simp [rsvN, lim]; omega)
  have body : ∃ t' : Str, callN (prg w) (k + 2) "_law_name" "_law_name" [.ref b, d] S = .ok (.str t') (S.set b o2) ∧ PyData.strOk t' = true ∧ t'.length ≤ 12 ∧ t' ∉ l := by
    rw [call_law_name]
    unfold b_law_name
    have sg : Str.ofString "abcdefghijklmnopqrstuvwxyz0123456789_" = sgn := rfl
    rw [eSs_cons, eS_asg, eE_str, R.bind_ok, asgK_nm, R.bind_ok, seqK_nx, sg]
    simp only [List.set_cons_zero, List.set_cons_succ]
    rw [eSs_cons, eS_asg]
    simp only [eE_ix, eE_lst, eE_int, eE_call, eE_var, varK_s, eEs_cons, eEs_nil, R.bind_ok, consK_ap, cnsK_ap, List.getElem?_cons_zero, List.getElem?_cons_succ, ctx_call, hz, k2_ap, e1, ix_lv hat, asgK_nm, List.set_cons_zero, List.set_cons_succ, seqK_nx]
    rw [eSs_cons, eS_asg]
    simp only [eE_bin, eE_int, eE_call, eE_var, varK_s, eEs_cons, eEs_nil, R.bind_ok, consK_ap, cnsK_ap, List.getElem?_cons_zero, List.getElem?_cons_succ, ctx_call, hP, mul_int (cmul_l (i := 26) (by decide)), k2_ap, e2, asgK_nm, List.set_cons_zero, List.set_cons_succ, seqK_nx]
    rw [eSs_cons, eS_asg]
    simp only [eE_ix, eE_bin, eE_blt, eE_int, eE_var, varK_s, eEs_cons, eEs_nil, R.bind_ok, consK_ap, cnsK_ap, List.getElem?_cons_zero, List.getElem?_cons_succ, k2_ap, int_int, mod_int (show (0 : Int) < 26 by decide), ec0, asgK_nm, List.set_cons_zero, List.set_cons_succ, seqK_nx]
    rw [eSs_cons, eS_asg]
    simp only [eE_bin, eE_int, eE_var, varK_s, R.bind_ok, List.getElem?_cons_zero, List.getElem?_cons_succ, k2_ap, fdiv_int (show (0 : Int) < 26 by decide) (show (26 : Int).natAbs.log2 < 9000 by decide), asgK_nm, List.set_cons_zero, List.set_cons_succ, seqK_nx]
    rw [eSs_cons, eS_forR]
    simp only [eE_bin, eE_int, eE_var, varK_s, R.bind_ok, List.getElem?_cons_zero, List.getElem?_cons_succ, k2_ap, sub_int, hsub]
    rw [forK1_nat (by omega), e3, R.bind_ok, seqK_nx, eSs_cons, eS_ifs]
    simp only [eE_cmp, eE_bin, eE_lst, eE_str, eE_var, varK_s, eEs_cons, eEs_nil, R.bind_ok, consK_ap, cnsK_ap, List.getElem?_cons_zero, List.getElem?_cons_succ, k2_ap, hlr, hadd, (Tk.lv (S := S.set b o2) (l ++ rsvN)).nin t, tr_bl]
    by_cases hin : t ∈ l ++ rsvN
    · simp only [decide_eq_true hin, Bool.not_true, iteK_f, eSs_nil, R.bind_ok, seqK_nx]
      obtain ⟨i0, hi0, hfree⟩ := ot_free (t := t) hl
      have e7 := lcK1_pure (tg := .nm 6) (σ := [some (.ref b), some d, some (.str sgn), some (.int n), some (.int rest), some (.str t), x6, none, none]) (S := S.set b o2) (n := l.length + 1)
        (cond := evE (ctxOf (prg w) (k + 1)) (.cbl true)) (elt := evE (ctxOf (prg w) (k + 1)) (.bin .add (.bin .add (.sl (.var 5) .nop (.cint 9)) (.cstr "z")) (.blt .str (.cons (.var 6) .nil)))) (fun i => D.str (ot t i)) (by simp [lim]; omega)
        (by
          intro i hi
          refine ⟨_, rfl, eE_bl, ?_⟩
          have hi40 : i < 40 := by omega
          have e0 : (0 + (i : Int)) = ((i : Nat) : Int) := by omega
          have hc9 : (cutS t none (some 9)).length ≤ 12 := Nat.le_trans (cutS_len _ _ _) htl12
          have hz1 : ("z" : Str).length = 1 := by decide +kernel
          have a1 : (cutS t none (some 9)).length + ("z" : Str).length ≤ lim := by rw [hz1]; simp [lim]; omega
          have a2 : (cutS t none (some 9) ++ "z").length + ((toString ((i : Nat) : Int) : String) : Str).length ≤ lim := by
            have := (digits_ok ⟨i, hi40⟩).2
            simp only at this
            have hL : 100 ≤ lim := by decide
            rw [str_len, hz1]
            omega
          simp only [Tg.slots, wipeD]
          simp only [eE_var, varK_s, eE_glob, eE_ty, eE_int, eE_str, eE_bl, eE_non, eE_bin, eE_binM, eE_cmp, eE_ix, k2_ap, eE_neg, negK_i, eE_not, notK_b, eE_chain, chK1_ap, chK3_ap, chK2_t, chK2_f, eE_and1, eE_or1, eE_and2, andK_t, andK_f, eE_or2, orK_t, orK_f, eE_ife, iteK_t, iteK_f, eE_tup, eE_lst, eE_lstM, tupK_1, tupK_2, lstK_0, lstK_1, eE_sl, slK1_ap, slK2_ap, part_no, eE_call, eE_blt, eE_bltM, bltMK_ap, thaw_lv, eE_meth, eE_lcS, eE_lcR, eE_frz, eE_rev, rev_lv, eEs_nil, eEs_cons, consK_ap, cnsK_ap, eSs_nil, eSs_cons, eS_asg, asgK_nm, eS_seti, stK1_ap, stK2_ap, stK3_ap, stK4_ap, eS_expr, expK_ap, eS_ret, rtK_ap, eS_ifs, eS_forS, eS_forR, eS_whl, eS_pass, eS_ctn, eS_brk, eS_retN, R.bind_ok, seqK_nx, seqK_rt, seqK_bk, seqK_ct, loopK_nx, loopK_rt, loopK_bk, loopK_ct, retK_nx, retK_rt, tr_bl, add_int, sub_int, cmp_eq_int, cmp_eq_str, cmp_eq_bl, cmp_ne_int, cmp_ne_str, cmp_lt_int, cmp_le_int, cmp_gt_int, cmp_ge_int, int_int, int_bl, abs_int, len_lv, len_tup, List.getElem?_cons_zero, List.getElem?_cons_succ, List.set_cons_zero, List.set_cons_succ, E.isNop, List.set_set, ctx_call, ofOpt_some, in_sign, nin_sign, all_lv, any_lv, part_f, partK_i, sl_strD (show t.length ≤ lim by simp [lim]; omega), add_str a1, e0, str_run hi40, add_str a2]
          rfl)
      have hlen : ((l.length : Nat) : Int) + 1 = ((l.length + 1 : Nat) : Int) := by omega
      rw [eSs_cons, eS_asg, eE_lcR]
      simp only [eE_bin, eE_blt, eE_int, eE_var, varK_s, eEs_cons, eEs_nil, R.bind_ok, consK_ap, cnsK_ap, List.getElem?_cons_zero, List.getElem?_cons_succ, k2_ap, ht2.len, add_int, hlen]
      rw [e7]
      simp only [R.bind_ok, asgK_nm, List.set_cons_zero, List.set_cons_succ, seqK_nx]
      have hi8 : items (S.set b o2) (.lv ((List.range (l.length + 1)).map fun i => D.str (ot t i))) = some ((List.range (l.length + 1)).map fun i => D.str (ot t i)) := rfl
      have e8 := lcK_pure (tg := .nm 8) (σ := [some (.ref b), some d, some (.str sgn), some (.int n), some (.int rest), some (.str t), x6, some (.lv ((List.range (l.length + 1)).map fun i => D.str (ot t i))), none]) (S := S.set b o2)
        (cond := evE (ctxOf (prg w) (k + 1)) (.cmp .nin (.var 8) (.var 1))) (elt := evE (ctxOf (prg w) (k + 1)) (.var 8)) (fun x => match x with | .str y => !decide (y ∈ l) | _ => false) (fun x => x) hi8 (by simp [lim]; omega)
        (by
          intro x hx
          obtain ⟨i, _, rfl⟩ := List.mem_map.mp hx
          refine ⟨_, rfl, ?_, fun _ => ?_⟩
          · simp only [Tg.slots, wipeD]
            simp only [eE_var, varK_s, eE_glob, eE_ty, eE_int, eE_str, eE_bl, eE_non, eE_bin, eE_binM, eE_cmp, eE_ix, k2_ap, eE_neg, negK_i, eE_not, notK_b, eE_chain, chK1_ap, chK3_ap, chK2_t, chK2_f, eE_and1, eE_or1, eE_and2, andK_t, andK_f, eE_or2, orK_t, orK_f, eE_ife, iteK_t, iteK_f, eE_tup, eE_lst, eE_lstM, tupK_1, tupK_2, lstK_0, lstK_1, eE_sl, slK1_ap, slK2_ap, part_no, eE_call, eE_blt, eE_bltM, bltMK_ap, thaw_lv, eE_meth, eE_lcS, eE_lcR, eE_frz, eE_rev, rev_lv, eEs_nil, eEs_cons, consK_ap, cnsK_ap, eSs_nil, eSs_cons, eS_asg, asgK_nm, eS_seti, stK1_ap, stK2_ap, stK3_ap, stK4_ap, eS_expr, expK_ap, eS_ret, rtK_ap, eS_ifs, eS_forS, eS_forR, eS_whl, eS_pass, eS_ctn, eS_brk, eS_retN, R.bind_ok, seqK_nx, seqK_rt, seqK_bk, seqK_ct, loopK_nx, loopK_rt, loopK_bk, loopK_ct, retK_nx, retK_rt, tr_bl, add_int, sub_int, cmp_eq_int, cmp_eq_str, cmp_eq_bl, cmp_ne_int, cmp_ne_str, cmp_lt_int, cmp_le_int, cmp_gt_int, cmp_ge_int, int_int, int_bl, abs_int, len_lv, len_tup, List.getElem?_cons_zero, List.getElem?_cons_succ, List.set_cons_zero, List.set_cons_succ, E.isNop, List.set_set, ctx_call, ofOpt_some, in_sign, nin_sign, all_lv, any_lv, part_f, partK_i, ht2.nin]
          · simp only [Tg.slots, wipeD]
            simp only [eE_var, varK_s, eE_glob, eE_ty, eE_int, eE_str, eE_bl, eE_non, eE_bin, eE_binM, eE_cmp, eE_ix, k2_ap, eE_neg, negK_i, eE_not, notK_b, eE_chain, chK1_ap, chK3_ap, chK2_t, chK2_f, eE_and1, eE_or1, eE_and2, andK_t, andK_f, eE_or2, orK_t, orK_f, eE_ife, iteK_t, iteK_f, eE_tup, eE_lst, eE_lstM, tupK_1, tupK_2, lstK_0, lstK_1, eE_sl, slK1_ap, slK2_ap, part_no, eE_call, eE_blt, eE_bltM, bltMK_ap, thaw_lv, eE_meth, eE_lcS, eE_lcR, eE_frz, eE_rev, rev_lv, eEs_nil, eEs_cons, consK_ap, cnsK_ap, eSs_nil, eSs_cons, eS_asg, asgK_nm, eS_seti, stK1_ap, stK2_ap, stK3_ap, stK4_ap, eS_expr, expK_ap, eS_ret, rtK_ap, eS_ifs, eS_forS, eS_forR, eS_whl, eS_pass, eS_ctn, eS_brk, eS_retN, R.bind_ok, seqK_nx, seqK_rt, seqK_bk, seqK_ct, loopK_nx, loopK_rt, loopK_bk, loopK_ct, retK_nx, retK_rt, tr_bl, add_int, sub_int, cmp_eq_int, cmp_eq_str, cmp_eq_bl, cmp_ne_int, cmp_ne_str, cmp_lt_int, cmp_le_int, cmp_gt_int, cmp_ge_int, int_int, int_bl, abs_int, len_lv, len_tup, List.getElem?_cons_zero, List.getElem?_cons_succ, List.set_cons_zero, List.set_cons_succ, E.isNop, List.set_set, ctx_call, ofOpt_some, in_sign, nin_sign, all_lv, any_lv, part_f, partK_i])
      rw [eSs_cons, eS_ret, eE_ix, eE_lcS]
      simp only [eE_var, varK_s, List.getElem?_cons_zero, List.getElem?_cons_succ, R.bind_ok]
      rw [e8]
      have hne : ∃ y ys, (((List.range (l.length + 1)).map fun i => D.str (ot t i)).filter (fun x => match x with | .str y => !decide (y ∈ l) | _ => false)).map (fun x => x) = y :: ys := by
        have hm : D.str (ot t i0) ∈ ((List.range (l.length + 1)).map fun i => D.str (ot t i)).filter (fun x => match x with | .str y => !decide (y ∈ l) | _ => false) := by
          rw [List.mem_filter]
          exact ⟨List.mem_map.mpr ⟨i0, List.mem_range.mpr hi0, rfl⟩, by simp [hfree]⟩
        cases hq : ((List.range (l.length + 1)).map fun i => D.str (ot t i)).filter (fun x => match x with | .str y => !decide (y ∈ l) | _ => false) with
        | nil => rw [hq] at hm; simp at hm
        | cons y ys => exact ⟨y, ys, by simp⟩
      obtain ⟨y, ys, hy⟩ := hne
      have hmem : y ∈ ((List.range (l.length + 1)).map fun i => D.str (ot t i)).filter (fun x => match x with | .str y => !decide (y ∈ l) | _ => false) := by
        rw [List.map_id'] at hy
        rw [hy]
        exact List.mem_cons_self
      rw [List.mem_filter] at hmem
      obtain ⟨hm1, hm2⟩ := hmem
      obtain ⟨i, hi, rfl⟩ := List.mem_map.mp hm1
      rw [List.mem_range] at hi
      rw [hy]
      have hix : ixD (.lv (D.str (ot t i) :: ys)) (.int 0) (S.set b o2) = .ok (.str (ot t i)) (S.set b o2) := ix_lv (atI_nat (j := 0) rfl) _
      simp only [R.bind_ok, k2_ap, eE_int, hix, rtK_ap, seqK_rt, retK_rt]
      refine ⟨_, rfl, ?_, ot_len t (by omega), by simpa using hm2⟩
      exact strOk_app (strOk_app (strOk_cut hok) (by decide +kernel)) (digits_ok ⟨i, by omega⟩).1
    · simp only [decide_eq_false hin, Bool.not_false, iteK_t, eSs_cons, eS_ret, eE_var, varK_s, List.getElem?_cons_zero, List.getElem?_cons_succ, R.bind_ok, rtK_ap, seqK_rt, retK_rt]
      exact ⟨t, rfl, hok, htl12, fun h => hin (List.mem_append_left _ h)⟩
  obtain ⟨t', h1, h2, h3, h4⟩ := body
  exact ⟨t', o2, h1, b2, h2, h3, h4⟩
theorem names_run {many : Nat} (hb : BoxAt S b) (hm : many ≤ 20) :
    ∃ l S', callN (prg w) (k + 3) "_law_names" "_law_names" [.ref b, .int ((many : Nat) : Int)] S = .ok (.lv (sl l)) S' ∧ Fr b S S' ∧ l.length = many ∧ (∀ x, x ∈ l → PyData.strOk x = true ∧ x.length ≤ 12) ∧ l.Nodup := by
  have hbl := hb.lt
  have n1b : S.length ≠ b := by omega
  obtain ⟨σ', S', e3, l, x3, rfl, f3, h1, hl, hok, hnd⟩ := forRg_inv (tg := .nm 3) (lo := 0) (N := many) (body := evSs (ctxOf (prg w) (k + 2)) (.cons (.expr (.meth .append (.var 2) (.cons (.call "_law_name" "_law_name" (.cons (.var 0) (.cons (.var 2) .nil))) .nil))) .nil))
    (fun i σ S' => ∃ l x3, σ = [some (.ref b), some (.int ((many : Nat) : Int)), some (.ref S.length), x3] ∧ Fr b S S' ∧ S'[S.length]? = some (O.lst (sl l)) ∧ l.length = i ∧ (∀ x, x ∈ l → PyData.strOk x = true ∧ x.length ≤ 12) ∧ l.Nodup)
    (by
      rintro i σ S' hi ⟨l, x3, rfl, f, h1, hl, hok, hnd⟩
      refine ⟨_, rfl, ?_⟩
      obtain ⟨t, o, e, bo, t1, t2, t3⟩ := name_run (w := w) (k := k) (d := .ref S.length) (l := l) f.box (.ref h1) (fun h => n1b (by cases h; rfl)) (by omega)
      have k1 : (S'.set b o)[S.length]? = some (O.lst (sl l)) := by rw [get_ne (fun h => n1b h.symm)]; exact h1
      have hll : (sl l).length < lim := by rw [sl_len]; simp [lim]; omega
      refine ⟨_, _, ?_, l ++ [t], some (.int (0 + (i : Int))), rfl, ((f.trans (Fr.set f.box bo)).put (n := S.length) (o := .lst (sl (l ++ [t]))) (Nat.le_refl _) n1b), get_set k1, by simp [hl], ?_, ?_⟩
      · simp only [eSs_cons, eS_expr, List.set_cons_zero, List.set_cons_succ]
        rw [eE_meth, eE_var]
        simp only [varK_s, List.getElem?_cons_zero, List.getElem?_cons_succ, R.bind_ok]
        rw [methK_ref h1]
        have es : sl (l ++ [t]) = sl l ++ [.str t] := by simp [sl]
        rw [es]
        simp only [eE_var, varK_s, eE_glob, eE_ty, eE_int, eE_str, eE_bl, eE_non, eE_bin, eE_binM, eE_cmp, eE_ix, k2_ap, eE_neg, negK_i, eE_not, notK_b, eE_chain, chK1_ap, chK3_ap, chK2_t, chK2_f, eE_and1, eE_or1, eE_and2, andK_t, andK_f, eE_or2, orK_t, orK_f, eE_ife, iteK_t, iteK_f, eE_tup, eE_lst, eE_lstM, tupK_1, tupK_2, lstK_0, lstK_1, eE_sl, slK1_ap, slK2_ap, part_no, eE_call, eE_blt, eE_bltM, bltMK_ap, thaw_lv, eE_meth, eE_lcS, eE_lcR, eE_frz, eE_rev, rev_lv, eEs_nil, eEs_cons, consK_ap, cnsK_ap, eSs_nil, eSs_cons, eS_asg, asgK_nm, eS_seti, stK1_ap, stK2_ap, stK3_ap, stK4_ap, eS_expr, expK_ap, eS_ret, rtK_ap, eS_ifs, eS_forS, eS_forR, eS_whl, eS_pass, eS_ctn, eS_brk, eS_retN, R.bind_ok, seqK_nx, seqK_rt, seqK_bk, seqK_ct, loopK_nx, loopK_rt, loopK_bk, loopK_ct, retK_nx, retK_rt, tr_bl, add_int, sub_int, cmp_eq_int, cmp_eq_str, cmp_eq_bl, cmp_ne_int, cmp_ne_str, cmp_lt_int, cmp_le_int, cmp_gt_int, cmp_ge_int, int_int, int_bl, abs_int, len_lv, len_tup, List.getElem?_cons_zero, List.getElem?_cons_succ, List.set_cons_zero, List.set_cons_succ, E.isNop, List.set_set, ctx_call, ofOpt_some, in_sign, nin_sign, all_lv, any_lv, part_f, partK_i, e, app_ref k1 hll]
      · intro x hx
        rw [List.mem_append, List.mem_singleton] at hx
        rcases hx with hx | rfl
        · exact hok x hx
        · exact ⟨t1, t2⟩
      · rw [List.nodup_append]
        refine ⟨hnd, by simp, fun a ha c hc => ?_⟩
        simp at hc
        subst hc
        exact fun e => t3 (e ▸ ha))
    many 0 [some (.ref b), some (.int ((many : Nat) : Int)), some (.ref S.length), none] (S ++ [.lst []]) (by omega) ⟨[], none, rfl, Fr.app hb, get_app, rfl, fun x hx => by simp at hx, List.nodup_nil⟩
  refine ⟨l, S'.set S.length .dead, ?_, f3.put (Nat.le_refl _) n1b, hl, hok, hnd⟩
  rw [call_law_names]
  unfold b_law_names
  rw [eSs_cons, eS_asg, eE_lstM, eEs_nil, R.bind_ok, lstMK_n (by simp), R.bind_ok, asgK_nm, R.bind_ok]
  simp only [List.set_cons_zero, List.set_cons_succ, seqK_nx]
  rw [eSs_cons, eS_forR]
  simp only [eE_var, varK_s, List.getElem?_cons_zero, List.getElem?_cons_succ, R.bind_ok]
  rw [forK1_nat (by omega), e3]
  simp only [eE_var, varK_s, eE_glob, eE_ty, eE_int, eE_str, eE_bl, eE_non, eE_bin, eE_binM, eE_cmp, eE_ix, k2_ap, eE_neg, negK_i, eE_not, notK_b, eE_chain, chK1_ap, chK3_ap, chK2_t, chK2_f, eE_and1, eE_or1, eE_and2, andK_t, andK_f, eE_or2, orK_t, orK_f, eE_ife, iteK_t, iteK_f, eE_tup, eE_lst, eE_lstM, tupK_1, tupK_2, lstK_0, lstK_1, eE_sl, slK1_ap, slK2_ap, part_no, eE_call, eE_blt, eE_bltM, bltMK_ap, thaw_lv, eE_meth, eE_lcS, eE_lcR, eE_frz, eE_rev, rev_lv, eEs_nil, eEs_cons, consK_ap, cnsK_ap, eSs_nil, eSs_cons, eS_asg, asgK_nm, eS_seti, stK1_ap, stK2_ap, stK3_ap, stK4_ap, eS_expr, expK_ap, eS_ret, rtK_ap, eS_ifs, eS_forS, eS_forR, eS_whl, eS_pass, eS_ctn, eS_brk, eS_retN, R.bind_ok, seqK_nx, seqK_rt, seqK_bk, seqK_ct, loopK_nx, loopK_rt, loopK_bk, loopK_ct, retK_nx, retK_rt, tr_bl, add_int, sub_int, cmp_eq_int, cmp_eq_str, cmp_eq_bl, cmp_ne_int, cmp_ne_str, cmp_lt_int, cmp_le_int, cmp_gt_int, cmp_ge_int, int_int, int_bl, abs_int, len_lv, len_tup, List.getElem?_cons_zero, List.getElem?_cons_succ, List.set_cons_zero, List.set_cons_succ, E.isNop, List.set_set, ctx_call, ofOpt_some, in_sign, nin_sign, all_lv, any_lv, part_f, partK_i, frz_ref h1]
end Pr

namespace Pr
open PySem L2 Ev Mv
variable {w k : Nat} {S : Sto} {b : Nat}
def isSh (sh : Str) : Prop := sh = "none" ∨ sh = "swap" ∨ sh = "front"
theorem right_run {ties : List (Str × Str)} {A C : List Str} {x sh : Str} (ho : okPs ties) (hs : isSh sh) (hok : ∀ y, y ∈ A ++ x :: C → PyData.strOk y = true) (hl : A.length + C.length ≤ 90) (ht : ties.length ≤ 1000) (hw : 100 ≤ w) :
    callN (prg w) (k + 4) "_law_right" "_law_right" [.tup (sl (A ++ x :: C)), .int ((A.length : Nat) : Int), .lv (psl ties), .str sh] S = .ok (.bl true) S := by
  have s1 : TSrc (.lv (psl ties)) ties := ⟨.inl rfl, ho⟩
  have s2 : TSrc (.tup (psl ties)) ties := ⟨.inr rfl, ho⟩
  have m1 := moved_run (w := w) (k := k + 1) (S := S) s1 hs hok hl hw
  have m2 := moved_run (w := w) (k := k + 1) (S := S) s2 hs hok hl hw
  have d1 := due_run (w := w) (k := k + 2) (S := S) s1 hs hok hl
  have hdl : (due (tie ties x) A x C sh).length ≤ lim := by rw [due_length]; simp [lim]; omega
  have z1 := okD_slt hdl
  have e1 := same_self (w := w) (k + 3) _ S (Nat.le_trans z1.2 (by omega)) z1.1
  have z2 := okD_psl (l := ties) (by simp [lim]; omega)
  have e2 := same_self (w := w) (k + 3) _ S (Nat.le_trans z2.2 (by omega)) z2.1
  rw [call_law_right]
  unfold b_law_right
  simp only [eE_var, varK_s, eE_glob, eE_ty, eE_int, eE_str, eE_bl, eE_non, eE_bin, eE_binM, eE_cmp, eE_ix, k2_ap, eE_neg, negK_i, eE_not, notK_b, eE_chain, chK1_ap, chK3_ap, chK2_t, chK2_f, eE_and1, eE_or1, eE_and2, andK_t, andK_f, eE_or2, orK_t, orK_f, eE_ife, iteK_t, iteK_f, eE_tup, eE_lst, eE_lstM, tupK_1, tupK_2, lstK_0, lstK_1, eE_sl, slK1_ap, slK2_ap, part_no, eE_call, eE_blt, eE_bltM, bltMK_ap, thaw_lv, eE_meth, eE_lcS, eE_lcR, eE_frz, eE_rev, rev_lv, eEs_nil, eEs_cons, consK_ap, cnsK_ap, eSs_nil, eSs_cons, eS_asg, asgK_nm, eS_seti, stK1_ap, stK2_ap, stK3_ap, stK4_ap, eS_expr, expK_ap, eS_ret, rtK_ap, eS_ifs, eS_forS, eS_forR, eS_whl, eS_pass, eS_ctn, eS_brk, eS_retN, R.bind_ok, seqK_nx, seqK_rt, seqK_bk, seqK_ct, loopK_nx, loopK_rt, loopK_bk, loopK_ct, retK_nx, retK_rt, tr_bl, add_int, sub_int, cmp_eq_int, cmp_eq_str, cmp_eq_bl, cmp_ne_int, cmp_ne_str, cmp_lt_int, cmp_le_int, cmp_gt_int, cmp_ge_int, int_int, int_bl, abs_int, len_lv, len_tup, List.getElem?_cons_zero, List.getElem?_cons_succ, List.set_cons_zero, List.set_cons_succ, E.isNop, List.set_set, ctx_call, ofOpt_some, in_sign, nin_sign, all_lv, any_lv, part_f, partK_i, list_lvE, tuple_lvE, m1, m2, d1, e1, e2, Bool.not_true]
theorem split_at {l : List Str} {n : Nat} (h : n < l.length) : l = l.take n ++ l[n] :: l.drop (n + 1) ∧ (l.take n).length = n := by
  refine ⟨?_, by rw [List.length_take]; omega⟩
  rw [← List.drop_eq_getElem_cons h, List.take_append_drop]
theorem right_at {ties : List (Str × Str)} {l : List Str} {sh : Str} {n : Nat} (h : n < l.length) (ho : okPs ties) (hs : isSh sh) (hok : ∀ y, y ∈ l → PyData.strOk y = true) (hl : l.length ≤ 50) (ht : ties.length ≤ 1000) (hw : 100 ≤ w) :
    callN (prg w) (k + 4) "_law_right" "_law_right" [.tup (sl l), .int ((n : Nat) : Int), .lv (psl ties), .str sh] S = .ok (.bl true) S := by
  obtain ⟨e, hn⟩ := split_at h
  have hl1 : (l.drop (n + 1)).length + (n + 1) = l.length := by rw [List.length_drop]; omega
  have := right_run (w := w) (k := k) (S := S) (ties := ties) (A := l.take n) (C := l.drop (n + 1)) (x := l[n]) (sh := sh) ho hs (by rw [← e]; exact hok) (by omega) ht hw
  rw [← e, hn] at this
  exact this
theorem due_at {ties : List (Str × Str)} {l : List Str} {sh : Str} {n : Nat} (h : n < l.length) (ho : okPs ties) (hs : isSh sh) (hok : ∀ y, y ∈ l → PyData.strOk y = true) (hl : l.length ≤ 50) :
    ∃ l', callN (prg w) (k + 1) "_law_due" "_law_due" [.tup (sl l), .int ((n : Nat) : Int), .lv (psl ties), .str sh] S = .ok (.tup (sl l')) S ∧ l'.length = l.length ∧ ∀ y, y ∈ l' → y ∈ l := by
  obtain ⟨e, hn⟩ := split_at h
  have hl1 : (l.drop (n + 1)).length + (n + 1) = l.length := by rw [List.length_drop]; omega
  have := due_run (w := w) (k := k) (S := S) (d := .lv (psl ties)) (ties := ties) (A := l.take n) (C := l.drop (n + 1)) (x := l[n]) (sh := sh) ⟨.inl rfl, ho⟩ hs (by rw [← e]; exact hok) (by omega)
  rw [← e, hn] at this
  refine ⟨_, this, ?_, fun y hy => ?_⟩
  · rw [due_length, ← e]
  · have := due_mem hy
    rw [← e] at this
    exact this
def kFor {α : Type} (f : Ss → α) : α := f b_law
def lpT : Ss := match b_law with | .cons _ (.cons _ (.cons _ (.cons _ (.cons (.for_ _ _ p) _)))) => p | _ => .nil
def lpS : Ss := match b_law with | .cons _ (.cons _ (.cons _ (.cons _ (.cons _ (.cons _ (.cons (.for_ _ _ p) _)))))) => p | _ => .nil
def lpW : Ss := match b_law with | .cons _ (.cons _ (.cons _ (.cons _ (.cons _ (.cons _ (.cons _ (.cons _ (.cons (.for_ _ _ p) _)))))))) => p | _ => .nil
theorem tie_turn {sc x2 x5 x6 x7 x8 x9 : Option D} {l : List Str} {T : List (Str × Str)} {i : Nat} (hb : BoxAt S b) (hi : i < l.length) (hl : l.length ≤ 50) (hT : T.length ≤ 50 * i) (ho : okPs T) (hok : ∀ y, y ∈ l → PyData.strOk y = true) :
    ∃ T' S', evSs (ctxOf (prg w) (k + 1)) lpT [sc, some (.ref b), x2, some (.tup (sl l)), some (.lv (psl T)), some (.int (0 + (i : Int))), x6, x7, x8, x9] S
      = .ok (.nx [sc, some (.ref b), x2, some (.tup (sl l)), some (.lv (psl T')), some (.int (0 + (i : Int))), x6, x7, x8, x9]) S' ∧ Fr b S S' ∧ T'.length ≤ 50 * (i + 1) ∧ okPs T' := by
  have e1 : (0 + (i : Int)) + 1 = ((i + 1 : Nat) : Int) := by omega
  have c1 : cutD (sl l) (some ((i + 1 : Nat) : Int)) none = sl (l.drop (i + 1)) := by
    rw [cut_from _ (by rw [sl_len]; omega), sl_drop]
  have i0 : ∀ S : Sto, ixD (.tup (sl l)) (.int (0 + (i : Int))) S = .ok (.str l[i]) S := fun S => by
    rw [Int.zero_add]
    exact ix_sl (List.getElem?_eq_getElem hi) S
  obtain ⟨ys, S', e2, f2, g2, l2⟩ := lcK_dr (d := .tup (sl (l.drop (i + 1)))) (tg := .nm 9) (σ := [sc, some (.ref b), x2, some (.tup (sl l)), some (.lv (psl T)), some (.int (0 + (i : Int))), x6, x7, x8, x9]) (S := S) (xs := sl (l.drop (i + 1)))
    (cond := evE (ctxOf (prg w) (k + 1)) (.cmp .eq (.call "_law_draw" "_law_draw" (.cons (.var 1) (.cons (.cint 3) .nil))) (.cint 1)))
    (elt := evE (ctxOf (prg w) (k + 1)) (.tup (.cons (.ix (.var 3) (.var 5)) (.cons (.var 9) .nil)))) (P := fun S' => Fr b S S') (G := fun y => ∃ p : Str × Str, y = ps p ∧ PyData.strOk p.1 = true ∧ PyData.strOk p.2 = true)
    (fun _ _ => rfl) (by rw [sl_len]; simp [lim]; omega)
    (by
      intro x hx S1 f1
      obtain ⟨y, hy, rfl⟩ := List.mem_map.mp hx
      obtain ⟨r, S2, e3, f3, _, _⟩ := draw_fr (w := w) (k := k) (size := 3) f1.box (by decide) (by decide)
      refine ⟨_, rfl, decide (r = 1), S2, ?_, f1.trans f3, fun _ => ⟨ps (l[i], y), S2, ?_, f1.trans f3, _, rfl, hok _ (List.getElem_mem hi), hok y (List.mem_of_mem_drop hy)⟩⟩
      · simp only [Tg.slots, wipeD]
        simp only [eE_var, varK_s, eE_glob, eE_ty, eE_int, eE_str, eE_bl, eE_non, eE_bin, eE_binM, eE_cmp, eE_ix, k2_ap, eE_neg, negK_i, eE_not, notK_b, eE_chain, chK1_ap, chK3_ap, chK2_t, chK2_f, eE_and1, eE_or1, eE_and2, andK_t, andK_f, eE_or2, orK_t, orK_f, eE_ife, iteK_t, iteK_f, eE_tup, eE_lst, eE_lstM, tupK_1, tupK_2, lstK_0, lstK_1, eE_sl, slK1_ap, slK2_ap, part_no, eE_call, eE_blt, eE_bltM, bltMK_ap, thaw_lv, eE_meth, eE_lcS, eE_lcR, eE_frz, eE_rev, rev_lv, eEs_nil, eEs_cons, consK_ap, cnsK_ap, eSs_nil, eSs_cons, eS_asg, asgK_nm, eS_seti, stK1_ap, stK2_ap, stK3_ap, stK4_ap, eS_expr, expK_ap, eS_ret, rtK_ap, eS_ifs, eS_forS, eS_forR, eS_whl, eS_pass, eS_ctn, eS_brk, eS_retN, R.bind_ok, seqK_nx, seqK_rt, seqK_bk, seqK_ct, loopK_nx, loopK_rt, loopK_bk, loopK_ct, retK_nx, retK_rt, tr_bl, add_int, sub_int, cmp_eq_int, cmp_eq_str, cmp_eq_bl, cmp_ne_int, cmp_ne_str, cmp_lt_int, cmp_le_int, cmp_gt_int, cmp_ge_int, int_int, int_bl, abs_int, len_lv, len_tup, List.getElem?_cons_zero, List.getElem?_cons_succ, List.set_cons_zero, List.set_cons_succ, E.isNop, List.set_set, ctx_call, ofOpt_some, in_sign, nin_sign, all_lv, any_lv, part_f, partK_i, e3]
      · simp only [Tg.slots, wipeD]
        simp only [eE_var, varK_s, eE_glob, eE_ty, eE_int, eE_str, eE_bl, eE_non, eE_bin, eE_binM, eE_cmp, eE_ix, k2_ap, eE_neg, negK_i, eE_not, notK_b, eE_chain, chK1_ap, chK3_ap, chK2_t, chK2_f, eE_and1, eE_or1, eE_and2, andK_t, andK_f, eE_or2, orK_t, orK_f, eE_ife, iteK_t, iteK_f, eE_tup, eE_lst, eE_lstM, tupK_1, tupK_2, lstK_0, lstK_1, eE_sl, slK1_ap, slK2_ap, part_no, eE_call, eE_blt, eE_bltM, bltMK_ap, thaw_lv, eE_meth, eE_lcS, eE_lcR, eE_frz, eE_rev, rev_lv, eEs_nil, eEs_cons, consK_ap, cnsK_ap, eSs_nil, eSs_cons, eS_asg, asgK_nm, eS_seti, stK1_ap, stK2_ap, stK3_ap, stK4_ap, eS_expr, expK_ap, eS_ret, rtK_ap, eS_ifs, eS_forS, eS_forR, eS_whl, eS_pass, eS_ctn, eS_brk, eS_retN, R.bind_ok, seqK_nx, seqK_rt, seqK_bk, seqK_ct, loopK_nx, loopK_rt, loopK_bk, loopK_ct, retK_nx, retK_rt, tr_bl, add_int, sub_int, cmp_eq_int, cmp_eq_str, cmp_eq_bl, cmp_ne_int, cmp_ne_str, cmp_lt_int, cmp_le_int, cmp_gt_int, cmp_ge_int, int_int, int_bl, abs_int, len_lv, len_tup, List.getElem?_cons_zero, List.getElem?_cons_succ, List.set_cons_zero, List.set_cons_succ, E.isNop, List.set_set, ctx_call, ofOpt_some, in_sign, nin_sign, all_lv, any_lv, part_f, partK_i, i0]
        rfl)
    (Fr.refl hb)
  obtain ⟨T2, rfl⟩ := all_psl (ys := ys) fun y hy => by
    obtain ⟨p, h, _⟩ := g2 y hy
    exact ⟨p, h⟩
  have hlen : (psl T).length + (psl T2).length ≤ lim := by
    rw [psl_len, psl_len]
    rw [psl_len, sl_len, List.length_drop] at l2
    have hL : 100000 ≤ lim := by decide
    have : 50 * i ≤ 2500 := by omega
    omega
  refine ⟨T ++ T2, S', ?_, f2, ?_, ?_⟩
  · simp only [lpT, b_law]
    simp only [eSs_cons, eS_asg]
    rw [eE_bin, eE_var]
    simp only [varK_s, List.getElem?_cons_zero, List.getElem?_cons_succ, R.bind_ok, k2_ap]
    rw [eE_lcS]
    simp only [eE_sl, eE_var, varK_s, List.getElem?_cons_zero, List.getElem?_cons_succ, R.bind_ok, slK1_ap, slK2_ap, E.isNop, part_f, part_no, eE_bin, eE_int, k2_ap, add_int, partK_i, e1, sl_tpD, c1]
    rw [e2]
    have : psl (T ++ T2) = psl T ++ psl T2 := List.map_append ..
    rw [this]
    simp only [eE_var, varK_s, eE_glob, eE_ty, eE_int, eE_str, eE_bl, eE_non, eE_bin, eE_binM, eE_cmp, eE_ix, k2_ap, eE_neg, negK_i, eE_not, notK_b, eE_chain, chK1_ap, chK3_ap, chK2_t, chK2_f, eE_and1, eE_or1, eE_and2, andK_t, andK_f, eE_or2, orK_t, orK_f, eE_ife, iteK_t, iteK_f, eE_tup, eE_lst, eE_lstM, tupK_1, tupK_2, lstK_0, lstK_1, eE_sl, slK1_ap, slK2_ap, part_no, eE_call, eE_blt, eE_bltM, bltMK_ap, thaw_lv, eE_meth, eE_lcS, eE_lcR, eE_frz, eE_rev, rev_lv, eEs_nil, eEs_cons, consK_ap, cnsK_ap, eSs_nil, eSs_cons, eS_asg, asgK_nm, eS_seti, stK1_ap, stK2_ap, stK3_ap, stK4_ap, eS_expr, expK_ap, eS_ret, rtK_ap, eS_ifs, eS_forS, eS_forR, eS_whl, eS_pass, eS_ctn, eS_brk, eS_retN, R.bind_ok, seqK_nx, seqK_rt, seqK_bk, seqK_ct, loopK_nx, loopK_rt, loopK_bk, loopK_ct, retK_nx, retK_rt, tr_bl, add_int, sub_int, cmp_eq_int, cmp_eq_str, cmp_eq_bl, cmp_ne_int, cmp_ne_str, cmp_lt_int, cmp_le_int, cmp_gt_int, cmp_ge_int, int_int, int_bl, abs_int, len_lv, len_tup, List.getElem?_cons_zero, List.getElem?_cons_succ, List.set_cons_zero, List.set_cons_succ, E.isNop, List.set_set, ctx_call, ofOpt_some, in_sign, nin_sign, all_lv, any_lv, part_f, partK_i, add_lv hlen]
  · rw [psl_len, sl_len, List.length_drop] at l2
    rw [List.length_append]
    omega
  · intro p hp
    rw [List.mem_append] at hp
    rcases hp with hp | hp
    · exact ho p hp
    · obtain ⟨q, h, h1⟩ := g2 (ps p) (List.mem_map.mpr ⟨p, hp, rfl⟩)
      rw [ps_inj h]
      exact h1
theorem law_run (hw : 100 ≤ w) (ns : List Int) (hn : ns.length ≤ 63) : ∃ S', callN (prg w) (k + 5 + 1) "law" "law" [.fl (ns.map .int)] [] = .ok (.bl true) S' := by
  have hb : BoxAt [boxO ns 0 0 0 0] 0 := ⟨_, rfl, ns, 0, 0, 0, 0, rfl, Int.le_refl 0⟩
  have e0 := box_run (w := w) (k := k + 4) hn
  generalize [boxO ns 0 0 0 0] = S0 at hb e0
  obtain ⟨r, S1, e1, f1, q0, q1⟩ := draw_fr (w := w) (k := k + 4) (size := 6) hb (by decide) (by decide)
  obtain ⟨many, rfl⟩ : ∃ j : Nat, r = j := ⟨r.toNat, by omega⟩
  obtain ⟨l0, S2, e2, f2, hl0, hok0, _⟩ := names_run (w := w) (k := k + 2) (many := many) f1.box (by omega)
  have hadd : ∀ S : Sto, binD .add (.lv [.str "rule"]) (.lv (sl l0)) S = .ok (.lv (sl ("rule" :: l0))) S := fun S => add_lv (by rw [sl_len]; simp [lim]; omega) S
  obtain ⟨ys, S3, e3, f3, p3⟩ := shuffled_run (w := w) (k := k + 3) (xs := sl ("rule" :: l0)) f2.box (by rw [sl_len]; simp; omega)
  obtain ⟨l, rfl, pl⟩ := perm_sl p3
  have hll : l.length ≤ 6 := by rw [pl.length_eq]; simp; omega
  have hlp : 0 < l.length := by rw [pl.length_eq]; simp
  have hok : ∀ y, y ∈ l → PyData.strOk y = true := by
    intro y hy
    rcases List.mem_cons.mp (pl.mem_iff.mp hy) with rfl | h
    · decide +kernel
    · exact (hok0 y h).1
  -- the ties
  obtain ⟨σ', S4, e4, x5, T, rfl, f4, hT, hoT⟩ := forRg_inv (tg := .nm 5) (lo := 0) (N := l.length) (body := evSs (ctxOf (prg w) (k + 5)) lpT)
    (fun i σ S' => ∃ x5 T, σ = [some (.fl (ns.map .int)), some (.ref 0), some (.lv (sl ("rule" :: l0))), some (.tup (sl l)), some (.lv (psl T)), x5, none, none, none, none] ∧ Fr 0 S3 S' ∧ T.length ≤ 50 * i ∧ okPs T)
    (by
      rintro i σ S' hi ⟨x5, T, rfl, f, hT, ho⟩
      refine ⟨_, rfl, ?_⟩
      obtain ⟨T', S5, e5, f5, h5, o5⟩ := tie_turn (w := w) (k := k + 4) (S := S') (b := 0) (sc := some (.fl (ns.map .int))) (x2 := some (.lv (sl ("rule" :: l0)))) (x5 := x5) (x6 := none) (x7 := none) (x8 := none) (x9 := none) (l := l) (T := T) (i := i) f.box hi (by omega) hT ho hok
      exact ⟨_, S5, e5, _, T', rfl, f.trans f5, h5, o5⟩)
    l.length 0 [some (.fl (ns.map .int)), some (.ref 0), some (.lv (sl ("rule" :: l0))), some (.tup (sl l)), some (.lv []), none, none, none, none, none] S3 (by omega) ⟨none, [], rfl, Fr.refl f3.box, by simp, fun p h => by simp at h⟩
  obtain ⟨zs, S5, e5, f5, p5⟩ := shuffled_run (w := w) (k := k + 3) (xs := psl T) f4.box (by rw [psl_len]; have := hT; omega)
  obtain ⟨U, rfl⟩ := all_psl (ys := zs) fun y hy => by
    obtain ⟨p, _, rfl⟩ := List.mem_map.mp (p5.mem_iff.mp hy)
    exact ⟨p, rfl⟩
  have hU : U.length ≤ 1000 := by
    have := p5.length_eq
    rw [psl_len, psl_len] at this
    omega
  have hoU : okPs U := fun p hp => hoT p (mem_psl (p5.mem_iff.mp (List.mem_map.mpr ⟨p, hp, rfl⟩)))
  -- every shift at every place
  have hi6 : ∀ S : Sto, items S (.lv [.str "none", .str "swap", .str "front"]) = some [.str "none", .str "swap", .str "front"] := fun _ => rfl
  obtain ⟨σ', S6, e6, rfl, y6, y8, rfl⟩ := forK_inv (d := .lv [.str "none", .str "swap", .str "front"]) (tg := .nm 6) (xs := [.str "none", .str "swap", .str "front"]) (body := evSs (ctxOf (prg w) (k + 5)) lpS)
    (σ := [some (.fl (ns.map .int)), some (.ref 0), some (.lv (sl ("rule" :: l0))), some (.tup (sl l)), some (.lv (psl U)), x5, none, none, none, none]) (S := S5)
    (fun i σ S' => S5 = S' ∧ ∃ y6 y8, σ = [some (.fl (ns.map .int)), some (.ref 0), some (.lv (sl ("rule" :: l0))), some (.tup (sl l)), some (.lv (psl U)), x5, y6, none, y8, none])
    (fun _ _ S' _ => hi6 S')
    (by
      rintro i σ S' h ⟨rfl, y6, y8, rfl⟩
      have hsh : ∃ sh, ([.str "none", .str "swap", .str "front"] : List D)[i] = .str sh ∧ isSh sh := by
        match i, h with
        | 0, _ => exact ⟨_, rfl, .inl rfl⟩
        | 1, _ => exact ⟨_, rfl, .inr (.inl rfl)⟩
        | 2, _ => exact ⟨_, rfl, .inr (.inr rfl)⟩
      obtain ⟨sh, es, hs⟩ := hsh
      rw [es]
      refine ⟨_, rfl, ?_⟩
      obtain ⟨σ', S7, e7, rfl, z8, rfl⟩ := forRg_inv (tg := .nm 8) (lo := 0) (N := l.length) (body := evSs (ctxOf (prg w) (k + 5)) (.cons (.ifs (.not (.call "_law_right" "_law_right" (.cons (.var 3) (.cons (.var 8) (.cons (.var 4) (.cons (.var 6) .nil))))))
        (.cons (.ret (.cbl false))
        .nil)
        .nil)
      .nil))
        (fun i σ S' => S5 = S' ∧ ∃ y8, σ = [some (.fl (ns.map .int)), some (.ref 0), some (.lv (sl ("rule" :: l0))), some (.tup (sl l)), some (.lv (psl U)), x5, some (.str sh), none, y8, none])
        (by
          rintro i σ S' hi ⟨rfl, y8, rfl⟩
          refine ⟨_, rfl, _, S5, ?_, rfl, some (.int (0 + (i : Int))), rfl⟩
          have := right_at (w := w) (k := k + 1) (S := S5) (ties := U) (l := l) (sh := sh) (n := i) hi hoU hs hok (by omega) hU hw
          rw [show ((i : Nat) : Int) = 0 + (i : Int) by omega] at this
          simp only [eE_var, varK_s, eE_glob, eE_ty, eE_int, eE_str, eE_bl, eE_non, eE_bin, eE_binM, eE_cmp, eE_ix, k2_ap, eE_neg, negK_i, eE_not, notK_b, eE_chain, chK1_ap, chK3_ap, chK2_t, chK2_f, eE_and1, eE_or1, eE_and2, andK_t, andK_f, eE_or2, orK_t, orK_f, eE_ife, iteK_t, iteK_f, eE_tup, eE_lst, eE_lstM, tupK_1, tupK_2, lstK_0, lstK_1, eE_sl, slK1_ap, slK2_ap, part_no, eE_call, eE_blt, eE_bltM, bltMK_ap, thaw_lv, eE_meth, eE_lcS, eE_lcR, eE_frz, eE_rev, rev_lv, eEs_nil, eEs_cons, consK_ap, cnsK_ap, eSs_nil, eSs_cons, eS_asg, asgK_nm, eS_seti, stK1_ap, stK2_ap, stK3_ap, stK4_ap, eS_expr, expK_ap, eS_ret, rtK_ap, eS_ifs, eS_forS, eS_forR, eS_whl, eS_pass, eS_ctn, eS_brk, eS_retN, R.bind_ok, seqK_nx, seqK_rt, seqK_bk, seqK_ct, loopK_nx, loopK_rt, loopK_bk, loopK_ct, retK_nx, retK_rt, tr_bl, add_int, sub_int, cmp_eq_int, cmp_eq_str, cmp_eq_bl, cmp_ne_int, cmp_ne_str, cmp_lt_int, cmp_le_int, cmp_gt_int, cmp_ge_int, int_int, int_bl, abs_int, len_lv, len_tup, List.getElem?_cons_zero, List.getElem?_cons_succ, List.set_cons_zero, List.set_cons_succ, E.isNop, List.set_set, ctx_call, ofOpt_some, in_sign, nin_sign, all_lv, any_lv, part_f, partK_i, this, Bool.not_true])
        l.length 0 [some (.fl (ns.map .int)), some (.ref 0), some (.lv (sl ("rule" :: l0))), some (.tup (sl l)), some (.lv (psl U)), x5, some (.str sh), none, y8, none] S5 (by omega) ⟨rfl, y8, rfl⟩
      refine ⟨_, S5, ?_, rfl, some (.str sh), z8, rfl⟩
      simp only [lpS, b_law]
      rw [eSs_cons, eS_forR]
      simp only [eE_blt, eEs_cons, eEs_nil, eE_var, varK_s, List.getElem?_cons_zero, List.getElem?_cons_succ, List.set_cons_zero, List.set_cons_succ, R.bind_ok, consK_ap, cnsK_ap, len_tup, sl_len]
      rw [forK1_nat (by omega), e7]
      simp only [eE_var, varK_s, eE_glob, eE_ty, eE_int, eE_str, eE_bl, eE_non, eE_bin, eE_binM, eE_cmp, eE_ix, k2_ap, eE_neg, negK_i, eE_not, notK_b, eE_chain, chK1_ap, chK3_ap, chK2_t, chK2_f, eE_and1, eE_or1, eE_and2, andK_t, andK_f, eE_or2, orK_t, orK_f, eE_ife, iteK_t, iteK_f, eE_tup, eE_lst, eE_lstM, tupK_1, tupK_2, lstK_0, lstK_1, eE_sl, slK1_ap, slK2_ap, part_no, eE_call, eE_blt, eE_bltM, bltMK_ap, thaw_lv, eE_meth, eE_lcS, eE_lcR, eE_frz, eE_rev, rev_lv, eEs_nil, eEs_cons, consK_ap, cnsK_ap, eSs_nil, eSs_cons, eS_asg, asgK_nm, eS_seti, stK1_ap, stK2_ap, stK3_ap, stK4_ap, eS_expr, expK_ap, eS_ret, rtK_ap, eS_ifs, eS_forS, eS_forR, eS_whl, eS_pass, eS_ctn, eS_brk, eS_retN, R.bind_ok, seqK_nx, seqK_rt, seqK_bk, seqK_ct, loopK_nx, loopK_rt, loopK_bk, loopK_ct, retK_nx, retK_rt, tr_bl, add_int, sub_int, cmp_eq_int, cmp_eq_str, cmp_eq_bl, cmp_ne_int, cmp_ne_str, cmp_lt_int, cmp_le_int, cmp_gt_int, cmp_ge_int, int_int, int_bl, abs_int, len_lv, len_tup, List.getElem?_cons_zero, List.getElem?_cons_succ, List.set_cons_zero, List.set_cons_succ, E.isNop, List.set_set, ctx_call, ofOpt_some, in_sign, nin_sign, all_lv, any_lv, part_f, partK_i])
    ⟨rfl, none, none, rfl⟩
  -- twelve turns
  have hsh3 : ∀ S : Sto, lstK [.str "front", .str "swap", .str "none"] S = .ok (.lv [.str "front", .str "swap", .str "none"]) S := fun S => lstK_n (by decide)
  obtain ⟨σ', S8, e8, l8, x5', x6', x8', rfl, f8, hl8, hm8⟩ := forRg_inv (tg := .nm 5) (lo := 0) (N := 12) (body := evSs (ctxOf (prg w) (k + 5)) lpW)
    (fun i σ S' => ∃ l' x5 x6 x8, σ = [some (.fl (ns.map .int)), some (.ref 0), some (.lv (sl ("rule" :: l0))), some (.tup (sl l)), some (.lv (psl U)), x5, x6, some (.tup (sl l')), x8, none] ∧ Fr 0 S5 S' ∧ l'.length = l.length ∧ ∀ y, y ∈ l' → y ∈ l)
    (by
      rintro i σ S' hi ⟨l', x5, x6, x8, rfl, f, hl', hm⟩
      refine ⟨_, rfl, ?_⟩
      obtain ⟨r, S9, e9, f9, q0, q1⟩ := draw_fr (w := w) (k := k + 4) (size := ((l'.length : Nat) : Int)) f.box (by omega) (by omega)
      obtain ⟨n, rfl⟩ : ∃ j : Nat, r = j := ⟨r.toNat, by omega⟩
      obtain ⟨r2, S10, e10, f10, q2, q3⟩ := draw_fr (w := w) (k := k + 4) (size := 3) f9.box (by decide) (by decide)
      obtain ⟨d, hd, hat⟩ := atI_ex (xs := ([.str "front", .str "swap", .str "none"] : List D)) q2 (by simpa using q3)
      have hsh : ∃ sh, d = .str sh ∧ isSh sh := by
        simp only [List.mem_cons, List.not_mem_nil, or_false] at hd
        rcases hd with rfl | rfl | rfl
        · exact ⟨_, rfl, .inr (.inr rfl)⟩
        · exact ⟨_, rfl, .inr (.inl rfl)⟩
        · exact ⟨_, rfl, .inl rfl⟩
      obtain ⟨sh, rfl, hs⟩ := hsh
      have hok' : ∀ y, y ∈ l' → PyData.strOk y = true := fun y hy => hok y (hm y hy)
      have hr := right_at (w := w) (k := k + 1) (S := S10) (ties := U) (l := l') (sh := sh) (n := n) (by omega) hoU hs hok' (by omega) hU hw
      obtain ⟨l2, e11, hl2, hm2⟩ := due_at (w := w) (k := k + 4) (S := S10) (ties := U) (l := l') (sh := sh) (n := n) (by omega) hoU hs hok' (by omega)
      refine ⟨_, S10, ?_, l2, some (.int (0 + (i : Int))), some (.str sh), some (.int ((n : Nat) : Int)), rfl, (f.trans f9).trans f10, by omega, fun y hy => hm y (hm2 y hy)⟩
      simp only [lpW, b_law]
      simp only [eE_var, varK_s, eE_glob, eE_ty, eE_int, eE_str, eE_bl, eE_non, eE_bin, eE_binM, eE_cmp, eE_ix, k2_ap, eE_neg, negK_i, eE_not, notK_b, eE_chain, chK1_ap, chK3_ap, chK2_t, chK2_f, eE_and1, eE_or1, eE_and2, andK_t, andK_f, eE_or2, orK_t, orK_f, eE_ife, iteK_t, iteK_f, eE_tup, eE_lst, eE_lstM, tupK_1, tupK_2, lstK_0, lstK_1, eE_sl, slK1_ap, slK2_ap, part_no, eE_call, eE_blt, eE_bltM, bltMK_ap, thaw_lv, eE_meth, eE_lcS, eE_lcR, eE_frz, eE_rev, rev_lv, eEs_nil, eEs_cons, consK_ap, cnsK_ap, eSs_nil, eSs_cons, eS_asg, asgK_nm, eS_seti, stK1_ap, stK2_ap, stK3_ap, stK4_ap, eS_expr, expK_ap, eS_ret, rtK_ap, eS_ifs, eS_forS, eS_forR, eS_whl, eS_pass, eS_ctn, eS_brk, eS_retN, R.bind_ok, seqK_nx, seqK_rt, seqK_bk, seqK_ct, loopK_nx, loopK_rt, loopK_bk, loopK_ct, retK_nx, retK_rt, tr_bl, add_int, sub_int, cmp_eq_int, cmp_eq_str, cmp_eq_bl, cmp_ne_int, cmp_ne_str, cmp_lt_int, cmp_le_int, cmp_gt_int, cmp_ge_int, int_int, int_bl, abs_int, len_lv, len_tup, List.getElem?_cons_zero, List.getElem?_cons_succ, List.set_cons_zero, List.set_cons_succ, E.isNop, List.set_set, ctx_call, ofOpt_some, in_sign, nin_sign, all_lv, any_lv, part_f, partK_i, sl_len, e9, e10, hsh3, ix_lv hat, hr, e11, Bool.not_true])
    12 0 [some (.fl (ns.map .int)), some (.ref 0), some (.lv (sl ("rule" :: l0))), some (.tup (sl l)), some (.lv (psl U)), x5, y6, some (.tup (sl l)), y8, none] S5 (by omega) ⟨l, x5, y6, y8, rfl, Fr.refl f5.box, rfl, fun y h => h⟩
  have eR := same_self (w := w) (k + 5) (.str "rule") S8 (by simp [depD]) rfl
  refine ⟨S8, ?_⟩
  have g4 := forK1_nat (n := l.length) (tg := .nm 5) (body := evSs (ctxOf (prg w) (k + 5)) lpT) (σ := [some (.fl (ns.map .int)), some (.ref 0), some (.lv (sl ("rule" :: l0))), some (.tup (sl l)), some (.lv []), none, none, none, none, none]) (S := S3) (by omega)
  rw [e4] at g4
  have g8 := forK1_nat (n := 12) (tg := .nm 5) (body := evSs (ctxOf (prg w) (k + 5)) lpW) (σ := [some (.fl (ns.map .int)), some (.ref 0), some (.lv (sl ("rule" :: l0))), some (.tup (sl l)), some (.lv (psl U)), x5, y6, some (.tup (sl l)), y8, none]) (S := S5) (by decide)
  rw [e8, show ((12 : Nat) : Int) = 12 from rfl] at g8
  simp only [lpT, b_law] at g4
  simp only [lpW, b_law] at g8
  simp only [lpS, b_law] at e6
  rw [call_law]
  unfold b_law
  rw [eSs_cons, eS_asg]
  simp only [eE_call, eE_var, varK_s, eEs_cons, eEs_nil, R.bind_ok, consK_ap, cnsK_ap, List.getElem?_cons_zero, List.getElem?_cons_succ, ctx_call, asgK_nm, List.set_cons_zero, List.set_cons_succ, seqK_nx, e0]
  rw [eSs_cons, eS_asg]
  simp only [eE_bin, eE_lst, eE_str, eE_int, lstK_1, k2_ap, eE_call, eE_var, varK_s, eEs_cons, eEs_nil, R.bind_ok, consK_ap, cnsK_ap, List.getElem?_cons_zero, List.getElem?_cons_succ, ctx_call, asgK_nm, List.set_cons_zero, List.set_cons_succ, seqK_nx, e1, e2, hadd]
  rw [eSs_cons, eS_asg]
  simp only [eE_blt, tuple_lvE, eE_call, eE_var, varK_s, eEs_cons, eEs_nil, R.bind_ok, consK_ap, cnsK_ap, List.getElem?_cons_zero, List.getElem?_cons_succ, ctx_call, asgK_nm, List.set_cons_zero, List.set_cons_succ, seqK_nx, e3]
  rw [eSs_cons, eS_asg]
  simp only [eE_lst, lstK_0, eEs_nil, R.bind_ok, asgK_nm, List.set_cons_zero, List.set_cons_succ, seqK_nx]
  rw [eSs_cons, eS_forR]
  simp only [eE_blt, eEs_cons, eEs_nil, eE_var, varK_s, List.getElem?_cons_zero, List.getElem?_cons_succ, R.bind_ok, consK_ap, cnsK_ap, len_tup, sl_len]
  rw [g4, R.bind_ok, seqK_nx, eSs_cons, eS_asg]
  simp only [eE_call, eE_var, varK_s, eEs_cons, eEs_nil, R.bind_ok, consK_ap, cnsK_ap, List.getElem?_cons_zero, List.getElem?_cons_succ, ctx_call, asgK_nm, List.set_cons_zero, List.set_cons_succ, seqK_nx, e5]
  rw [eSs_cons, eS_forS]
  have l3 : ∀ S : Sto, lstK [.str "none", .str "swap", .str "front"] S = .ok (.lv [.str "none", .str "swap", .str "front"]) S := fun S => lstK_n (by decide)
  simp only [eE_lst, eE_str, eEs_cons, eEs_nil, R.bind_ok, consK_ap, cnsK_ap, l3]
  rw [e6, R.bind_ok, seqK_nx, eSs_cons, eS_asg]
  simp only [eE_var, varK_s, List.getElem?_cons_zero, List.getElem?_cons_succ, R.bind_ok, asgK_nm, List.set_cons_zero, List.set_cons_succ, seqK_nx]
  rw [eSs_cons, eS_forR, eE_int, R.bind_ok, g8, R.bind_ok, seqK_nx]
  have hc : (ctxOf (prg w) (k + 5)).con = fun x => List.lookup x (prg w).con := rfl
  simp only [eE_var, varK_s, eE_glob, eE_ty, eE_int, eE_str, eE_bl, eE_non, eE_bin, eE_binM, eE_cmp, eE_ix, k2_ap, eE_neg, negK_i, eE_not, notK_b, eE_chain, chK1_ap, chK3_ap, chK2_t, chK2_f, eE_and1, eE_or1, eE_and2, andK_t, andK_f, eE_or2, orK_t, orK_f, eE_ife, iteK_t, iteK_f, eE_tup, eE_lst, eE_lstM, tupK_1, tupK_2, lstK_0, lstK_1, eE_sl, slK1_ap, slK2_ap, part_no, eE_call, eE_blt, eE_bltM, bltMK_ap, thaw_lv, eE_meth, eE_lcS, eE_lcR, eE_frz, eE_rev, rev_lv, eEs_nil, eEs_cons, consK_ap, cnsK_ap, eSs_nil, eSs_cons, eS_asg, asgK_nm, eS_seti, stK1_ap, stK2_ap, stK3_ap, stK4_ap, eS_expr, expK_ap, eS_ret, rtK_ap, eS_ifs, eS_forS, eS_forR, eS_whl, eS_pass, eS_ctn, eS_brk, eS_retN, R.bind_ok, seqK_nx, seqK_rt, seqK_bk, seqK_ct, loopK_nx, loopK_rt, loopK_bk, loopK_ct, retK_nx, retK_rt, tr_bl, add_int, sub_int, cmp_eq_int, cmp_eq_str, cmp_eq_bl, cmp_ne_int, cmp_ne_str, cmp_lt_int, cmp_le_int, cmp_gt_int, cmp_ge_int, int_int, int_bl, abs_int, len_lv, len_tup, List.getElem?_cons_zero, List.getElem?_cons_succ, List.set_cons_zero, List.set_cons_succ, E.isNop, List.set_set, ctx_call, ofOpt_some, in_sign, nin_sign, all_lv, any_lv, part_f, partK_i, hc, con_RULE, eR]
end Pr

open PySem PySem.W PySem.Calls PyProof.Rows
theorem PySem.Challenge.cw_errortells_k30_moved_orders_holds : PySem.Challenge.rw_errortells_k30_moved_orders.Holds := by
  w_on; o_law
  refine HandSHeadRun.head_any (r := OpenLaw.row PySem.Challenge.rw_errortells_k30_moved_orders) (q := view (OpenLaw.row PySem.Challenge.rw_errortells_k30_moved_orders).prog [13]) (H := Pr.hk) (ob := Pr.ob) (M := 6000) (loose := Pr.loose) (d := HandSHeadRun.topDef (OpenLaw.row PySem.Challenge.rw_errortells_k30_moved_orders).prog 13) (kwd := []) Pr.ob_eq
    (by kernel_rfl) (fun s => by kernel_rfl) Pr.run (by kernel_rfl) (by kernel_rfl) (by kernel_rfl) (by rfl) (by first | assumption | decide +kernel) (by decide +kernel) ⟨rfl, rfl, rfl, rfl, rfl, by decide +kernel⟩ ?hw ?hc
  case hw => w_witness2
  case hc =>
    refine L2.walk_ofE (l := PySem.Challenge.rw_errortells_k30_moved_orders) (n := 63) (k := 6) (x := "_law_script") (CX := L2.CX0) rfl (by decide) (by kernel_rfl) ⟨rfl, by decide, by decide⟩ ?F (fun _ _ _ _ z => z)
    intro w mg fa h Y G hmg0
    obtain ⟨K, KX, c⟩ := Y
    have hmg : mg ("law" : PySem.Str) = some (.ref fa) := by
      have e : (HandSHeadRun.topDef (OpenLaw.row PySem.Challenge.rw_errortells_k30_moved_orders).prog 13).name = ("law" : PySem.Str) := by kernel_rfl
      rw [← e]
      exact hmg0
    obtain ⟨fd, hb, hF⟩ := Pr.facts (P := (PySem.Challenge.rw_errortells_k30_moved_orders).prog) (w := w) KX G hmg c 100 5 (Pr.law_run (w := 100) (k := 0) (by decide))
    exact ⟨K, fd, Ev.spLaw K, KX, hb, fun H a ns hl _ hS => ⟨a, ns, rfl, hS, hl, fun _ => rfl⟩, hF⟩
