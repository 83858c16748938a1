import PyProof.Rows.All
import Wide.All
import OpenK.AllK
import Wide.FinOn
import HandS.ForMost
import HandS.Wide
import HandS.IsInst
import HandS.More
import HandS.TupAny
import HandS.Deep
import HandS.HeadHook1
import HandS.HeadHook2
import HandS.ExcCtx
import HandS.ExcInit
import HandS.ExcField
import HandS.HotCalls
import KE.KExcIs
import HandS.SortInts
import HandS.Star
import HandS.ClsMeth
import HandS.Property
import HandS.OwnEq
import KE.KRevSl
import HandS.Head0
import HandS.Head1
import HandS.Head2
import HandS.HeadEnd
import PySem.Challenge.RW_errortells_k05_columns_and_schemas
set_option Elab.async false
set_option linter.all false
set_option maxRecDepth 100000
set_option maxHeartbeats 0
/-! An evaluator for the texts at hand, over own data, and its soundness over the hand layer. -/
namespace Ev
open PySem L2

/-! ### data, store, results -/
inductive D where
  | non | bl (b : Bool) | int (i : Int) | str (x : Str) | tup (xs : List D)
  | lv (xs : List D)
  | fl (xs : List D)
  | ref (n : Nat)
  | ty (n : String)
  | vw (t : Nat) (xs : List D)
  | ob (c : Str) (ks : List Str) (xs : List D)
  deriving Inhabited
inductive O where
  | lst (xs : List D) | ins (c : Str) (ks : List Str) (xs : List D) | dead
  deriving Inhabited
abbrev Sto := List O
inductive R (α : Type) where
  | ok (a : α) (S : Sto) | ex (c : Str) (fs : List (Str × D)) (S : Sto) | stuck
def R.bind {α β : Type} : R α → (α → Sto → R β) → R β
  | .ok a S, f => f a S
  | .ex c fs S, _ => .ex c fs S
  | .stuck, _ => .stuck
@[simp] theorem R.bind_ok {α β : Type} (a : α) (S : Sto) (f : α → Sto → R β) : (R.ok a S).bind f = f a S := (rfl)
@[simp] theorem R.bind_ex {α β : Type} (c : Str) (fs : List (Str × D)) (S : Sto) (f : α → Sto → R β) : (R.ex c fs S).bind f = .ex c fs S := (rfl)
@[simp] theorem R.bind_stuck {α β : Type} (f : α → Sto → R β) : (R.stuck).bind f = .stuck := (rfl)
abbrev Sg := List (Option D)
/-- no exception comes out: where one would, the run is stuck -/
def R.nox {α : Type} : R α → R α
  | .ok a S => .ok a S
  | .ex _ _ _ => .stuck
  | .stuck => .stuck
/-- a run that wants a condition -/
def gd {α : Type} (b : Bool) (r : R α) : R α := match b with
  | true => r
  | false => .stuck
@[simp] theorem gd_t {α : Type} (r : R α) : gd true r = r := (rfl)
@[simp] theorem gd_f {α : Type} (r : R α) : gd false r = .stuck := (rfl)
@[simp] theorem R.nox_ok {α : Type} (a : α) (S : Sto) : (R.ok a S).nox = .ok a S := (rfl)

/-! ### the own syntax -/
inductive BOp where | add | sub | mul | fdiv | mod | pow deriving DecidableEq
inductive COp where | lt | le | gt | ge | eq | ne | in_ | nin | is_ | isn deriving DecidableEq
inductive Blt where | len | abs | int | list | tuple | str | max | min | sum | any | all | isi | sorted deriving DecidableEq
inductive Mth where | append | insert | pop deriving DecidableEq
inductive W1 where | abs | len | neg | inv deriving DecidableEq
inductive W2o where | inn | nin deriving DecidableEq
inductive Tg where | nm (i : Nat) | tp (is : List Nat)
mutual
inductive E where
  | var (i : Nat) | glob (x : Str) | ty (n : String) | cint (i : Int) | cstr (x : Str) | cbl (b : Bool) | cnon
  | bin (op : BOp) (a b : E) | neg (a : E) | not (a : E)
  | cmp (op : COp) (a b : E) | chain (op op2 : COp) (a b c : E)
  | and1 (a : E) | and2 (a b : E) | or1 (a : E) | or2 (a b : E) | ife (t a b : E)
  | tup (es : Es) | lst (es : Es) | lstM (es : Es)
  | ix (a i : E) | sl (a lo hi : E) | nop
  | call (x f : Str) (es : Es) | blt (f : Blt) (es : Es) | bltM (f : Blt) (es : Es) | meth (m : Mth) (a : E) (es : Es)
  | lc (elt : E) (tg : Tg) (it : It) (cond : E)
  | frz (a : E) | binM (a b : E) | rev (a : E)
  | fld (a : E) (f : Str) | prop (a : E) (f : Str) | mc (m v : Str) (a : E) (es : Es) | o1 (w : W1) (a : E) | o2 (w : W2o) (a b : E) | kc (c f : Str)
  | oe (a b : E) | isc (c : Str) (a : E) | thw (a : E) | trk (a : E)
inductive Es where
  | nil | cons (e : E) (es : Es)
inductive It where
  | seq (e : E) | rng1 (e : E) | rng2 (a b : E)
end
mutual
inductive HE where
  | kinds (f : Str) | fld (f : Str) | var (i : Nat) | cstr (x : Str) | cint (i : Int) | cbl (b : Bool) | cnon
  | lst (hs : HEs) | tup (hs : HEs)
inductive HEs where
  | nil | cons (h : HE) (hs : HEs)
end
mutual
inductive S where
  | raise_ (x : Str) (es : Es) | raise0 (x : Str) | try_ (b : Ss) (c : Str) (i : Nat) (h : HE) | trym (b : Ss) (cs : List (Str × Nat × HE))
  | asg (tg : Tg) (e : E) | seti (o i e : E) | expr (e : E) | ret (e : E) | retN
  | ifs (t : E) (a b : Ss) | for_ (tg : Tg) (it : It) (b : Ss) | whl (t : E) (b : Ss)
  | pass | brk | ctn | never | setf (o : E) (f : Str) (e : E)
inductive Ss where
  | nil | cons (s : S) (ss : Ss)
end

/-! ### what operations do -/
def lim : Nat := 100000
mutual
def toPy : D → Option PyData
  | .non => some .none | .bl b => some (.bool b) | .int i => some (.int i) | .str x => some (.str x)
  | .tup xs => (toPys xs).map .tuple
  | .lv xs => (toPys xs).map .list
  | .fl xs => (toPys xs).map .list
  | .ref _ => none | .ty _ => none | .vw _ _ => none | .ob _ _ _ => none
def toPys : List D → Option (List PyData)
  | [] => some []
  | d :: ds => match toPy d, toPys ds with
    | some x, some xs => some (x :: xs)
    | _, _ => none
end
def topPy (S : Sto) : D → Option PyData
  | .ref n => match S[n]? with
    | some (.lst xs) => (toPys xs).map .list
    | _ => none
  | .vw _ xs => (toPys xs).map .list
  | d => toPy d
/-- the items of a sequence that is walked -/
def items (S : Sto) : D → Option (List D)
  | .tup xs => some xs | .lv xs => some xs | .fl xs => some xs | .vw _ xs => some xs
  | .ref n => match S[n]? with
    | some (.lst xs) => some xs
    | _ => none
  | .str x => some (x.cps.toList.map fun c => .str ⟨#[c]⟩)
  | _ => none
def isSeq : D → Bool
  | .tup _ | .lv _ | .fl _ | .ref _ | .vw _ _ => true
  | _ => false
def lengthOf (S : Sto) : D → Option Nat
  | .str x => if x.length ≤ lim then some x.length else none
  | d => (items S d).map List.length
def truth (S : Sto) : D → Option Bool
  | .non => some false | .bl b => some b | .int i => some (i != 0)
  | .str x => if x.length ≤ lim then some ((x.length : Int) != 0) else none
  | .tup xs => some (!xs.isEmpty) | .lv xs => some (!xs.isEmpty) | .fl xs => some (!xs.isEmpty) | .vw _ xs => some (!xs.isEmpty)
  | .ref n => match S[n]? with
    | some (.lst xs) => some (!xs.isEmpty)
    | _ => none
  | .ty _ => none | .ob _ _ _ => none
/-- a value's truth, as a run -/
def tr (d : D) (S : Sto) : R Bool := match truth S d with
  | some b => .ok b S
  | none => .stuck
def tyName (S : Sto) : D → Option String
  | .non => some "NoneType" | .bl _ => some "bool" | .int _ => some "int" | .str _ => some "str" | .tup _ => some "tuple"
  | .lv _ => some "list" | .fl _ => none | .vw _ _ => some "list"
  | .ref n => match S[n]? with
    | some (.lst _) => some "list"
    | _ => none
  | .ty _ => none | .ob _ _ _ => none
def ofOpt {α : Type} (S : Sto) : Option α → R α
  | some a => .ok a S
  | none => .stuck
@[simp] theorem ofOpt_some {α : Type} (S : Sto) (a : α) : ofOpt S (some a) = .ok a S := (rfl)
@[simp] theorem ofOpt_none {α : Type} (S : Sto) : ofOpt S (none : Option α) = .stuck := (rfl)
/-- a list's items, of a kind that + takes -/
def listOf (S : Sto) : D → Option (List D)
  | .lv xs => some xs
  | .vw _ xs => some xs
  | .ref n => match S[n]? with
    | some (.lst xs) => some xs
    | _ => none
  | _ => none
def CMulD (i j : Int) : Bool := (decide (-(2 ^ 64) < i ∧ i < 2 ^ 64) || decide (-(2 ^ 64) < j ∧ j < 2 ^ 64)) || decide (i.natAbs.log2 + j.natAbs.log2 < 1000000)
def binD (op : BOp) (a b : D) (S : Sto) : R D := match op, a, b with
  | .add, .int i, .int j => .ok (.int (i + j)) S
  | .add, .str x, .str y => if x.length + y.length ≤ lim then .ok (.str (x ++ y)) S else .stuck
  | .add, .tup xs, .tup ys => if xs.length + ys.length ≤ lim then .ok (.tup (xs ++ ys)) S else .stuck
  | .add, a, b => match listOf S a, listOf S b with
    | some xs, some ys => if xs.length + ys.length ≤ lim then .ok (.lv (xs ++ ys)) S else .stuck
    | _, _ => .stuck
  | .sub, .int i, .int j => .ok (.int (i - j)) S
  | .mul, .int i, .int j => if CMulD i j = true then .ok (.int (i * j)) S else .stuck
  | .fdiv, .int i, .int j => if 0 < j ∧ j.natAbs.log2 < 9000 then .ok (.int (i / j)) S else .stuck
  | .mod, .int i, .int j => if 0 < j then .ok (.int (i % j)) S else .stuck
  | .pow, .int i, .int j => if 0 ≤ j ∧ j ≤ 1000000 ∧ i.natAbs < 2 ^ 64 then .ok (.int (i ^ j.toNat)) S else .stuck
  | _, _, _ => .stuck
def catM (a b : D) (S : Sto) : R D := match listOf S a, listOf S b with
  | some xs, some ys => if xs.length + ys.length ≤ lim then .ok (.ref S.length) (S ++ [.lst (xs ++ ys)]) else .stuck
  | _, _ => .stuck
def eqS : D → D → Option Bool
  | .str x, .str y => some (decide (x = y))
  | .int x, .int y => some (decide (x = y))
  | .bl x, .bl y => some (decide (x = y))
  | _, _ => none
def eqD (S : Sto) (a b : D) : Option Bool := match eqS a b with
  | some k => some k
  | none => match topPy S a, topPy S b with
    | some x, some y => if SeqAt.shaped x && SeqAt.shaped y then some (PyData.eqv x y) else none
    | _, _ => none
def intsOf : List D → Option (List Int)
  | [] => some []
  | .int i :: ds => (intsOf ds).map (i :: ·)
  | _ => none
def boolsOf : List D → Option (List Bool)
  | [] => some []
  | .bl i :: ds => (boolsOf ds).map (i :: ·)
  | _ => none
def ltD (S : Sto) : D → D → Option Bool
  | .int i, .int j => some (decide (i < j))
  | .str x, .str y => some (decide (x.cps.toList < y.cps.toList))
  | .tup xs, .tup ys => match intsOf xs, intsOf ys with
    | some ns, some ms => some (HT.lexLt ns ms)
    | _, _ => none
  | _, _ => none
def leD : D → D → Option Bool
  | .int i, .int j => some (decide (i ≤ j))
  | .str x, .str y => some (!decide (y.cps.toList < x.cps.toList))
  | _, _ => none
def gtD : D → D → Option Bool
  | .int i, .int j => some (decide (j < i))
  | .str x, .str y => some (decide (y.cps.toList < x.cps.toList))
  | _, _ => none
def geD : D → D → Option Bool
  | .int i, .int j => some (decide (j ≤ i))
  | .str x, .str y => some (!decide (x.cps.toList < y.cps.toList))
  | _, _ => none
def flatD : D → Bool
  | .non | .bl _ | .int _ | .str _ => true
  | _ => false
def toV : D → V
  | .non => .non | .bl b => .bl b | .int i => .int i | .str x => .str x
  | _ => .non
def inD (S : Sto) : D → D → Option Bool
  | .str x, .str y => match x.cps.toList with
    | [c] => some (decide (c ∈ y.cps.toList))
    | _ => none
  | x, d => match items S d with
    | some ys => if isSeq d && flatD x && ys.all flatD then some (inV (toV x) (ys.map toV)) else match topPy S x, topPy S d with
      | some a, some (.list ds) => if SeqAt.shaped a && SeqAt.shaped (.list ds) then some (ds.any fun z => PyData.eqv z a) else none
      | some a, some (.tuple ds) => if SeqAt.shaped a && SeqAt.shaped (.tuple ds) then some (ds.any fun z => PyData.eqv z a) else none
      | _, _ => none
    | none => none
def isD : D → D → Option Bool
  | .non, .non => some true
  | .bl _, .non => some false | .int _, .non => some false | .str _, .non => some false | .tup _, .non => some false
  | .lv _, .non => some false | .ref _, .non => some false | .vw _ _, .non => some false | .ob _ _ _, .non => some false
  | _, _ => none
def cmpO (op : COp) (a b : D) (S : Sto) : Option Bool := match op with
  | .lt => ltD S a b | .le => leD a b | .gt => gtD a b | .ge => geD a b
  | .eq => eqD S a b | .ne => (eqD S a b).map (!·)
  | .in_ => inD S a b | .nin => (inD S a b).map (!·)
  | .is_ => isD a b | .isn => (isD a b).map (!·)
def cmpD (op : COp) (a b : D) (S : Sto) : R D := (ofOpt S (cmpO op a b S)).bind fun b S => .ok (.bl b) S
def ixD (a i : D) (S : Sto) : R D := match a, i with
  | .str x, .int i => if x.length ≤ lim then ofOpt S ((atI x.cps.toList i).map fun c => .str ⟨#[c]⟩) else .stuck
  | a, .int i => match items S a with
    | some xs => ofOpt S (atI xs i)
    | none => .stuck
  | _, _ => .stuck
def cutD (xs : List D) (lo hi : Option Int) : List D := (xs.drop (HT.sIx xs.length 0 lo)).take (HT.sIx xs.length xs.length hi - HT.sIx xs.length 0 lo)
def slD (a : D) (lo hi : Option Int) (S : Sto) : R D := match a with
  | .str x => if x.length ≤ lim then .ok (.str (cutS x lo hi)) S else .stuck
  | .tup xs => .ok (.tup (cutD xs lo hi)) S
  | a => match listOf S a with
    | some xs => .ok (.lv (cutD xs lo hi)) S
    | none => .stuck
def lenD (vs : List D) (S : Sto) : R D := match vs with
  | [d] => match lengthOf S d with
    | some n => .ok (.int (n : Nat)) S
    | none => .stuck
  | _ => .stuck
def absD (vs : List D) (S : Sto) : R D := match vs with
  | [.int i] => .ok (.int (if i < 0 then -i else i)) S
  | _ => .stuck
def intD (vs : List D) (S : Sto) : R D := match vs with
  | [.int i] => .ok (.int i) S
  | [.bl k] => .ok (.int (if k then 1 else 0)) S
  | _ => .stuck
def lstD (vs : List D) (S : Sto) : R D := match vs with
  | [d] => if isSeq d then (match items S d with
    | some xs => .ok (.lv xs) S
    | none => .stuck) else .stuck
  | _ => .stuck
def tupD (vs : List D) (S : Sto) : R D := match vs with
  | [.tup xs] => .ok (.tup xs) S
  | [d] => if isSeq d then (match items S d with
    | some xs => .ok (.tup xs) S
    | none => .stuck) else .stuck
  | _ => .stuck
def strD (vs : List D) (S : Sto) : R D := match vs with
  | [.int i] => if i.natAbs.log2 < 1920 then .ok (.str (toString i)) S else .stuck
  | _ => .stuck
def maxD (vs : List D) (S : Sto) : R D := match vs with
  | [.int i, .int j] => .ok (.int (if j > i then j else i)) S
  | _ => .stuck
def minD (vs : List D) (S : Sto) : R D := match vs with
  | [.int i, .int j] => .ok (.int (if j < i then j else i)) S
  | _ => .stuck
def sumD (vs : List D) (S : Sto) : R D := match vs with
  | [d] => match (listOf S d).bind intsOf with
    | some ns => .ok (.int ns.sum) S
    | none => .stuck
  | _ => .stuck
def sortI (ns : List Int) : List Int := ns.mergeSort fun a b => decide (a ≤ b)
def sortedD (vs : List D) (S : Sto) : R D := match vs with
  | [d] => match (listOf S d).bind intsOf with
    | some ns => .ok (.lv ((sortI ns).map D.int)) S
    | none => .stuck
  | _ => .stuck
def anyD (vs : List D) (S : Sto) : R D := match vs with
  | [d] => match (listOf S d).bind boolsOf with
    | some bs => .ok (.bl (bs.any id)) S
    | none => .stuck
  | _ => .stuck
def allD (vs : List D) (S : Sto) : R D := match vs with
  | [d] => match (listOf S d).bind boolsOf with
    | some bs => .ok (.bl (bs.all id)) S
    | none => .stuck
  | _ => .stuck
def isiD (vs : List D) (S : Sto) : R D := match vs with
  | [d, .ty n] => match tyName S d with
    | some t => (match kitB t n with
      | some b => .ok (.bl b) S
      | none => .stuck)
    | none => .stuck
  | _ => .stuck
def bltD (f : Blt) (vs : List D) (S : Sto) : R D := match f with
  | .len => lenD vs S | .abs => absD vs S | .int => intD vs S | .list => lstD vs S | .tuple => tupD vs S | .str => strD vs S
  | .max => maxD vs S | .min => minD vs S | .sum => sumD vs S | .any => anyD vs S | .all => allD vs S | .isi => isiD vs S | .sorted => sortedD vs S
/-- a new list that may be changed -/
def thaw (d : D) (S : Sto) : R D := match d with
  | .lv xs => .ok (.ref S.length) (S ++ [.lst xs])
  | _ => .stuck
def frzD (d : D) (S : Sto) : R D := match d with
  | .ref n => match S[n]? with
    | some (.lst xs) => .ok (.lv xs) (S.set n .dead)
    | some (.ins c ks xs) => .ok (.ob c ks xs) (S.set n .dead)
    | _ => .stuck
  | _ => .stuck
/-- a list turned round -/
def revD (d : D) (S : Sto) : R D := match listOf S d with
  | some xs => .ok (.lv xs.reverse) S
  | none => .stuck
def appF (xs vs : List D) : Option (D × List D) := match vs with
  | [d] => if xs.length < lim then some (.non, xs ++ [d]) else none
  | _ => none
def insF (xs vs : List D) : Option (D × List D) := match vs with
  | [.int i, d] => if xs.length < lim ∧ 0 ≤ i ∧ i < 2 ^ 62 then some (.non, xs.take i.toNat ++ d :: xs.drop i.toNat) else none
  | _ => none
def popF (xs vs : List D) : Option (D × List D) := match vs with
  | [.int i] => if 0 ≤ i ∧ i < xs.length ∧ xs.length ≤ lim then (match xs[i.toNat]? with
    | some d => some (d, xs.eraseIdx i.toNat)
    | none => none) else none
  | _ => none
def Mth.run : Mth → List D → List D → Option (D × List D)
  | .append => appF | .insert => insF | .pop => popF
def methD (m : Mth) (o : D) (vs : List D) (S : Sto) : R D := match o with
  | .ref n => match S[n]? with
    | some (.lst xs) => (match m.run xs vs with
      | some (d, ys) => .ok d (S.set n (.lst ys))
      | none => .stuck)
    | _ => .stuck
  | _ => .stuck
def setiD (o i d : D) (S : Sto) : R Unit := match o, i with
  | .ref n, .int i => match S[n]? with
    | some (.lst xs) => match ixN xs.length i with
      | some j => .ok () (S.set n (.lst (xs.set j d)))
      | none => .stuck
    | _ => .stuck
  | _, _ => .stuck
/-- attributes, by two lists -/
def fldOf {α : Type} : List Str → List α → Str → Option α
  | k :: ks, d :: ds, f => if f = k then some d else fldOf ks ds f
  | _, _, _ => none
def putKs (f : Str) : List Str → List Str
  | [] => [f]
  | k :: ks => if k = f then k :: ks else k :: putKs f ks
def putDs {α : Type} (f : Str) (d : α) : List Str → List α → List α
  | k :: ks, x :: xs => if k = f then d :: xs else x :: putDs f d ks xs
  | _, _ => [d]
/-- the class and the attributes of an own instance -/
def selfOf (S : Sto) : D → Option (Str × List Str × List D)
  | .ob c ks ds => some (c, ks, ds)
  | .ref n => match S[n]? with
    | some (.ins c ks ds) => some (c, ks, ds)
    | _ => none
  | _ => none
def W1.nm : W1 → Str
  | .abs => "__abs__" | .len => "__len__" | .neg => "__neg__" | .inv => "__invert__"
def W2o.nm : W2o → Str
  | .inn => "__contains__" | .nin => "__contains__"
def W1.post : W1 → D → Sto → R D
  | .len, .int n, S => if 0 ≤ n ∧ n ≤ lim then .ok (.int n) S else .stuck
  | .len, _, _ => .stuck
  | _, d, S => .ok d S
def W2o.post : W2o → D → Sto → R D
  | .inn, .bl b, S => .ok (.bl b) S
  | .nin, .bl b, S => .ok (.bl (!b)) S
  | _, _, _ => .stuck
def setAll : List Nat → List D → Sg → Option Sg
  | [], [], σ => some σ
  | i :: is, d :: ds, σ => setAll is ds (σ.set i (some d))
  | _, _, _ => none
def setTg : Tg → D → Sg → Option Sg
  | .nm i, d, σ => some (σ.set i (some d))
  | .tp is, .tup ds, σ => setAll is ds σ
  | .tp _, _, _ => none
def wipeD (σ : Sg) : List Nat → Sg
  | [] => σ
  | v :: vs => (wipeD σ vs).set v none
def Tg.slots : Tg → List Nat
  | .nm i => [i]
  | .tp is => is

structure Ctx where
  call : Str → Str → List D → Sto → R D
  con : Str → Option D
  w : Nat
  ok : Str → Str → Bool
  lev : Nat
  exc : Str → Option (Option (List (Str × Bool)))
  sub : Str → Str → Bool
  kin : Str × List Str
  fk : Str → Str → Bool
  mth : Str → Str → Str → Option Str
  kc : Str → Str → Option D
  isc : Str → Str → Option Bool
  isg : Str → Bool
def fldD (Γ : Ctx) (f : Str) (x : D) (S : Sto) : R D := match selfOf S x with
  | some (c, ks, ds) => gd (Γ.fk c f) (ofOpt S (fldOf ks ds f))
  | none => .stuck
/-- the key of an own method -/
def keyD (Γ : Ctx) (m v : Str) (x : D) (S : Sto) : Option Str := match selfOf S x with
  | some (c, ks, _) => if ks.contains m then none else Γ.mth c m v
  | none => none
def o1D (Γ : Ctx) (w : W1) (x : D) (S : Sto) : R D := match keyD Γ w.nm "low" x S with
  | some f => (Γ.call f f [x] S).nox.bind w.post
  | none => .stuck
def o2D (Γ : Ctx) (w : W2o) (x y : D) (S : Sto) : R D := match keyD Γ w.nm "" y S with
  | some f => (Γ.call f f [y, x] S).nox.bind w.post
  | none => .stuck
def propD (Γ : Ctx) (f : Str) (x : D) (S : Sto) : R D := match keyD Γ f "prop" x S with
  | some g => (Γ.call g g [x] S).nox
  | none => .stuck
def setfD (Γ : Ctx) (f : Str) (o x : D) (S : Sto) : R Unit := match o with
  | .ref n => match S[n]? with
    | some (.ins c ks ds) => gd (Γ.fk c f) (if ks.length < 900 then .ok () (S.set n (.ins c (putKs f ks) (putDs f x ks ds))) else .stuck)
    | _ => .stuck
  | _ => .stuck
/-- two instances that are surely not one -/
def flatNe : D → D → Bool
  | .int i, .int j => decide (i ≠ j)
  | .str x, .str y => decide (x ≠ y)
  | .bl x, .bl y => decide (x ≠ y)
  | _, _ => false
def obDiff : D → D → Bool
  | .ob _ _ xs, .ob _ _ ys => (xs.zip ys).any fun p => flatNe p.1 p.2
  | _, _ => false
def oePost : D → Sto → R D
  | .bl b, S => .ok (.bl b) S
  | _, _ => .stuck
/-- == of two instances with an own __eq__ -/
def oeD (Γ : Ctx) (x y : D) (S : Sto) : R D := match keyD Γ "__eq__" "" x S with
  | some f => (Γ.call f f [x, y] S).nox.bind oePost
  | none => .stuck
def sameC (S : Sto) (x y : D) : Bool := match selfOf S x, selfOf S y with
  | some (c, _, _), some (d, _, _) => decide (c = d)
  | _, _ => false
open Classical in
/-- one pair of items; the store stays -/
noncomputable def teOne (Γ : Ctx) (x y : D) (S : Sto) : Option Bool := match keyD Γ "__eq__" "low" x S with
  | some f => match Γ.call f f [x, y] S with
    | .ok (.bl b) S' => if S' = S ∧ sameC S x y = true ∧ (b = true ∨ obDiff x y = true) then some b else none
    | _ => none
  | none => none
/-- == of the items of two tuples, in order -/
noncomputable def teGo (Γ : Ctx) : List D → List D → Sto → R D
  | x :: xs, y :: ys, S => match teOne Γ x y S with
    | some true => teGo Γ xs ys S
    | some false => .ok (.bl false) S
    | none => .stuck
  | [], [], S => .ok (.bl true) S
  | [], _ :: _, S => .ok (.bl false) S
  | _ :: _, [], S => .ok (.bl false) S
noncomputable def eqoD (Γ : Ctx) (x y : D) (S : Sto) : R D := match x, y with
  | .tup xs, .tup ys => teGo Γ xs ys S
  | x, y => gd (sameC S x y) (oeD Γ x y S)
def iscD (Γ : Ctx) (c : Str) (x : D) (S : Sto) : R D := match selfOf S x with
  | some (b, _, _) => match Γ.isc b c with
    | some k => .ok (.bl k) S
    | none => .stuck
  | none => .stuck
inductive Fl where | nx (σ : Sg) | rt (d : D) | bk (σ : Sg) | ct (σ : Sg) | ex (σ : Sg) (c : Str) (fs : List (Str × D))
/-- an exception out of a statement keeps the slots that it was raised with -/
def R.bindC {α : Type} (σ : Sg) : R α → (α → Sto → R Fl) → R Fl
  | .ok a S, f => f a S
  | .ex c fs S, _ => .ok (.ex σ c fs) S
  | .stuck, _ => .stuck
@[simp] theorem R.bindC_ok {α : Type} (σ : Sg) (a : α) (S : Sto) (f : α → Sto → R Fl) : (R.ok a S).bindC σ f = f a S := (rfl)
@[simp] theorem R.bindC_ex {α : Type} (σ : Sg) (c : Str) (fs : List (Str × D)) (S : Sto) (f : α → Sto → R Fl) : (R.ex c fs S).bindC σ f = .ok (.ex σ c fs) S := (rfl)
@[simp] theorem R.bindC_stuck {α : Type} (σ : Sg) (f : α → Sto → R Fl) : (R.stuck).bindC σ f = .stuck := (rfl)
/-- a comprehension's turns -/
def lcGo (d : D) (tg : Tg) (σ : Sg) (cond elt : Sg → Sto → R D) : Nat → Nat → List D → Sto → R D
  | 0, _, _, _ => .stuck
  | n + 1, i, acc, S => match items S d with
    | none => .stuck
    | some xs => match xs[i]? with
      | none => .ok (.lv acc) S
      | some x => match setTg tg x (wipeD σ tg.slots) with
        | none => .stuck
        | some σ1 => ((cond σ1 S).nox.bind tr).bind fun c S1 => match c with
          | true => (elt σ1 S1).nox.bind fun y S2 => if acc.length < lim then lcGo d tg σ cond elt n (i + 1) (acc ++ [y]) S2 else .stuck
          | false => lcGo d tg σ cond elt n (i + 1) acc S1
def lcRg (tg : Tg) (σ : Sg) (cond elt : Sg → Sto → R D) (lo : Int) : Nat → Nat → List D → Sto → R D
  | 0, _, acc, S => .ok (.lv acc) S
  | n + 1, i, acc, S => match setTg tg (.int (lo + i)) (wipeD σ tg.slots) with
    | none => .stuck
    | some σ1 => ((cond σ1 S).nox.bind tr).bind fun c S1 => match c with
      | true => (elt σ1 S1).nox.bind fun y S2 => if acc.length < lim then lcRg tg σ cond elt lo n (i + 1) (acc ++ [y]) S2 else .stuck
      | false => lcRg tg σ cond elt lo n (i + 1) acc S1
def evPart (no : Bool) (f : Sto → R D) (S : Sto) : R (Option Int) := match no with
  | true => .ok none S
  | false => (f S).bind fun x S => match x with
    | .int i => .ok (some i) S
    | _ => .stuck
def E.isNop : E → Bool
  | .nop => true
  | _ => false
def rngOk (i : Int) : Bool := decide (-(2 ^ 62) ≤ i ∧ i < 2 ^ 62)
mutual
noncomputable def evE (Γ : Ctx) : E → Sg → Sto → R D
  | .var i, σ, S => match σ[i]? with
    | some (some d) => .ok d S
    | _ => .stuck
  | .glob x, _, S => ofOpt S (Γ.con x)
  | .ty n, _, S => .ok (.ty n) S
  | .cint i, _, S => .ok (.int i) S
  | .cstr x, _, S => .ok (.str x) S
  | .cbl b, _, S => .ok (.bl b) S
  | .cnon, _, S => .ok .non S
  | .bin op a b, σ, S => (evE Γ a σ S).bind fun x S => (evE Γ b σ S).bind fun y S => binD op x y S
  | .neg a, σ, S => (evE Γ a σ S).bind fun x S => match x with
    | .int i => .ok (.int (-i)) S
    | _ => .stuck
  | .not a, σ, S => (evE Γ a σ S).bind fun x S => match x with
    | .bl b => .ok (.bl (!b)) S
    | _ => .stuck
  | .cmp op a b, σ, S => (evE Γ a σ S).bind fun x S => (evE Γ b σ S).bind fun y S => cmpD op x y S
  | .chain op op2 a b c, σ, S => (evE Γ a σ S).bind fun x S => (evE Γ b σ S).bind fun y S => (cmpD op x y S).bind fun k S => match k with
    | .bl true => (evE Γ c σ S).bind fun z S => cmpD op2 y z S
    | .bl false => .ok (.bl false) S
    | _ => .stuck
  | .and1 a, σ, S => evE Γ a σ S
  | .and2 a b, σ, S => (evE Γ a σ S).bind fun x S => match x with
    | .bl true => evE Γ b σ S
    | .bl false => .ok (.bl false) S
    | _ => .stuck
  | .or1 a, σ, S => evE Γ a σ S
  | .or2 a b, σ, S => (evE Γ a σ S).bind fun x S => match x with
    | .bl true => .ok (.bl true) S
    | .bl false => evE Γ b σ S
    | _ => .stuck
  | .ife t a b, σ, S => ((evE Γ t σ S).bind tr).bind fun x S => match x with
    | true => evE Γ a σ S
    | false => evE Γ b σ S
  | .tup es, σ, S => (evEs Γ es σ S).bind fun vs S => if vs.length ≤ lim then .ok (.tup vs) S else .stuck
  | .lst es, σ, S => (evEs Γ es σ S).bind fun vs S => if vs.length ≤ lim then .ok (.lv vs) S else .stuck
  | .lstM es, σ, S => (evEs Γ es σ S).bind fun vs S => if vs.length ≤ lim then thaw (.lv vs) S else .stuck
  | .ix a i, σ, S => (evE Γ a σ S).bind fun x S => (evE Γ i σ S).bind fun y S => ixD x y S
  | .sl a lo hi, σ, S => (evE Γ a σ S).bind fun x S => (evPart lo.isNop (evE Γ lo σ) S).bind fun l S => (evPart hi.isNop (evE Γ hi σ) S).bind fun h S => slD x l h S
  | .nop, _, _ => .stuck
  | .call x f es, σ, S => gd (Γ.ok x f) ((evEs Γ es σ S).bind fun vs S => Γ.call x f vs S)
  | .blt f es, σ, S => (evEs Γ es σ S).bind fun vs S => bltD f vs S
  | .bltM f es, σ, S => (evEs Γ es σ S).bind fun vs S => (bltD f vs S).bind thaw
  | .meth m a es, σ, S => (evE Γ a σ S).bind fun o S => match listOf S o with
    | some _ => (evEs Γ es σ S).bind fun vs S => methD m o vs S
    | none => .stuck
  | .lc elt tg (.seq e) cond, σ, S => (evE Γ e σ S).bind fun d S => match items S d with
    | some xs => lcGo d tg σ (evE Γ cond) (evE Γ elt) (xs.length + 1) 0 [] S
    | none => .stuck
  | .lc elt tg (.rng1 e) cond, σ, S => (evE Γ e σ S).bind fun d S => match d with
    | .int j => if rngOk j then lcRg tg σ (evE Γ cond) (evE Γ elt) 0 j.toNat 0 [] S else .stuck
    | _ => .stuck
  | .lc elt tg (.rng2 a b) cond, σ, S => (evE Γ a σ S).bind fun x S => (evE Γ b σ S).bind fun y S => match x, y with
    | .int i, .int j => if rngOk i && rngOk j then lcRg tg σ (evE Γ cond) (evE Γ elt) i (j - i).toNat 0 [] S else .stuck
    | _, _ => .stuck
  | .frz a, σ, S => (evE Γ a σ S).bind frzD
  | .rev a, σ, S => (evE Γ a σ S).bind revD
  | .binM a b, σ, S => (evE Γ a σ S).bind fun x S => (evE Γ b σ S).bind fun y S => catM x y S
  | .fld a f, σ, S => (evE Γ a σ S).bind (fldD Γ f)
  | .prop a f, σ, S => (evE Γ a σ S).bind (propD Γ f)
  | .mc m v a es, σ, S => (evE Γ a σ S).bind fun x S => match keyD Γ m v x S with
    | some f => gd (decide (v ≠ "low" ∧ v ≠ "prop")) ((evEs Γ es σ S).bind fun vs S => Γ.call f f (x :: vs) S)
    | none => .stuck
  | .o1 w a, σ, S => (evE Γ a σ S).bind (o1D Γ w)
  | .o2 w a b, σ, S => (evE Γ a σ S).bind fun x S => (evE Γ b σ S).bind fun y S => o2D Γ w x y S
  | .kc c f, _, S => ofOpt S (Γ.kc c f)
  | .oe a b, σ, S => (evE Γ a σ S).bind fun x S => (evE Γ b σ S).bind fun y S => eqoD Γ x y S
  | .isc c a, σ, S => gd (Γ.isg c) ((evE Γ a σ S).bind (iscD Γ c))
  | .thw a, σ, S => (evE Γ a σ S).bind thaw
  | .trk a, σ, S => evE Γ a σ S
termination_by structural e => e
noncomputable def evEs (Γ : Ctx) : Es → Sg → Sto → R (List D)
  | .nil, _, S => .ok [] S
  | .cons e es, σ, S => (evE Γ e σ S).bind fun x S => (evEs Γ es σ S).bind fun xs S => .ok (x :: xs) S
termination_by structural e => e
end
/-! ### statements -/
def seqK (g : Sg → Sto → R Fl) : Fl → Sto → R Fl
  | .nx σ, S => g σ S
  | .rt d, S => .ok (.rt d) S
  | .bk σ, S => .ok (.bk σ) S
  | .ct σ, S => .ok (.ct σ) S
  | .ex σ c fs, S => .ok (.ex σ c fs) S
def loopK (next : Sg → Sto → R Fl) : Fl → Sto → R Fl
  | .nx σ, S => next σ S
  | .ct σ, S => next σ S
  | .bk σ, S => .ok (.nx σ) S
  | .rt v, S => .ok (.rt v) S
  | .ex σ c fs, S => .ok (.ex σ c fs) S
def forGo (d : D) (tg : Tg) (body : Sg → Sto → R Fl) : Nat → Nat → Sg → Sto → R Fl
  | 0, _, _, _ => .stuck
  | n + 1, i, σ, S => match items S d with
    | none => .stuck
    | some xs => match xs[i]? with
      | none => .ok (.nx σ) S
      | some x => match setTg tg x σ with
        | none => .stuck
        | some σ1 => (body σ1 S).bind (loopK (forGo d tg body n (i + 1)))
def forRg (tg : Tg) (body : Sg → Sto → R Fl) (lo : Int) : Nat → Nat → Sg → Sto → R Fl
  | 0, _, σ, S => .ok (.nx σ) S
  | n + 1, i, σ, S => match setTg tg (.int (lo + i)) σ with
    | none => .stuck
    | some σ1 => (body σ1 S).bind (loopK (forRg tg body lo n (i + 1)))
def whGo (c : Sg → Sto → R D) (body : Sg → Sto → R Fl) : Nat → Sg → Sto → R Fl
  | 0, _, _ => .stuck
  | n + 1, σ, S => ((c σ S).nox.bind tr).bind fun x S1 => match x with
    | true => (body σ S1).bind (loopK (whGo c body n))
    | false => .ok (.nx σ) S1
def Ctx.fok (Γ : Ctx) (c f : Str) : Bool := match Γ.exc c with
  | some (some ps) => decide (f ∈ ps.map (·.1))
  | _ => false
mutual
def evH (Γ : Ctx) (c : Str) (fs : List (Str × D)) : HE → Sg → Sto → R D
  | .kinds f, _, S => if f = Γ.kin.1 ∧ (Γ.kin.2.filter (Γ.sub c)).length ≤ lim then .ok (.lv ((Γ.kin.2.filter (Γ.sub c)).map .str)) S else .stuck
  | .fld f, _, S => gd (Γ.fok c f) (ofOpt S (fs.lookup f))
  | .var i, σ, S => match σ[i]? with
    | some (some d) => .ok d S
    | _ => .stuck
  | .cstr x, _, S => .ok (.str x) S
  | .cint i, _, S => .ok (.int i) S
  | .cbl b, _, S => .ok (.bl b) S
  | .cnon, _, S => .ok .non S
  | .lst hs, σ, S => (evHs Γ c fs hs σ S).bind fun vs S => if vs.length ≤ lim then .ok (.lv vs) S else .stuck
  | .tup hs, σ, S => (evHs Γ c fs hs σ S).bind fun vs S => if vs.length ≤ lim then .ok (.tup vs) S else .stuck
termination_by structural e => e
def evHs (Γ : Ctx) (c : Str) (fs : List (Str × D)) : HEs → Sg → Sto → R (List D)
  | .nil, _, S => .ok [] S
  | .cons h hs, σ, S => (evH Γ c fs h σ S).bind fun x S => (evHs Γ c fs hs σ S).bind fun xs S => .ok (x :: xs) S
termination_by structural e => e
end
/-- arguments of an exception: where the message is made of one, it is a short text -/
def argsX : List (Str × Bool) → List D → Bool
  | [], [] => true
  | (_, false) :: ps, _ :: ds => argsX ps ds
  | (_, true) :: ps, .str x :: ds => decide (x.length ≤ 1000) && argsX ps ds
  | _, _ => false
def raiseD (Γ : Ctx) (x : Str) (vs : List D) (S : Sto) : R Fl := match Γ.exc x with
  | some (some ps) => if argsX ps vs = true ∧ vs.length ≤ 1000 then .ex x ((ps.map (·.1)).zip vs).reverse S else .stuck
  | _ => .stuck
def Ctx.rok (Γ : Ctx) (x : Str) : Bool := match Γ.exc x with
  | some (some _) => decide (2 ≤ Γ.lev)
  | _ => false
def raise0D (Γ : Ctx) (x : Str) (S : Sto) : R Fl := match Γ.exc x with
  | some none => .ex x [] S
  | _ => .stuck
def Ctx.tok (Γ : Ctx) (c : Str) : Bool := (Γ.exc c).isSome && decide (2 ≤ Γ.lev)
def tryK (Γ : Ctx) (c : Str) (i : Nat) (h : HE) : Fl → Sto → R Fl
  | .ex σ c' fs, S => if (Γ.exc c').isSome then (match Γ.sub c' c with
    | true => (evH Γ c' fs h (σ.set i none) S).nox.bind fun d S => .ok (.rt d) S
    | false => .ok (.ex σ c' fs) S) else .stuck
  | .nx σ, S => .ok (.nx σ) S
  | .rt d, S => .ok (.rt d) S
  | .bk σ, S => .ok (.bk σ) S
  | .ct σ, S => .ok (.ct σ) S
/-- the clauses of a try, one behind another -/
def hsel (Γ : Ctx) (c' : Str) (fs : List (Str × D)) : List (Str × Nat × HE) → Sg → Sto → R Fl
  | [], σ, S => .ok (.ex σ c' fs) S
  | (c, i, h) :: r, σ, S => match Γ.sub c' c with
    | true => (evH Γ c' fs h (σ.set i none) S).nox.bind fun d S => .ok (.rt d) S
    | false => hsel Γ c' fs r σ S
def trymK (Γ : Ctx) (cs : List (Str × Nat × HE)) : Fl → Sto → R Fl
  | .ex σ c' fs, S => if (Γ.exc c').isSome then hsel Γ c' fs cs σ S else .stuck
  | .nx σ, S => .ok (.nx σ) S
  | .rt d, S => .ok (.rt d) S
  | .bk σ, S => .ok (.bk σ) S
  | .ct σ, S => .ok (.ct σ) S
mutual
noncomputable def evS (Γ : Ctx) : Ev.S → Sg → Sto → R Fl
  | .raise_ x es, σ, S => gd (Γ.rok x) ((evEs Γ es σ S).bind (raiseD Γ x))
  | .raise0 x, _, S => raise0D Γ x S
  | .try_ b c i h, σ, S => gd (Γ.tok c) ((evSs Γ b σ S).bind (tryK Γ c i h))
  | .asg tg e, σ, S => (evE Γ e σ S).bind fun x S => match setTg tg x σ with
    | some σ1 => .ok (.nx σ1) S
    | none => .stuck
  | .seti o i e, σ, S => (evE Γ e σ S).bind fun x S => (evE Γ o σ S).bind fun o S => (evE Γ i σ S).bind fun i S => (setiD o i x S).bind fun _ S => .ok (.nx σ) S
  | .expr e, σ, S => (evE Γ e σ S).bind fun _ S => .ok (.nx σ) S
  | .ret e, σ, S => (evE Γ e σ S).bind fun x S => .ok (.rt x) S
  | .retN, _, S => .ok (.rt .non) S
  | .ifs t a b, σ, S => ((evE Γ t σ S).bind tr).bind fun x S => match x with
    | true => evSs Γ a σ S
    | false => evSs Γ b σ S
  | .for_ tg (.seq e) b, σ, S => (evE Γ e σ S).bind fun d S => match items S d with
    | some xs => forGo d tg (evSs Γ b) (xs.length + 1) 0 σ S
    | none => .stuck
  | .for_ tg (.rng1 e) b, σ, S => (evE Γ e σ S).bind fun d S => match d with
    | .int j => if rngOk j then forRg tg (evSs Γ b) 0 j.toNat 0 σ S else .stuck
    | _ => .stuck
  | .for_ tg (.rng2 x y) b, σ, S => (evE Γ x σ S).bind fun x S => (evE Γ y σ S).bind fun y S => match x, y with
    | .int i, .int j => if rngOk i && rngOk j then forRg tg (evSs Γ b) i (j - i).toNat 0 σ S else .stuck
    | _, _ => .stuck
  | .whl t b, σ, S => whGo (evE Γ t) (evSs Γ b) Γ.w σ S
  | .pass, σ, S => .ok (.nx σ) S
  | .brk, σ, S => .ok (.bk σ) S
  | .ctn, σ, S => .ok (.ct σ) S
  | .never, _, _ => .stuck
  | .setf o f e, σ, S => (evE Γ e σ S).bind fun x S => (evE Γ o σ S).bind fun o S => (setfD Γ f o x S).bind fun _ S => .ok (.nx σ) S
  | .trym b cs, σ, S => gd (cs.all fun p => Γ.tok p.1) ((evSs Γ b σ S).bind (trymK Γ cs))
termination_by structural e => e
noncomputable def evSs (Γ : Ctx) : Ss → Sg → Sto → R Fl
  | .nil, σ, S => .ok (.nx σ) S
  | .cons s ss, σ, S => (evS Γ s σ S).bindC σ (seqK (evSs Γ ss))
termination_by structural e => e
end
/-! ### defs -/
structure Fn where
  base : Str
  ns : List Str
  ps : List Str
  body : Ss
  star : Bool := false
  own : Option (Str × Str) := none
/-- other keys: a class is made; a def one level lower -/
inductive Ek where
  | mk (base ini : Str) (frz : Bool) | low (g : Str)
structure Prg where
  fns : List (Str × Fn)
  con : List (Str × D)
  w : Nat
  exc : List (Str × Option (List (Str × Bool)))
  sub : List (Str × Str)
  kin : Str × List Str
  eks : List (Str × Ek) := []
  cls : List (Str × List Str) := []
  mt : List ((Str × Str × Str) × Str) := []
  kcs : List ((Str × Str) × D) := []
  isl : List ((Str × Str) × Bool) := []
/-- a key that a plain call names -/
def Prg.has (T : Prg) (x f : Str) : Bool := match T.fns.lookup f with
  | some F => decide (F.base = x) && F.own.isNone
  | none => match T.eks.lookup f with
    | some (.mk b _ _) => decide (b = x)
    | _ => false
def Prg.fk (T : Prg) (c f : Str) : Bool := (T.cls.lookup c).any fun l => l.contains f
def Prg.ctx (T : Prg) (k : Nat) (call : Str → Str → List D → Sto → R D) : Ctx := ⟨call, fun x => T.con.lookup x, T.w, T.has, k, fun x => T.exc.lookup x, fun x y => decide ((x, y) ∈ T.sub), T.kin,
  T.fk, fun c m v => T.mt.lookup (c, m, v), fun c f => T.kcs.lookup (c, f), fun c f => T.isl.lookup (c, f), fun c => T.isl.any fun p => decide (p.1.2 = c)⟩
def retK : Fl → Sto → R D
  | .nx _, S => .ok .non S
  | .rt d, S => .ok d S
  | .ex _ c fs, S => .ex c fs S
  | _, _ => .stuck
/-- the slots at a def's start -/
def argsD (F : Fn) (ds : List D) : Option (List D) := match F.star with
  | false => if ds.length = F.ps.length then some ds else none
  | true => if F.ps.length ≤ ds.length + 1 ∧ 1 ≤ F.ps.length ∧ ds.length ≤ lim then some (ds.take (F.ps.length - 1) ++ [.tup (ds.drop (F.ps.length - 1))]) else none
def mkK (n : Nat) (frz : Bool) : D → Sto → R D
  | .non, S => match frz with
    | true => frzD (.ref n) S
    | false => .ok (.ref n) S
  | _, _ => .stuck
noncomputable def callN (T : Prg) : Nat → Str → Str → List D → Sto → R D
  | 0, _, _, _, _ => .stuck
  | k + 1, x, f, ds, S => match T.fns.lookup f with
    | some F => if x = F.base then (match argsD F ds with
        | some as => (evSs (T.ctx k (callN T k)) F.body (as.map some ++ List.replicate (F.ns.length - as.length) none) S).bind retK
        | none => .stuck)
      else .stuck
    | none => match T.eks.lookup f with
      | some (.mk b i z) => if x = b then (callN T k i i (.ref S.length :: ds) (S ++ [.ins b [] []])).bind (mkK S.length z) else .stuck
      | some (.low g) => callN T k g g ds S
      | none => .stuck
end Ev

namespace Ev
open PySem L2

/-! ### the own syntax against the text -/
def visB (sc : Scope) (x : Str) : Bool := match sc.names.lookup x with
  | some .local => true | some .cell => true | some .free => true
  | _ => false
def glB (sc : Scope) (x : Str) : Bool := (match sc.names.lookup x with
  | some .globalImplicit => true
  | _ => false) && !(x == ("__debug__" : Str))
def stB (sc ws : Scope) (x : Str) : Bool := match sc.names.lookup x with
  | some .local => true
  | some .cell => (match ws.names.lookup x with
    | some .cell => true
    | _ => false)
  | _ => false
def BOp.is : BOp → Operator → Bool
  | .add, .Add => true | .sub, .Sub => true | .mul, .Mult => true | .fdiv, .FloorDiv => true | .mod, .Mod => true | .pow, .Pow => true
  | _, _ => false
def COp.is : COp → CmpOp → Bool
  | .lt, .Lt => true | .le, .LtE => true | .gt, .Gt => true | .ge, .GtE => true | .eq, .Eq => true | .ne, .NotEq => true
  | .in_, .In => true | .nin, .NotIn => true | .is_, .Is => true | .isn, .IsNot => true
  | _, _ => false
def Blt.nm : Blt → Str
  | .len => "len" | .abs => "abs" | .int => "int" | .list => "list" | .tuple => "tuple" | .str => "str" | .max => "max" | .min => "min"
  | .sum => "sum" | .any => "any" | .all => "all" | .isi => "isinstance" | .sorted => "sorted"
def Mth.nm : Mth → Str
  | .append => "append" | .insert => "insert" | .pop => "pop"
def tyOk (n : String) (x : Str) : Bool := ((n == "int" && x == "int") || (n == "bool" && x == "bool") || (n == "str" && x == "str") || (n == "list" && x == "list") || (n == "tuple" && x == "tuple"))
def E.tst : E → Bool
  | .ife _ _ _ => false
  | .not a => a.tst
  | .and1 a => a.tst
  | .and2 a b => a.tst && b.tst
  | .or1 a => a.tst
  | .or2 a b => a.tst && b.tst
  | .frz a => false
  | .thw a => false
  | .trk a => false
  | _ => true
def E.isBo : E → Bool
  | .and1 _ | .and2 _ _ | .or1 _ | .or2 _ _ => true
  | _ => false
def notSl : Expr → Bool
  | .Slice _ _ _ _ => false
  | _ => true
def isBs : Expr → Bool
  | .Name _ _ => true
  | .Subscript _ _ _ => true
  | _ => false
/-- whose attribute is read by no rule of its own -/
def noCall : Expr → Bool
  | .Call (.Name _ _) [] [] _ => false
  | _ => true
def W2o.is : W2o → CmpOp → Bool
  | .inn, .In => true | .nin, .NotIn => true
  | _, _ => false
def isM1 : Expr → Bool
  | .UnaryOp .USub (.Constant (.int 1) _ _) _ => true
  | _ => false
def isRv : Expr → Bool
  | .Slice none none (some st) _ => isM1 st
  | _ => false
def isNm : Expr → Bool
  | .Name _ _ => true
  | _ => false
def fitNs (N : List Str) (sc ws : Scope) : List Nat → List Expr → Bool
  | [], [] => true
  | i :: is, .Name x _ :: es => decide (N[i]? = some x) && stB sc ws x && fitNs N sc ws is es
  | _, _ => false
def fitTg (N : List Str) (sc ws : Scope) : Tg → Expr → Bool
  | .nm i, .Name x _ => decide (N[i]? = some x) && stB sc ws x
  | .tp is, .Tuple es _ _ => fitNs N sc ws is es
  | _, _ => false
def ownNs : List Nat → List Expr → List (Str × Nat)
  | i :: is, .Name x _ :: es => (x, i) :: ownNs is es
  | _, _ => []
def ownOf : Tg → Expr → List (Str × Nat)
  | .nm i, .Name x _ => [(x, i)]
  | .tp is, .Tuple es _ _ => ownNs is es
  | _, _ => []
def E.isLc : E → Bool
  | .lc _ _ _ _ => true
  | _ => false
mutual
def fitE (N : List Str) (sc ws : Scope) : E → Expr → Bool
  | .var i, .Name x _ => decide (N[i]? = some x) && visB sc x && !(x == ("__debug__" : Str)) && !(x == ("__classdict__" : Str))
  | .glob y, .Name x _ => decide (x = y) && glB sc x
  | .ty n, .Name x _ => tyOk n x && glB sc x
  | .cint i, .Constant (.int j) _ _ => decide (i = j)
  | .cstr x, .Constant (.str y) _ _ => decide (x = y)
  | .cbl x, .Constant (.bool y) _ _ => decide (x = y)
  | .cnon, .Constant .none _ _ => true
  | .bin op a b, .BinOp ea o eb _ => op.is o && fitE N sc ws a ea && fitE N sc ws b eb
  | .neg a, .UnaryOp .USub ea _ => fitE N sc ws a ea
  | .not a, .UnaryOp .Not ea _ => fitE N sc ws a ea
  | .cmp op a b, .Compare ea [o] [eb] _ => op.is o && fitE N sc ws a ea && fitE N sc ws b eb && !(behindInMarks o eb)
  | .chain op op2 a b c, .Compare ea [o, o2] [eb, ec] _ => op.is o && op2.is o2 && fitE N sc ws a ea && fitE N sc ws b eb && fitE N sc ws c ec && !(lastMarks [o, o2] [eb, ec])
  | .and1 a, .BoolOp .And [ea] _ => fitE N sc ws a ea
  | .and2 a b, .BoolOp .And (ea :: eb :: r) p => fitE N sc ws a ea && b.isBo && fitE N sc ws b (.BoolOp .And (eb :: r) p)
  | .or1 a, .BoolOp .Or [ea] _ => fitE N sc ws a ea
  | .or2 a b, .BoolOp .Or (ea :: eb :: r) p => fitE N sc ws a ea && b.isBo && fitE N sc ws b (.BoolOp .Or (eb :: r) p)
  | .ife t a b, .IfExp et ea eb _ => t.tst && fitE N sc ws t et && fitE N sc ws a ea && fitE N sc ws b eb
  | .tup es, .Tuple ees _ _ => fitEs N sc ws es ees
  | .lst es, .List ees _ => fitEs N sc ws es ees
  | .lstM es, .List ees _ => fitEs N sc ws es ees
  | .ix a i, .Subscript ea ei _ => fitE N sc ws a ea && fitE N sc ws i ei && notSl ei
  | .sl a lo hi, .Subscript ea (.Slice l h none _) _ => fitE N sc ws a ea &&
      (match l with | none => lo.isNop | some e => !lo.isNop && fitE N sc ws lo e) && (match h with | none => hi.isNop | some e => !hi.isNop && fitE N sc ws hi e)
  | .call y f es, .Call (.Name x _) (e :: ees) [] _ => decide (x = y) && glB sc x && fitEs N sc ws es (e :: ees)
  | .call y _ .nil, .Call (.Name x _) [] [] _ => decide (x = y) && glB sc x
  | .blt f es, .Call (.Name x _) (e :: ees) [] _ => decide (x = f.nm) && glB sc x && fitEs N sc ws es (e :: ees)
  | .bltM f es, .Call (.Name x _) (e :: ees) [] _ => decide (x = f.nm) && glB sc x && fitEs N sc ws es (e :: ees) && (decide (f = .list))
  | .meth m a es, .Call (.Attribute ea nm ap) (e :: ees) [] cp => decide (nm = m.nm) && isBs ea && fitE N sc ws a ea && fitEs N sc ws es (e :: ees) && (ap.endLine == cp.line) && decide ((e :: ees).length < 29)
  | .lc elt tg it cond, .ListComp eelt [⟨etg, eit, ifs, asy⟩] scope _ => decide (asy = 0) && decide ((ownOf tg etg).map (·.2) = tg.slots) && blkC N sc scope (ownOf tg etg) && fitTg N (relS scope sc) scope tg etg && fitIt N sc ws it eit &&
      (match ifs with | [] => (match cond with | .cbl true => true | _ => false) | [c] => cond.tst && fitE N (relS scope sc) scope cond c | _ => false) && fitE N (relS scope sc) scope elt eelt
  | .frz a, e => fitE N sc ws a e
  | .rev a, .Subscript ea es _ => isNm ea && isRv es && fitE N sc ws a ea
  | .binM a b, .BinOp ea .Add eb _ => fitE N sc ws a ea && fitE N sc ws b eb
  | .fld a f, .Attribute ea nm _ => decide (nm = f) && noCall ea && fitE N sc ws a ea
  | .prop a f, .Attribute ea nm _ => decide (nm = f) && noCall ea && fitE N sc ws a ea
  | .mc m _ a es, .Call (.Attribute ea nm ap) ees [] cp => decide (nm = m) && noCall ea && fitE N sc ws a ea && fitEs N sc ws es ees && (ap.endLine == cp.line) && decide (ees.length < 29)
  | .o1 .abs a, .Call (.Name x _) [ea] [] _ => decide (x = ("abs" : Str)) && glB sc x && fitE N sc ws a ea
  | .o1 .len a, .Call (.Name x _) [ea] [] _ => decide (x = ("len" : Str)) && glB sc x && fitE N sc ws a ea
  | .o1 .neg a, .UnaryOp .USub ea _ => fitE N sc ws a ea
  | .o1 .inv a, .UnaryOp .Invert ea _ => fitE N sc ws a ea
  | .o2 w a b, .Compare ea [o] [eb] _ => w.is o && fitE N sc ws a ea && fitE N sc ws b eb && !(behindInMarks o eb)
  | .kc c f, .Attribute (.Name x _) nm _ => decide (nm = f) && decide (x = c) && glB sc x
  | .oe a b, .Compare ea [o] [eb] _ => decide (o = .Eq) && fitE N sc ws a ea && fitE N sc ws b eb && !(behindInMarks o eb)
  | .isc c a, .Call (.Name x _) [ea, .Name y _] [] _ => decide (x = ("isinstance" : Str)) && glB sc x && decide (y = c) && glB sc y && fitE N sc ws a ea
  | .thw a, e => a.isLc && fitE N sc ws a e
  | .trk a, e => fitE N sc ws a e
  | _, _ => false
termination_by structural e => e
def fitEs (N : List Str) (sc ws : Scope) : Es → List Expr → Bool
  | .nil, [] => true
  | .cons e es, x :: xs => fitE N sc ws e x && fitEs N sc ws es xs
  | _, _ => false
termination_by structural e => e
def fitIt (N : List Str) (sc ws : Scope) : It → Expr → Bool
  | .seq e, x => fitE N sc ws e x
  | .rng1 e, .Call (.Name x _) [a] [] _ => decide (x = "range") && glB sc x && fitE N sc ws e a
  | .rng2 e f, .Call (.Name x _) [a, b] [] _ => decide (x = "range") && glB sc x && fitE N sc ws e a && fitE N sc ws f b
  | _, _ => false
termination_by structural e => e
end
/-- a right side whose store is the plain one -/
def plainR : Expr → Bool
  | .ListComp _ _ _ _ | .SetComp _ _ _ _ | .DictComp _ _ _ _ _ => false
  | _ => true
def fitLc (sc : Scope) (x : Str) (p : Pos) (e : E) : Expr → Bool
  | .ListComp _ [_] s vp => (match e with
    | .lc _ _ _ _ => (match sc.names.lookup x with
      | some .local => decide (sc.kind = .function) && (p.line == vp.line) && !(s.names.any fun (n, k) => n == x && (k == .local || k == .cell))
      | _ => true)
    | _ => false)
  | _ => false
def isTup : Expr → Bool
  | .Tuple _ _ _ => true
  | _ => false
def fitAsg1 (N : List Str) (sc : Scope) (e : E) (v : Expr) : Tg → Expr → Bool
  | .nm i, .Name x p => fitE N sc sc e v && decide (N[i]? = some x) && stB sc sc x && (plainR v || fitLc sc x p e v)
  | .tp is, .Tuple es _ _ => fitE N sc sc e v && plainR v && !(isTup v) && fitNs N sc sc is es
  | _, _ => false
def fitAsg (N : List Str) (sc : Scope) (tg : Tg) (e : E) (v : Expr) : List Expr → Bool
  | [t] => fitAsg1 N sc e v tg t
  | _ => false
def fitSet1 (N : List Str) (sc : Scope) (o i e : E) (v : Expr) : Expr → Bool
  | .Subscript eo ei _ => fitE N sc sc e v && plainR v && fitE N sc sc o eo && fitE N sc sc i ei && notSl ei
  | _ => false
def fitSet (N : List Str) (sc : Scope) (o i e : E) (v : Expr) : List Expr → Bool
  | [t] => fitSet1 N sc o i e v t
  | _ => false
def fitSetf1 (N : List Str) (sc : Scope) (o : E) (f : Str) (e : E) (v : Expr) : Expr → Bool
  | .Attribute eo nm _ => decide (nm = f) && fitE N sc sc e v && plainR v && fitE N sc sc o eo
  | _ => false
def fitSetf (N : List Str) (sc : Scope) (o : E) (f : Str) (e : E) (v : Expr) : List Expr → Bool
  | [t] => fitSetf1 N sc o f e v t
  | _ => false
def fitKn (sc : Scope) (n f : Str) : Expr → Bool
  | .Call (.Name x _) [.Name y _] [] _ => decide (x = f) && glB sc x && decide (y = n)
  | _ => false
def fitFl (n f : Str) : Expr → Bool
  | .Attribute (.Name y _) g _ => decide (y = n) && decide (g = f)
  | _ => false
mutual
def fitH (N : List Str) (sc : Scope) (n : Str) : HE → Expr → Bool
  | .kinds f, e => fitKn sc n f e
  | .fld f, e => fitFl n f e
  | .var i, .Name x _ => decide (N[i]? = some x) && visB sc x && !(x == ("__debug__" : Str)) && !(x == ("__classdict__" : Str))
  | .cint i, .Constant (.int j) _ _ => decide (i = j)
  | .cstr x, .Constant (.str y) _ _ => decide (x = y)
  | .cbl x, .Constant (.bool y) _ _ => decide (x = y)
  | .cnon, .Constant .none _ _ => true
  | .lst hs, .List es _ => fitHs N sc n hs es
  | .tup hs, .Tuple es _ _ => fitHs N sc n hs es
  | _, _ => false
termination_by structural e => e
def fitHs (N : List Str) (sc : Scope) (n : Str) : HEs → List Expr → Bool
  | .nil, [] => true
  | .cons h hs, x :: xs => fitH N sc n h x && fitHs N sc n hs xs
  | _, _ => false
termination_by structural e => e
end
def locB (sc : Scope) (x : Str) : Bool := match sc.names.lookup x with
  | some .local => true
  | _ => false
def fitRz (N : List Str) (sc : Scope) (x : Str) (es : Es) : Expr → Bool
  | .Call (.Name y _) (e :: ees) [] _ => decide (y = x) && glB sc y && fitEs N sc sc es (e :: ees)
  | _ => false
def fitR0 (sc : Scope) (x : Str) : Expr → Bool
  | .Call (.Name y _) [.Constant (.str _) _ _] [] _ => decide (y = x) && glB sc y
  | _ => false
def fitHd (N : List Str) (sc : Scope) (c : Str) (i : Nat) (h : HE) : ExceptHandler → Bool
  | .ExceptHandler (some (.Name y _)) (some n) [.Return (some e) _] _ => decide (y = c) && glB sc y && decide (N[i]? = some n) && locB sc n && visB sc n && !(n == ("__debug__" : Str)) && !(n == ("__classdict__" : Str)) && fitH N sc n h e
  | _ => false
def fitHds (N : List Str) (sc : Scope) : List (Str × Nat × HE) → List ExceptHandler → Bool
  | [(c, i, h)], [hd] => fitHd N sc c i h hd
  | (c, i, h) :: cs, hd :: hds => fitHd N sc c i h hd && fitHds N sc cs hds
  | _, _ => false
mutual
def fitS (N : List Str) (sc : Scope) : Ev.S → Stmt → Bool
  | .raise_ x es, .Raise (some e) none _ => fitRz N sc x es e
  | .raise0 x, .Raise (some e) none _ => fitR0 sc x e
  | .try_ b c i h, .Try eb [hd] [] [] _ => fitSs N sc b eb && fitHd N sc c i h hd
  | .trym b cs, .Try eb hds [] [] _ => fitSs N sc b eb && fitHds N sc cs hds
  | .asg tg e, .Assign tgs v _ => fitAsg N sc tg e v tgs
  | .seti o i e, .Assign tgs v _ => fitSet N sc o i e v tgs
  | .expr e, .Expr v _ => fitE N sc sc e v && plainR v
  | .ret e, .Return (some v) _ => fitE N sc sc e v
  | .retN, .Return none _ => true
  | .ifs t a b, .If et ea eb _ => t.tst && fitE N sc sc t et && fitSs N sc a ea && fitSs N sc b eb
  | .for_ tg it b, .For etg eit eb [] _ => fitTg N sc sc tg etg && fitIt N sc sc it eit && fitSs N sc b eb
  | .whl t b, .While et eb [] _ => t.tst && fitE N sc sc t et && fitSs N sc b eb
  | .pass, .Pass _ => true
  | .brk, .Break _ => true
  | .ctn, .Continue _ => true
  | .never, _ => true
  | .setf o f e, .Assign tgs v _ => fitSetf N sc o f e v tgs
  | _, _ => false
termination_by structural e => e
def fitSs (N : List Str) (sc : Scope) : Ss → List Stmt → Bool
  | .nil, [] => true
  | .cons s ss, x :: xs => fitS N sc s x && fitSs N sc ss xs
  | _, _ => false
termination_by structural e => e
end

/-! ### data against the heap -/
def O.live : O → Bool
  | .dead => false
  | _ => true
def Own (m : List Addr) (S : Sto) (a : Addr) : Prop := ∃ (i : Nat) (o : O), m[i]? = some a ∧ S[i]? = some o ∧ o.live = true
section
variable (K : PySem.W.Frag) (Z : List Addr) (m : List Addr) (S : Sto) (H : Hp)
mutual
inductive RelD : D → V → Prop where
  | non : RelD .non .non
  | bl (b : Bool) : RelD (.bl b) (.bl b)
  | int (i : Int) : RelD (.int i) (.int i)
  | str (x : Str) : RelD (.str x) (.str x)
  | ty (n : String) : RelD (.ty n) (.ty n)
  | tup {p : Addr} {ds : List D} {vs : List V} (h : H p = some (.tup vs)) (n : ¬ Own m S p) (z : p ∉ Z) (r : RelDs ds vs) : RelD (.tup ds) (.ref p)
  | tupK {p : Addr} {ds : List D} {vs : List V} (h : SqT K (fun _ => none) p vs) (r : RelDs ds vs) : RelD (.tup ds) (.ref p)
  | lv {p : Addr} {ds : List D} {vs : List V} (h : H p = some (.lst vs)) (n : ¬ Own m S p) (z : p ∉ Z) (r : RelDs ds vs) : RelD (.lv ds) (.ref p)
  | fl {p : Addr} {ds : List D} {vs : List V} (h : Rd H p (.lst vs)) (n : ¬ Own m S p) (z : p ∉ Z) (r : RelDs ds vs) : RelD (.fl ds) (.ref p)
  | flK {p : Addr} {ds : List D} {vs : List V} (h : SqL K (fun _ => none) p vs) (r : RelDs ds vs) : RelD (.fl ds) (.ref p)
  | ref {n : Nat} {a : Addr} (h : m[n]? = some a) : RelD (.ref n) (.ref a)
  | ob {p dx : Addr} {c : Str} {ks : List Str} {ds : List D} {vs : List V} (h : H p = some (.ins (He.ga K c) dx (ks.zip vs))) (l : ks.length = ds.length) (n : ¬ Own m S p) (z : p ∉ Z) (r : RelDs ds vs) : RelD (.ob c ks ds) (.ref p)
inductive RelDs : List D → List V → Prop where
  | nil : RelDs [] []
  | cons {d : D} {v : V} {ds : List D} {vs : List V} (h : RelD d v) (t : RelDs ds vs) : RelDs (d :: ds) (v :: vs)
end
end
/-- what a cell stands for -/
inductive RelO (K : PySem.W.Frag) (Z m : List Addr) (S : Sto) (H : Hp) : O → HO → Prop where
  | lst {xs : List D} {vs : List V} (r : RelDs K Z m S H xs vs) : RelO K Z m S H (.lst xs) (.lst vs)
  | ins {dx : Addr} {c : Str} {ks : List Str} {ds : List D} {vs : List V} (l : ks.length = ds.length) (r : RelDs K Z m S H ds vs) : RelO K Z m S H (.ins c ks ds) (.ins (He.ga K c) dx (ks.zip vs))
structure RelS (K : PySem.W.Frag) (Z : List Addr) (m : List Addr) (S : Sto) (H : Hp) : Prop where
  len : m.length = S.length
  nd : m.Nodup
  has : ∀ a, a ∈ m → ∃ o, H a = some o
  hid : ∀ z, z ∈ Z → (∃ o, H z = some o) ∧ z ∉ m
  cel : ∀ (i : Nat) (a : Addr) (o : O), m[i]? = some a → S[i]? = some o → o.live = true → ∃ u, H a = some u ∧ RelO K Z m S H o u
theorem RelS.obj {K : PySem.W.Frag} {Z m : List Addr} {S : Sto} {H : Hp} (rs : RelS K Z m S H) (i : Nat) (a : Addr) (xs : List D) (h1 : m[i]? = some a) (h2 : S[i]? = some (O.lst xs)) : ∃ vs, H a = some (.lst vs) ∧ RelDs K Z m S H xs vs := by
  obtain ⟨u, h3, r⟩ := rs.cel i a _ h1 h2 rfl
  cases r with
  | lst r => exact ⟨_, h3, r⟩
theorem RelS.obi {K : PySem.W.Frag} {Z m : List Addr} {S : Sto} {H : Hp} (rs : RelS K Z m S H) {i : Nat} {a : Addr} {c : Str} {ks : List Str} {ds : List D} (h1 : m[i]? = some a) (h2 : S[i]? = some (O.ins c ks ds)) : ∃ dx vs, H a = some (.ins (He.ga K c) dx (ks.zip vs)) ∧ ks.length = ds.length ∧ RelDs K Z m S H ds vs := by
  obtain ⟨u, h3, r⟩ := rs.cel i a _ h1 h2 rfl
  cases r with
  | ins l r => exact ⟨_, _, h3, l, r⟩
structure Step (m : List Addr) (S : Sto) (H : Hp) (m' : List Addr) (S' : Sto) (H' : Hp) : Prop where
  pre : ∃ t, m' = m ++ t
  keep : ∀ a o, H a = some o → ¬ Own m S a → H' a = some o ∧ ¬ Own m' S' a
section
variable {K : PySem.W.Frag} {Z : List Addr} {m m' m2 : List Addr} {S S' S2 : Sto} {H H' H2 : Hp}
theorem Step.refl : Step m S H m S H := ⟨⟨[], by simp⟩, fun a o h n => ⟨h, n⟩⟩
theorem Step.trans (a : Step m S H m' S' H') (b : Step m' S' H' m2 S2 H2) : Step m S H m2 S2 H2 := by
  obtain ⟨t, e⟩ := a.pre
  obtain ⟨t2, e2⟩ := b.pre
  refine ⟨⟨t ++ t2, by rw [e2, e, List.append_assoc]⟩, fun x o h n => ?_⟩
  obtain ⟨h1, n1⟩ := a.keep x o h n
  exact b.keep x o h1 n1
mutual
theorem RelD.mono (st : Step m S H m' S' H') : ∀ {d : D} {v : V}, RelD K Z m S H d v → RelD K Z m' S' H' d v
  | _, _, .non => .non
  | _, _, .bl b => .bl b
  | _, _, .int i => .int i
  | _, _, .str x => .str x
  | _, _, .ty n => .ty n
  | _, _, .tup h n z r => by
    obtain ⟨h1, n1⟩ := st.keep _ _ h n
    exact .tup h1 n1 z (RelDs.mono st r)
  | _, _, .tupK h r => .tupK h (RelDs.mono st r)
  | _, _, .lv h n z r => by
    obtain ⟨h1, n1⟩ := st.keep _ _ h n
    exact .lv h1 n1 z (RelDs.mono st r)
  | _, _, .fl h n z r => by
    rcases h with h | ⟨o, h⟩
    · obtain ⟨h1, n1⟩ := st.keep _ _ h n
      exact .fl (.inl h1) n1 z (RelDs.mono st r)
    · obtain ⟨h1, n1⟩ := st.keep _ _ h n
      exact .fl (.inr ⟨o, h1⟩) n1 z (RelDs.mono st r)
  | _, _, .flK h r => .flK h (RelDs.mono st r)
  | _, _, .ref h => by
    obtain ⟨t, e⟩ := st.pre
    refine .ref ?_
    rw [e]
    rw [List.getElem?_append_left (List.getElem?_eq_some_iff.mp h).1]
    exact h
  | _, _, .ob h l n z r => by
    obtain ⟨h1, n1⟩ := st.keep _ _ h n
    exact .ob h1 l n1 z (RelDs.mono st r)
theorem RelDs.mono (st : Step m S H m' S' H') : ∀ {d : List D} {v : List V}, RelDs K Z m S H d v → RelDs K Z m' S' H' d v
  | _, _, .nil => .nil
  | _, _, .cons h t => .cons (RelD.mono st h) (RelDs.mono st t)
end
theorem RelO.mono (st : Step m S H m' S' H') {o : O} {u : HO} (r : RelO K Z m S H o u) : RelO K Z m' S' H' o u := by
  cases r with
  | lst r => exact .lst (r.mono st)
  | ins l r => exact .ins l (r.mono st)
end
end Ev

namespace Ev
open PySem L2

theorem nodup_ixA {m : List Addr} (hN : m.Nodup) {i j : Nat} {x : Addr} (a : m[i]? = some x) (b : m[j]? = some x) : i = j := by
  obtain ⟨h1, e1⟩ := List.getElem?_eq_some_iff.mp a
  obtain ⟨h2, e2⟩ := List.getElem?_eq_some_iff.mp b
  exact (List.getElem_inj hN).mp (e1.trans e2.symm)
section
variable {K : PySem.W.Frag} {Z : List Addr} {m m' m1 m2 : List Addr} {S S' S1 S2 : Sto} {H H' H1 H2 : Hp} {p a : Addr} {o : HO} {xs ds : List D} {vs : List V} {d : D} {v : V} {n i : Nat}
theorem RelDs.length : ∀ {ds : List D} {vs : List V}, RelDs K Z m S H ds vs → ds.length = vs.length
  | _, _, .nil => rfl
  | _, _, .cons _ t => by simp [RelDs.length t]
theorem RelDs.get : ∀ {ds : List D} {vs : List V} {i : Nat} {d : D}, RelDs K Z m S H ds vs → ds[i]? = some d → ∃ v, vs[i]? = some v ∧ RelD K Z m S H d v
  | _, _, _, _, .nil, e => by simp at e
  | _, _, 0, _, .cons h _, e => by simp at e; subst e; exact ⟨_, rfl, h⟩
  | _, _, i + 1, _, .cons _ t, e => by
    obtain ⟨v, h1, h2⟩ := RelDs.get (i := i) t (by simpa using e)
    exact ⟨v, by simpa using h1, h2⟩
theorem RelDs.app : ∀ {ds es : List D} {vs ws : List V}, RelDs K Z m S H ds vs → RelDs K Z m S H es ws → RelDs K Z m S H (ds ++ es) (vs ++ ws)
  | _, _, _, _, .nil, r => r
  | _, _, _, _, .cons h t, r => .cons h (RelDs.app t r)
theorem RelDs.take : ∀ {ds : List D} {vs : List V} (n : Nat), RelDs K Z m S H ds vs → RelDs K Z m S H (ds.take n) (vs.take n)
  | _, _, 0, _ => by simp; exact .nil
  | _, _, _ + 1, .nil => by simp; exact .nil
  | _, _, n + 1, .cons h t => .cons h (RelDs.take n t)
theorem RelDs.drop : ∀ {ds : List D} {vs : List V} (n : Nat), RelDs K Z m S H ds vs → RelDs K Z m S H (ds.drop n) (vs.drop n)
  | _, _, 0, r => by simpa using r
  | _, _, _ + 1, .nil => by simp; exact .nil
  | _, _, n + 1, .cons h t => RelDs.drop n t
theorem RelDs.set : ∀ {ds : List D} {vs : List V} (n : Nat) {d : D} {v : V}, RelDs K Z m S H ds vs → RelD K Z m S H d v → RelDs K Z m S H (ds.set n d) (vs.set n v)
  | _, _, _, _, _, .nil, _ => by simp; exact .nil
  | _, _, 0, _, _, .cons h t, r => .cons r t
  | _, _, n + 1, _, _, .cons h t, r => .cons h (RelDs.set n t r)
theorem RelDs.erase : ∀ {ds : List D} {vs : List V} (n : Nat), RelDs K Z m S H ds vs → RelDs K Z m S H (ds.eraseIdx n) (vs.eraseIdx n)
  | _, _, _, .nil => by simp; exact .nil
  | _, _, 0, .cons h t => t
  | _, _, n + 1, .cons h t => .cons h (RelDs.erase n t)
theorem RelDs.atI (r : RelDs K Z m S H ds vs) {i : Int} {d : D} (e : atI ds i = some d) : ∃ v, L2.atI vs i = some v ∧ RelD K Z m S H d v := by
  unfold L2.atI at e ⊢
  rw [r.length] at e
  cases q : ixN vs.length i with
  | none => rw [q] at e; cases e
  | some j =>
    rw [q] at e
    exact r.get e
theorem RelDs.reverse : ∀ {ds : List D} {vs : List V}, RelDs K Z m S H ds vs → RelDs K Z m S H ds.reverse vs.reverse
  | _, _, .nil => .nil
  | _, _, .cons h t => by
    rw [List.reverse_cons, List.reverse_cons]
    exact (RelDs.reverse t).app (.cons h .nil)
theorem RelDs.cut (r : RelDs K Z m S H ds vs) (lo hi : Option Int) : RelDs K Z m S H (cutD ds lo hi) (cutV vs lo hi) := by
  unfold cutD cutV
  rw [r.length]
  exact (r.drop _).take _

theorem own_some (rs : RelS K Z m S H) (h : Own m S a) : ∃ o, H a = some o := by
  obtain ⟨i, o, h1, h2, h3⟩ := h
  obtain ⟨u, h4, _⟩ := rs.cel i a o h1 h2 h3
  exact ⟨_, h4⟩
theorem own_fresh (rs : RelS K Z m S H) (h : H p = none) : ¬ Own m S p := fun q => by
  obtain ⟨o, e⟩ := own_some rs q
  rw [h] at e; cases e
theorem hid_fresh (rs : RelS K Z m S H) (h : H p = none) : p ∉ Z := fun q => by
  obtain ⟨⟨o, e⟩, _⟩ := rs.hid p q
  rw [h] at e; cases e
theorem mem_of_get {m : List Addr} {i : Nat} {a : Addr} (h : m[i]? = some a) : a ∈ m := List.mem_of_getElem? h
/-- a new object that is not owned -/
theorem step_new (rs : RelS K Z m S H) (h : H p = none) : Step m S H m S (upd H p o) := ⟨⟨[], by simp⟩, fun a u e n => ⟨by rw [upd_ne (ne_of_none e h)]; exact e, n⟩⟩
theorem rels_new (rs : RelS K Z m S H) (h : H p = none) : RelS K Z m S (upd H p o) := by
  refine ⟨rs.len, rs.nd, fun a ha => ?_, fun z hz => ?_, fun i a x h1 h2 hl => ?_⟩
  · obtain ⟨u, e⟩ := rs.has a ha
    exact ⟨u, by rw [upd_ne (ne_of_none e h)]; exact e⟩
  · obtain ⟨⟨u, e⟩, n⟩ := rs.hid z hz
    exact ⟨⟨u, by rw [upd_ne (ne_of_none e h)]; exact e⟩, n⟩
  · obtain ⟨u, h3, r⟩ := rs.cel i a x h1 h2 hl
    exact ⟨u, by rw [upd_ne (ne_of_none h3 h)]; exact h3, r.mono (step_new rs h)⟩
/-- a new cell that is owned -/
theorem own_app {x : O} {m : List Addr} {S : Sto} (hl : m.length = S.length) {p a : Addr} (h : Own (m ++ [p]) (S ++ [x]) a) : Own m S a ∨ a = p := by
  obtain ⟨i, ys, h1, h2, h3⟩ := h
  by_cases hi : i < m.length
  · rw [List.getElem?_append_left hi] at h1
    rw [List.getElem?_append_left (by omega)] at h2
    exact .inl ⟨i, ys, h1, h2, h3⟩
  · rw [List.getElem?_append_right (by omega)] at h1
    have : i - m.length = 0 := by
      have := (List.getElem?_eq_some_iff.mp h1).1
      simp at this; omega
    rw [this] at h1
    simp at h1
    exact .inr h1.symm
theorem step_cel {x : O} {u : HO} (rs : RelS K Z m S H) (h : H p = none) : Step m S H (m ++ [p]) (S ++ [x]) (upd H p u) := by
  refine ⟨⟨[p], rfl⟩, fun a u e n => ⟨by rw [upd_ne (ne_of_none e h)]; exact e, fun q => ?_⟩⟩
  rcases own_app rs.len q with q | q
  · exact n q
  · exact ne_of_none e h q
theorem rels_cel {x : O} {u : HO} (rs : RelS K Z m S H) (h : H p = none) (r : RelO K Z m S H x u) : RelS K Z (m ++ [p]) (S ++ [x]) (upd H p u) := by
  have st : Step m S H (m ++ [p]) (S ++ [x]) (upd H p u) := step_cel rs h
  refine ⟨by simp [rs.len], ?_, fun a ha => ?_, fun z hz => ?_, fun i a y h1 h2 hl => ?_⟩
  · rw [List.nodup_append]
    refine ⟨rs.nd, by simp, fun a ha b hb => ?_⟩
    simp at hb
    subst hb
    obtain ⟨u, e⟩ := rs.has a ha
    exact ne_of_none e h
  · rw [List.mem_append] at ha
    rcases ha with ha | ha
    · obtain ⟨u, e⟩ := rs.has a ha
      exact ⟨u, by rw [upd_ne (ne_of_none e h)]; exact e⟩
    · simp at ha
      subst ha
      exact ⟨_, upd_same⟩
  · obtain ⟨⟨u, e⟩, n⟩ := rs.hid z hz
    refine ⟨⟨u, by rw [upd_ne (ne_of_none e h)]; exact e⟩, fun q => ?_⟩
    rw [List.mem_append] at q
    rcases q with q | q
    · exact n q
    · simp at q
      exact ne_of_none e h q
  · by_cases hi : i < m.length
    · rw [List.getElem?_append_left hi] at h1
      rw [List.getElem?_append_left (by have := rs.len; omega)] at h2
      obtain ⟨ws, h3, r3⟩ := rs.cel i a y h1 h2 hl
      exact ⟨ws, by rw [upd_ne (ne_of_none h3 h)]; exact h3, r3.mono st⟩
    · have hl := rs.len
      rw [List.getElem?_append_right (by omega)] at h1 h2
      have e0 : i - m.length = 0 := by
        have := (List.getElem?_eq_some_iff.mp h1).1
        simp at this; omega
      have e1 : i - S.length = 0 := by omega
      rw [e0] at h1
      rw [e1] at h2
      simp at h1 h2
      subst h1 h2
      exact ⟨u, upd_same, r.mono st⟩
theorem step_own (rs : RelS K Z m S H) (h : H p = none) : Step m S H (m ++ [p]) (S ++ [O.lst xs]) (upd H p (.lst vs)) := step_cel rs h
theorem rels_own (rs : RelS K Z m S H) (h : H p = none) (r : RelDs K Z m S H xs vs) : RelS K Z (m ++ [p]) (S ++ [O.lst xs]) (upd H p (.lst vs)) := rels_cel rs h (.lst r)
theorem reld_own (rs : RelS K Z m S H) : RelD K Z (m ++ [p]) S' H' (.ref S.length) (.ref p) := .ref (by rw [← rs.len]; simp)
/-- an owned cell changed -/
theorem own_cel {x y : O} {k : Nat} (q : Own m (S.set k x) a) (hk : S[k]? = some y) (hy : y.live = true) : Own m S a := by
  obtain ⟨i, zs, h1, h2, h3⟩ := q
  by_cases e : k = i
  · subst e
    exact ⟨k, y, h1, hk, hy⟩
  · rw [List.getElem?_set_ne e] at h2
    exact ⟨i, zs, h1, h2, h3⟩
theorem step_put {x y : O} (hk : S[n]? = some y) (hy : y.live = true) (hm : m[n]? = some p) : Step m S H m (S.set n x) (upd H p o) := by
  refine ⟨⟨[], by simp⟩, fun a u e q => ⟨?_, fun z => q (own_cel z hk hy)⟩⟩
  rw [upd_ne (fun z => q (by subst z; exact ⟨n, y, hm, hk, hy⟩))]
  exact e
theorem rels_put {x y : O} {u : HO} (rs : RelS K Z m S H) (hk : S[n]? = some y) (hy : y.live = true) (hm : m[n]? = some p) (r : RelO K Z m S H x u) : RelS K Z m (S.set n x) (upd H p u) := by
  have st : Step m S H m (S.set n x) (upd H p u) := step_put hk hy hm
  refine ⟨by simp [rs.len], rs.nd, fun a ha => ?_, fun z hz => ?_, fun i a zs h1 h2 hl => ?_⟩
  · obtain ⟨u, e⟩ := rs.has a ha
    by_cases z : a = p
    · subst z; exact ⟨_, upd_same⟩
    · exact ⟨u, by rw [upd_ne z]; exact e⟩
  · obtain ⟨⟨u, e⟩, n⟩ := rs.hid z hz
    exact ⟨⟨u, by rw [upd_ne (fun q => n (by rw [q]; exact mem_of_get hm))]; exact e⟩, n⟩
  · by_cases e : n = i
    · subst e
      rw [hm] at h1
      cases h1
      have hn : n < S.length := (List.getElem?_eq_some_iff.mp hk).1
      rw [List.getElem?_set_self hn] at h2
      cases h2
      exact ⟨u, upd_same, r.mono st⟩
    · rw [List.getElem?_set_ne e] at h2
      obtain ⟨ws, h3, r3⟩ := rs.cel i a zs h1 h2 hl
      have ne : a ≠ p := fun z => e ((nodup_ixA rs.nd (z ▸ hm) h1))
      exact ⟨ws, by rw [upd_ne ne]; exact h3, r3.mono st⟩
theorem step_set {ys : List D} (hk : S[n]? = some (O.lst ys)) (hm : m[n]? = some p) : Step m S H m (S.set n (O.lst xs)) (upd H p o) := step_put hk rfl hm
theorem rels_set {ys : List D} (rs : RelS K Z m S H) (hk : S[n]? = some (O.lst ys)) (hm : m[n]? = some p) (r : RelDs K Z m S H xs vs) : RelS K Z m (S.set n (O.lst xs)) (upd H p (.lst vs)) := rels_put rs hk rfl hm (.lst r)
/-- an owned cell is let go -/
theorem own_dead {k : Nat} (q : Own m (S.set k O.dead) a) : Own m S a := by
  obtain ⟨i, zs, h1, h2, h3⟩ := q
  by_cases e : k = i
  · subst e
    rw [List.getElem?_set] at h2
    split at h2
    · split at h2
      · cases h2; cases h3
      · cases h2
    · exact absurd rfl (by assumption)
  · rw [List.getElem?_set_ne e] at h2
    exact ⟨i, zs, h1, h2, h3⟩
theorem not_own_dead (rs : RelS K Z m S H) {k : Nat} (hm : m[k]? = some a) : ¬ Own m (S.set k O.dead) a := fun ⟨i, zs, h1, h2, h3⟩ => by
  have e : k = i := nodup_ixA rs.nd hm h1
  subst e
  rw [List.getElem?_set] at h2
  split at h2
  · split at h2
    · cases h2; cases h3
    · cases h2
  · exact absurd rfl (by assumption)
theorem step_dead : Step m S H m (S.set n O.dead) H := ⟨⟨[], by simp⟩, fun a u e q => ⟨e, fun z => q (own_dead z)⟩⟩
theorem rels_dead (rs : RelS K Z m S H) : RelS K Z m (S.set n O.dead) H := by
  refine ⟨by simp [rs.len], rs.nd, rs.has, rs.hid, fun i a xs h1 h2 hl => ?_⟩
  by_cases e : n = i
  · subst e
    rw [List.getElem?_set] at h2
    split at h2
    · split at h2
      · cases h2; cases hl
      · cases h2
    · exact absurd rfl (by assumption)
  · rw [List.getElem?_set_ne e] at h2
    obtain ⟨vs, h3, r⟩ := rs.cel i a xs h1 h2 hl
    exact ⟨vs, h3, r.mono step_dead⟩
end

/-! ### configurations, wishes -/
structure Cf (K : PySem.W.Frag) (Z : List Addr) (m : List Addr) (S : Sto) (H : Hp) (σd : Sg) (σ : St) : Prop where
  s : RelS K Z m S H
  len : σd.length = σ.length
  get : ∀ (i : Nat) (d : D), σd[i]? = some (some d) → ∃ v, σ[i]? = some (some v) ∧ RelD K Z m S H d v
abbrev Rel (α β : Type) := List Addr → Sto → Hp → α → β → Prop
inductive RelFs (K : PySem.W.Frag) (Z m : List Addr) (S : Sto) (H : Hp) : List (Str × D) → List (Str × V) → Prop where
  | nil : RelFs K Z m S H [] []
  | cons {f : Str} {d : D} {v : V} {ds : List (Str × D)} {vs : List (Str × V)} (h : RelD K Z m S H d v) (t : RelFs K Z m S H ds vs) : RelFs K Z m S H ((f, d) :: ds) ((f, v) :: vs)
/-- an exception's dict -/
inductive XF (K : PySem.W.Frag) (Z m : List Addr) (S : Sto) (H : Hp) : List (Str × D) → Option Addr → Prop where
  | no : XF K Z m S H [] none
  | at {d : Addr} {fs : List (Str × D)} {vs : List (Str × V)} (h : H d = some (.xd vs)) (n : ¬ Own m S d) (z : d ∉ Z) (r : RelFs K Z m S H fs vs) : XF K Z m S H fs (some d)
theorem RelFs.mono {K : PySem.W.Frag} {Z m m' : List Addr} {S S' : Sto} {H H' : Hp} (st : Step m S H m' S' H') : ∀ {fs : List (Str × D)} {vs : List (Str × V)}, RelFs K Z m S H fs vs → RelFs K Z m' S' H' fs vs
  | _, _, .nil => .nil
  | _, _, .cons h t => .cons (h.mono st) (RelFs.mono st t)
theorem RelFs.get {K : PySem.W.Frag} {Z m : List Addr} {S : Sto} {H : Hp} {f : Str} : ∀ {fs : List (Str × D)} {vs : List (Str × V)} {d : D}, RelFs K Z m S H fs vs → fs.lookup f = some d → ∃ v, vs.lookup f = some v ∧ RelD K Z m S H d v
  | _, _, _, .nil, e => by simp at e
  | _, _, d, .cons (f := g) h t, e => by
    simp only [List.lookup] at e ⊢
    split at e
    · cases e
      rename_i hq
      exact ⟨_, rfl, h⟩
    · rename_i hq
      exact RelFs.get t e
theorem XF.mono {K : PySem.W.Frag} {Z m m' : List Addr} {S S' : Sto} {H H' : Hp} (st : Step m S H m' S' H') {fs : List (Str × D)} {d : Option Addr} (h : XF K Z m S H fs d) : XF K Z m' S' H' fs d := by
  cases h with
  | no => exact .no
  | «at» h n z r =>
    obtain ⟨h1, n1⟩ := st.keep _ _ h n
    exact .at h1 n1 z (r.mono st)
def WR {α β : Type} (E : XK) (K : PySem.W.Frag) (Z : List Addr) (rel : Rel α β) (m : List Addr) (S : Sto) (H : Hp) (Q : β → Hp → Prop) : R α → Prop
  | .ok a S' => ∀ m' H' b, Step m S H m' S' H' → RelS K Z m' S' H' → rel m' S' H' a b → Q b H'
  | .ex c fs S' => ∀ m' H' d, Step m S H m' S' H' → RelS K Z m' S' H' → XF K Z m' S' H' fs d → E (.ref (He.ga K c)) d H'
  | .stuck => False
def eqRel {α : Type} : Rel α α := fun _ _ _ a b => a = b
section
variable {α β γ δ : Type} {E : XK} {K : PySem.W.Frag} {Z : List Addr} {m m' m1 m2 : List Addr} {S S' S1 S2 : Sto} {H H' H1 H2 : Hp} {σd : Sg} {σ : St}
theorem Cf.step (c : Cf K Z m S H σd σ) (st : Step m S H m' S' H') (rs : RelS K Z m' S' H') : Cf K Z m' S' H' σd σ :=
  ⟨rs, c.len, fun i d e => let ⟨v, h1, h2⟩ := c.get i d e; ⟨v, h1, h2.mono st⟩⟩
theorem WR.step {rel : Rel α β} {Q : β → Hp → Prop} {r : R α} (h : WR E K Z rel m S H Q r) (st : Step m S H m' S' H') : WR E K Z rel m' S' H' Q r := by
  cases r with
  | ok a S2 => exact fun m2 H2 b st2 rs r => h m2 H2 b (st.trans st2) rs r
  | ex c fs S2 => exact fun m2 H2 d st2 rs x => h m2 H2 d (st.trans st2) rs x
  | stuck => exact h
theorem WR.bind {rel : Rel α β} {rel' : Rel γ δ} {Q : δ → Hp → Prop} {Q1 : β → Hp → Prop} {x : R α} {f : α → Sto → R γ} (h : WR E K Z rel' m S H Q (x.bind f))
    (k : ∀ a S1 m1 H1 b, Step m S H m1 S1 H1 → RelS K Z m1 S1 H1 → rel m1 S1 H1 a b → WR E K Z rel' m1 S1 H1 Q (f a S1) → Q1 b H1) : WR E K Z rel m S H Q1 x := by
  cases x with
  | ok a S1 => exact fun m1 H1 b st rs r => k a S1 m1 H1 b st rs r (WR.step h st)
  | ex _ _ _ => exact h
  | stuck => exact h
end
def RE (W : WX) (K : PySem.W.Frag) (f : Sg → Sto → R D) : TE := fun σ H Q => ∃ Z m S σd, Cf K Z m S H σd σ ∧ WR (fun c d H => W c d σ H) K Z (RelD K Z) m S H Q (f σd S)
def RT (W : WX) (K : PySem.W.Frag) (f : Sg → Sto → R D) : TT := fun σ H Q => ∃ Z m S σd, Cf K Z m S H σd σ ∧ WR (fun c d H => W c d σ H) K Z eqRel m S H Q ((f σd S).bind tr)
def RA (W : WX) (K : PySem.W.Frag) (f : Sg → Sto → R (List D)) : TA := fun σ H Q => ∃ Z m S σd, Cf K Z m S H σd σ ∧ WR (fun c d H => W c d σ H) K Z (RelDs K Z) m S H Q (f σd S)
def RO (W : WX) (K : PySem.W.Frag) (f : Sg → Sto → R (Option Int)) : TO := fun σ H Q => ∃ Z m S σd, Cf K Z m S H σd σ ∧ WR (fun c d H => W c d σ H) K Z eqRel m S H Q (f σd S)
theorem PE.mono {X : Cx} {e : Expr} {t t' : TE} (h : PE X e t) (k : ∀ σ H Q, t' σ H Q → t σ H Q) : PE X e t' := ⟨fun pins s σ H Q I q => h.run pins s σ H Q I (k σ H Q q)⟩
theorem PT.mono {X : Cx} {e : Expr} {t t' : TT} (h : PT X e t) (k : ∀ σ H Q, t' σ H Q → t σ H Q) : PT X e t' := ⟨fun pins s σ H Q I q => h.run pins s σ H Q I (k σ H Q q)⟩
theorem PW.mono {X : Cx} {e : Expr} {t t' : TT} (h : PW X e t) (k : ∀ σ H Q, t' σ H Q → t σ H Q) : PW X e t' := ⟨fun w pins s σ H Q I q => h.run w pins s σ H Q I (k σ H Q q)⟩
theorem PA.mono {X : Cx} {e : List Expr} {t t' : TA} (h : PA X e t) (k : ∀ σ H Q, t' σ H Q → t σ H Q) : PA X e t' := ⟨fun pos pins s σ H Q I q => h.run pos pins s σ H Q I (k σ H Q q)⟩
theorem PO.mono {X : Cx} {e : Option Expr} {t t' : TO} (h : PO X e t) (k : ∀ σ H Q, t' σ H Q → t σ H Q) : PO X e t' := ⟨fun pins s σ H Q I q => h.run pins s σ H Q I (k σ H Q q)⟩
theorem PS.mono {X : Cx} {e : Stmt} {t t' : TS} (h : PS X e t) (k : ∀ D σ H, t' D σ H → t D σ H) : PS X e t' := ⟨fun pins s σ H D I q => h.run pins s σ H D I (k D σ H q)⟩
theorem PSs.mono {X : Cx} {e : List Stmt} {t t' : TS} (h : PSs X e t) (k : ∀ D σ H, t' D σ H → t D σ H) : PSs X e t' := ⟨fun pins s σ H D I q => h.run pins s σ H D I (k D σ H q)⟩
end Ev

namespace Ev
open PySem L2
variable {EX : XK} {W : WX}

theorem lim_le {n : Nat} (h : n ≤ lim) : n ≤ sizeLine := Nat.le_trans h (by decide)
theorem lim_lt {n : Nat} (h : n < lim) : n < sizeLine := Nat.lt_of_lt_of_le h (by decide)
section
variable {K : PySem.W.Frag} {Z : List Addr} {m : List Addr} {S : Sto} {H : Hp} {Q : VK} {d : D} {v : V}
/-- an answer that leaves the store -/
theorem WR.here {α β : Type} {rel : Rel α β} {Q : β → Hp → Prop} {a : α} {b : β} (w : WR EX K Z rel m S H Q (.ok a S)) (rs : RelS K Z m S H) (r : rel m S H a b) : Q b H := w m H b Step.refl rs r
theorem WR.newT (w : WR EX K Z (RelD K Z) m S H Q (.ok (.tup ds) S)) (rs : RelS K Z m S H) {ds' : List V} (r : RelDs K Z m S H ds ds') {p : Addr} (h : H p = none) : Q (.ref p) (upd H p (.tup ds')) :=
  w m _ _ (step_new rs h) (rels_new rs h) (.tup upd_same (own_fresh rs h) (hid_fresh rs h) (r.mono (step_new rs h)))
theorem WR.newL (w : WR EX K Z (RelD K Z) m S H Q (.ok (.lv ds) S)) (rs : RelS K Z m S H) {ds' : List V} (r : RelDs K Z m S H ds ds') {p : Addr} (h : H p = none) : Q (.ref p) (upd H p (.lst ds')) :=
  w m _ _ (step_new rs h) (rels_new rs h) (.lv upd_same (own_fresh rs h) (hid_fresh rs h) (r.mono (step_new rs h)))
theorem WR.newO (w : WR EX K Z (RelD K Z) m S H Q (.ok (.ref S.length) (S ++ [O.lst ds]))) (rs : RelS K Z m S H) {ds' : List V} (r : RelDs K Z m S H ds ds') {p : Addr} (h : H p = none) : Q (.ref p) (upd H p (.lst ds')) :=
  w _ _ _ (step_own rs h) (rels_own rs h r) (reld_own rs)
theorem WR.stuckF {α β : Type} {rel : Rel α β} {Q : β → Hp → Prop} (w : WR EX K Z rel m S H Q (.stuck : R α)) : False := w
end
/-- what is to be read of data, by the heap -/
theorem RelD.listOf {K : PySem.W.Frag} {Z : List Addr} {m : List Addr} {S : Sto} {H : Hp} {d : D} {v : V} {xs : List D} (rs : RelS K Z m S H) (r : RelD K Z m S H d v) (e : listOf S d = some xs) :
    ∃ p vs, v = .ref p ∧ H p = some (.lst vs) ∧ RelDs K Z m S H xs vs := by
  cases d <;> simp only [Ev.listOf] at e <;> try (cases e; done)
  case vw => cases r
  case lv ys =>
    cases e
    cases r with
    | lv h n _ r => exact ⟨_, _, rfl, h, r⟩
  case ref n =>
    split at e
    · rename_i zs hz
      cases e
      cases r with
      | ref h =>
        obtain ⟨vs, h1, h2⟩ := rs.obj n _ _ h hz
        exact ⟨_, vs, rfl, h1, h2⟩
    · cases e
theorem RelD.seqOf {K : PySem.W.Frag} {Z : List Addr} {m : List Addr} {S : Sto} {H : Hp} {d : D} {v : V} {xs : List D} (rs : RelS K Z m S H) (r : RelD K Z m S H d v) (hs : isSeq d = true) (e : items S d = some xs) :
    ∃ p vs, v = .ref p ∧ (SqL K H p vs ∨ SqT K H p vs) ∧ RelDs K Z m S H xs vs := by
  cases d <;> simp only [isSeq, Bool.false_eq_true] at hs <;> simp only [Ev.items] at e
  case vw => cases r
  case tup ys =>
    cases e
    cases r with
    | tup h n _ r => exact ⟨_, _, rfl, .inr (SqT.of h), r⟩
    | tupK h r => exact ⟨_, _, rfl, .inr (h.elim (fun z => by rcases z with z | ⟨o, z⟩ <;> cases z) .inr), r⟩
  case lv ys =>
    cases e
    cases r with
    | lv h n _ r => exact ⟨_, _, rfl, .inl (SqL.of h), r⟩
  case fl ys =>
    cases e
    cases r with
    | fl h n _ r => exact ⟨_, _, rfl, .inl (.inl h), r⟩
    | flK h r => exact ⟨_, _, rfl, .inl (h.elim (fun z => by rcases z with z | ⟨o, z⟩ <;> cases z) .inr), r⟩
  case ref n =>
    split at e
    · rename_i zs hz
      cases e
      cases r with
      | ref h =>
        obtain ⟨vs, h1, h2⟩ := rs.obj n _ _ h hz
        exact ⟨_, vs, rfl, .inl (SqL.of h1), h2⟩
    · cases e
theorem RelD.tupOf {K : PySem.W.Frag} {Z : List Addr} {m : List Addr} {S : Sto} {H : Hp} {v : V} {xs : List D} (r : RelD K Z m S H (.tup xs) v) : ∃ p vs, v = .ref p ∧ SqT K H p vs ∧ RelDs K Z m S H xs vs := by
  cases r with
  | tup h n _ r => exact ⟨_, _, rfl, SqT.of h, r⟩
  | tupK h r => exact ⟨_, _, rfl, (h.elim (fun z => by rcases z with z | ⟨o, z⟩ <;> cases z) .inr), r⟩
theorem isSeq_of {S : Sto} {d : D} {xs : List D} (e : items S d = some xs) : isSeq d = true ∨ ∃ x, d = .str x := by
  cases d <;> simp [isSeq, items] at e ⊢

/-! ### two-place operations -/
def rD (K : PySem.W.Frag) (f : D → D → Sto → R D) : R2 := fun vx vy H Q => ∃ E Z m S x y, RelS K Z m S H ∧ RelD K Z m S H x vx ∧ RelD K Z m S H y vy ∧ WR E K Z (RelD K Z) m S H Q (f x y S)
theorem re_op {K : PySem.W.Frag} {fa fb : Sg → Sto → R D} {f : D → D → Sto → R D} {σ : St} {H : Hp} {Q : VK}
    (h : RE W K (fun σ S => (fa σ S).bind fun x S => (fb σ S).bind fun y S => f x y S) σ H Q) : tOp (rD K f) (RE W K fa) (RE W K fb) σ H Q := by
  obtain ⟨Z, m, S, σd, c, w⟩ := h
  refine ⟨Z, m, S, σd, c, WR.bind w fun x S1 m1 H1 vx st1 rs1 rx w1 => ?_⟩
  refine ⟨Z, m1, S1, σd, c.step st1 rs1, WR.bind w1 fun y S2 m2 H2 vy st2 rs2 ry w2 => ?_⟩
  exact ⟨_, Z, m2, S2, x, y, rs2, rx.mono st2, ry, w2⟩
section
variable {X : Cx}
theorem op_binD {op : BOp} {o : Operator} (ho : op.is o = true) : OpR X (binaryOp o) (rD X.K (binD op)) := by
  intro pins s σ H vx vy v u Q I rv ru ⟨E, Z, m, S, x, y, rs, dx, dy, w⟩
  have key : ∀ {xs ys : List D}, listOf S x = some xs → listOf S y = some ys → xs.length + ys.length ≤ lim → WR E X.K Z (RelD X.K Z) m S H Q (.ok (.lv (xs ++ ys)) S) →
      wpAny (model X.prog X.w) X.A (binaryOp .Add v u) (EP X pins σ Q) X.xe s := fun {xs ys} e1 e2 hl w => by
    obtain ⟨p, vs, rfl, h1, r1⟩ := dx.listOf rs e1
    obtain ⟨q, ws, rfl, h2, r2⟩ := dy.listOf rs e2
    exact op_cat pins s σ H _ _ v u Q I rv ru ⟨p, q, vs, ws, rfl, rfl, h1, h2, by rw [← r1.length, ← r2.length]; exact lim_le hl, fun l hl => w.newL rs (r1.app r2) hl⟩
  cases op <;> cases o <;> simp only [BOp.is, Bool.false_eq_true] at ho
  case add =>
    unfold binD at w
    split at w <;> simp_all only [reduceCtorEq]
    · cases dx; cases dy
      exact op_add pins s σ H _ _ v u Q I rv ru ⟨_, _, rfl, rfl, w.here rs (.int _)⟩
    · split at w
      · rename_i hl
        cases dx; cases dy
        exact op_add_str pins s σ H _ _ v u Q I rv ru ⟨_, _, rfl, rfl, lim_le hl, w.here rs (.str _)⟩
      · exact w.elim
    · split at w
      · rename_i hl
        obtain ⟨p, vs, rfl, h1, r1⟩ := dx.tupOf
        obtain ⟨q, ws, rfl, h2, r2⟩ := dy.tupOf
        refine op_catA pins s σ H _ _ v u Q I rv ru ⟨p, q, vs, ws, rfl, rfl, h1, h2, by rw [← r1.length, ← r2.length]; exact lim_le hl, ?_⟩
        refine ⟨fun e => ?_, fun _ e => ?_, fun _ _ l hl => w.newT rs (r1.app r2) hl⟩
        · subst e
          cases r1
          exact w.here rs dy
        · subst e
          cases r2
          rw [List.append_nil] at w
          exact w.here rs dx
      · exact w.elim
    · split at w
      · rename_i e1 e2
        split at w
        · rename_i hl
          exact key e1 e2 hl w
        · exact w.elim
      · exact w.elim
    · exact w.elim
  case sub =>
    unfold binD at w
    split at w <;> simp_all only [reduceCtorEq] <;> try exact w.elim
    cases dx; cases dy
    exact op_sub pins s σ H _ _ v u Q I rv ru ⟨_, _, rfl, rfl, w.here rs (.int _)⟩
  case mul =>
    unfold binD at w
    split at w <;> simp_all only [reduceCtorEq] <;> try exact w.elim
    split at w
    · rename_i hc
      cases dx; cases dy
      unfold CMulD at hc
      rw [Bool.or_eq_true] at hc
      rcases hc with hc | hc
      · refine op_mul pins s σ H _ _ v u Q I rv ru ⟨_, _, rfl, rfl, ?_, w.here rs (.int _)⟩
        rw [Bool.or_eq_true, decide_eq_true_eq, decide_eq_true_eq] at hc
        exact hc
      · exact op_mulW pins s σ H _ _ v u Q I rv ru ⟨_, _, rfl, rfl, by rw [decide_eq_true_eq] at hc; exact hc, w.here rs (.int _)⟩
    · exact w.elim
  case fdiv =>
    unfold binD at w
    split at w <;> simp_all only [reduceCtorEq] <;> try exact w.elim
    split at w
    · rename_i hc
      cases dx; cases dy
      exact op_fdivW pins s σ H _ _ v u Q I rv ru ⟨_, _, rfl, rfl, hc, w.here rs (.int _)⟩
    · exact w.elim
  case mod =>
    unfold binD at w
    split at w <;> simp_all only [reduceCtorEq] <;> try exact w.elim
    split at w
    · rename_i hc
      cases dx; cases dy
      exact op_mod pins s σ H _ _ v u Q I rv ru ⟨_, _, rfl, rfl, hc, w.here rs (.int _)⟩
    · exact w.elim
  case pow =>
    unfold binD at w
    split at w <;> simp_all only [reduceCtorEq] <;> try exact w.elim
    split at w
    · rename_i hc
      cases dx; cases dy
      exact op_pow pins s σ H _ _ v u Q I rv ru ⟨_, _, rfl, rfl, hc, w.here rs (.int _)⟩
    · exact w.elim
end
section
variable {X : Cx}
theorem op_catM : OpR X (binaryOp .Add) (rD X.K catM) := by
  intro pins s σ H vx vy v u Q I rv ru ⟨E, Z, m, S, x, y, rs, dx, dy, w⟩
  unfold catM at w
  split at w
  · rename_i e1 e2
    split at w
    · rename_i hl
      obtain ⟨p, vs, rfl, h1, r1⟩ := dx.listOf rs e1
      obtain ⟨q, ws, rfl, h2, r2⟩ := dy.listOf rs e2
      exact op_cat pins s σ H _ _ v u Q I rv ru ⟨p, q, vs, ws, rfl, rfl, h1, h2, by rw [← r1.length, ← r2.length]; exact lim_le hl, fun l hl => w.newO rs (r1.app r2) hl⟩
    · exact w.elim
  · exact w.elim
end
/-! ### comparisons -/
mutual
theorem RelD.dp {K : PySem.W.Frag} {Z : List Addr} {m : List Addr} {S : Sto} {H : Hp} : ∀ {d : D} {v : V} {p : PyData}, RelD K Z m S H d v → toPy d = some p → Dp K H v p
  | .non, _, _, r, e => by cases r; simp [toPy] at e; subst e; exact .non
  | .bl _, _, _, r, e => by cases r; simp [toPy] at e; subst e; exact .bl _
  | .int _, _, _, r, e => by cases r; simp [toPy] at e; subst e; exact .int _
  | .str _, _, _, r, e => by cases r; simp [toPy] at e; subst e; exact .str _
  | .tup xs, _, _, r, e => by
    simp only [toPy, Option.map_eq_some_iff] at e
    obtain ⟨ps, e1, rfl⟩ := e
    obtain ⟨p, vs, rfl, h, r⟩ := r.tupOf
    exact .tup h (RelDs.dp r e1)
  | .lv xs, _, _, r, e => by
    simp only [toPy, Option.map_eq_some_iff] at e
    obtain ⟨ps, e1, rfl⟩ := e
    cases r with
    | lv h n _ r => exact .lst (SqL.of h) (RelDs.dp r e1)
  | .fl xs, _, _, r, e => by
    simp only [toPy, Option.map_eq_some_iff] at e
    obtain ⟨ps, e1, rfl⟩ := e
    cases r with
    | fl h n _ r => exact .lst (.inl h) (RelDs.dp r e1)
    | flK h r => exact .lst (h.elim (fun z => by rcases z with z | ⟨o, z⟩ <;> cases z) .inr) (RelDs.dp r e1)
  | .ref _, _, _, _, e => by simp [toPy] at e
  | .ty _, _, _, _, e => by simp [toPy] at e
  | .vw _ _, _, _, _, e => by simp [toPy] at e
theorem RelDs.dp {K : PySem.W.Frag} {Z : List Addr} {m : List Addr} {S : Sto} {H : Hp} : ∀ {d : List D} {v : List V} {p : List PyData}, RelDs K Z m S H d v → toPys d = some p → DpAll K H v p
  | [], _, _, r, e => by cases r; simp [toPys] at e; subst e; exact .nil
  | d :: ds, _, _, r, e => by
    cases r with
    | cons h t =>
      simp only [toPys] at e
      split at e
      · rename_i e1 e2
        cases e
        exact .cons (RelD.dp h e1) (RelDs.dp t e2)
      · cases e
end
theorem RelD.tdp {K : PySem.W.Frag} {Z : List Addr} {m : List Addr} {S : Sto} {H : Hp} {d : D} {v : V} {p : PyData} (rs : RelS K Z m S H) (r : RelD K Z m S H d v) (e : topPy S d = some p) : Dp K H v p := by
  unfold topPy at e
  split at e
  · split at e
    · rename_i n _ xs hz
      simp only [Option.map_eq_some_iff] at e
      obtain ⟨ps, e1, rfl⟩ := e
      cases r with
      | ref h =>
        obtain ⟨vs, h1, h2⟩ := rs.obj n _ _ h hz
        exact .lst (SqL.of h1) (h2.dp e1)
    · cases e
  · cases r
  · exact r.dp e
theorem RelD.flat {K : PySem.W.Frag} {Z : List Addr} {m : List Addr} {S : Sto} {H : Hp} {d : D} {v : V} (r : RelD K Z m S H d v) (h : flatD d = true) : v = toV d ∧ flatV v = true := by
  cases r <;> simp [flatD, toV, flatV] at h ⊢
theorem RelDs.flat {K : PySem.W.Frag} {Z : List Addr} {m : List Addr} {S : Sto} {H : Hp} : ∀ {d : List D} {v : List V}, RelDs K Z m S H d v → d.all flatD = true → v = d.map toV ∧ v.all flatV = true
  | _, _, .nil, _ => ⟨rfl, rfl⟩
  | _, _, .cons h t, e => by
    simp only [List.all_cons, Bool.and_eq_true] at e
    obtain ⟨h1, h2⟩ := h.flat e.1
    obtain ⟨h3, h4⟩ := RelDs.flat t e.2
    refine ⟨by rw [List.map_cons, ← h1, ← h3], by simp [h2, h4]⟩
theorem RelDs.ints {K : PySem.W.Frag} {Z : List Addr} {m : List Addr} {S : Sto} {H : Hp} : ∀ {d : List D} {v : List V} {ns : List Int}, RelDs K Z m S H d v → intsOf d = some ns → v = ns.map V.int
  | _, _, _, .nil, e => by simp [intsOf] at e; subst e; rfl
  | _, _, _, .cons (d := d) h t, e => by
    cases d <;> simp only [intsOf] at e <;> try (cases e; done)
    simp only [Option.map_eq_some_iff] at e
    obtain ⟨ms, e1, rfl⟩ := e
    cases h
    rw [RelDs.ints t e1]
    rfl
theorem RelDs.bools {K : PySem.W.Frag} {Z : List Addr} {m : List Addr} {S : Sto} {H : Hp} : ∀ {d : List D} {v : List V} {ns : List Bool}, RelDs K Z m S H d v → boolsOf d = some ns → v = ns.map V.bl
  | _, _, _, .nil, e => by simp [boolsOf] at e; subst e; rfl
  | _, _, _, .cons (d := d) h t, e => by
    cases d <;> simp only [boolsOf] at e <;> try (cases e; done)
    simp only [Option.map_eq_some_iff] at e
    obtain ⟨ms, e1, rfl⟩ := e
    cases h
    rw [RelDs.bools t e1]
    rfl
theorem WR.opt {K : PySem.W.Frag} {Z : List Addr} {m : List Addr} {S : Sto} {H : Hp} {Q : VK} {o : Option Bool} (rs : RelS K Z m S H) (w : WR EX K Z (RelD K Z) m S H Q ((ofOpt S o).bind fun b S => .ok (.bl b) S)) : ∃ b, o = some b ∧ Q (.bl b) H := by
  cases o with
  | none => exact w.elim
  | some b => exact ⟨b, rfl, WR.here w rs (.bl b)⟩
section
variable {X : Cx}
def rInTD (K : PySem.W.Frag) (neg : Bool) : R2 := fun x y H Q => ∃ d ds, Dp K H x d ∧ Dp K H y (.tuple ds) ∧ SeqAt.shaped d = true ∧ SeqAt.shaped (.tuple ds) = true ∧ Q (.bl (if neg then !ds.any fun z => PyData.eqv z d else ds.any fun z => PyData.eqv z d)) H
theorem op_inTD (hu : X.A.units + 65 < cLine) : OpR X (compareOp .In) (rInTD X.K false) := by
  intro pins s σ H x y v u Q I rx ry h
  obtain ⟨d, ds, hd, he, sd, se, q⟩ := h
  obtain ⟨as, r1⟩ := Dp.reads I d x v hd rx
  obtain ⟨bs, r2⟩ := Dp.reads I (.tuple ds) y u he ry
  exact SeqAt.in_tuple_reads r2 r1 (SeqAt.canLay_of_shaped se) (SeqAt.canLay_of_shaped sd) (PyProof.Rows.room_in_shaped sd hu) ⟨.bl _, H, I, rfl, q⟩
theorem op_notInTD (hu : X.A.units + 65 < cLine) : OpR X (compareOp .NotIn) (rInTD X.K true) := by
  intro pins s σ H x y v u Q I rx ry h
  obtain ⟨d, ds, hd, he, sd, se, q⟩ := h
  obtain ⟨as, r1⟩ := Dp.reads I d x v hd rx
  obtain ⟨bs, r2⟩ := Dp.reads I (.tuple ds) y u he ry
  exact SeqAt.notIn_tuple_reads r2 r1 (SeqAt.canLay_of_shaped se) (SeqAt.canLay_of_shaped sd) (PyProof.Rows.room_in_shaped sd hu) ⟨.bl _, H, I, rfl, q⟩
theorem op_cmpD {op : COp} {o : CmpOp} (hu : X.A.units + 65 < cLine) (ho : op.is o = true) : OpR X (compareOp o) (rD X.K (cmpD op)) := by
  intro pins s σ H vx vy v u Q I rv ru ⟨E, Z, m, S, x, y, rs, dx, dy, w⟩
  unfold cmpD at w
  obtain ⟨b, e, q⟩ := WR.opt rs w
  clear w
  have eq2 : ∀ {k : Bool}, eqD S x y = some k → (scal vx vy = true ∧ k = decide (vx = vy)) ∨ ∃ d e, Dp X.K H vx d ∧ Dp X.K H vy e ∧ SeqAt.shaped d = true ∧ SeqAt.shaped e = true ∧ PyData.eqv d e = k := fun {k} e => by
    unfold eqD at e
    split at e
    · rename_i kk e1
      cases e
      refine .inl ?_
      unfold eqS at e1
      split at e1
      · cases dx; cases dy; cases e1; exact ⟨rfl, by simp⟩
      · cases dx; cases dy; cases e1; exact ⟨rfl, by simp⟩
      · cases dx; cases dy; cases e1; exact ⟨rfl, by simp⟩
      · cases e1
    · split at e
      · rename_i e1 e2
        split at e
        · rename_i hs
          rw [Bool.and_eq_true] at hs
          cases e
          exact .inr ⟨_, _, dx.tdp rs e1, dy.tdp rs e2, hs.1, hs.2, rfl⟩
        · cases e
      · cases e
  have in2 : ∀ {k : Bool}, inD S x y = some k → (∃ (c : Nat) (z : Str), vx = .str ⟨#[c]⟩ ∧ vy = .str z ∧ k = decide (c ∈ z.cps.toList)) ∨ (∃ d ds, Dp X.K H vx d ∧ Dp X.K H vy (.list ds) ∧ SeqAt.shaped d = true ∧ SeqAt.shaped (.list ds) = true ∧ k = ds.any fun z => PyData.eqv z d) ∨ (∃ d ds, Dp X.K H vx d ∧ Dp X.K H vy (.tuple ds) ∧ SeqAt.shaped d = true ∧ SeqAt.shaped (.tuple ds) = true ∧ k = ds.any fun z => PyData.eqv z d) ∨
      (∃ p xs, vy = .ref p ∧ (SqL X.K H p xs ∨ SqT X.K H p xs) ∧ flatV vx = true ∧ xs.all flatV = true ∧ k = inV vx xs) := fun {k} e => by
    unfold inD at e
    split at e
    · rename_i x y _
      split at e
      · rename_i c hc
        cases e
        cases dx; cases dy
        refine .inl ⟨c, y, ?_, rfl, rfl⟩
        obtain ⟨⟨l⟩⟩ := x
        simp at hc
        subst hc
        rfl
      · cases e
    · split at e
      · rename_i ys hi
        split at e
        · rename_i hs
          rw [Bool.and_eq_true, Bool.and_eq_true] at hs
          cases e
          obtain ⟨p, vs, rfl, h1, r1⟩ := dy.seqOf rs hs.1.1 hi
          obtain ⟨h2, h3⟩ := dx.flat hs.1.2
          obtain ⟨h4, h5⟩ := r1.flat hs.2
          exact .inr (.inr (.inr ⟨p, vs, rfl, h1, h3, h5, by rw [h2, h4]⟩))
        · split at e
          · rename_i e1 e2
            split at e
            · rename_i hs
              rw [Bool.and_eq_true] at hs
              cases e
              exact .inr (.inl ⟨_, _, dx.tdp rs e1, dy.tdp rs e2, hs.1, hs.2, rfl⟩)
            · cases e
          · rename_i e1 e2
            split at e
            · rename_i hs
              rw [Bool.and_eq_true] at hs
              cases e
              exact .inr (.inr (.inl ⟨_, _, dx.tdp rs e1, dy.tdp rs e2, hs.1, hs.2, rfl⟩))
            · cases e
          · cases e
      · cases e
  cases op <;> cases o <;> simp only [COp.is, Bool.false_eq_true] at ho <;> simp only [cmpO] at e
  case lt =>
    unfold ltD at e
    split at e
    · cases e; cases dx; cases dy
      exact op_lt pins s σ H _ _ v u Q I rv ru ⟨_, _, rfl, rfl, q⟩
    · cases e; cases dx; cases dy
      exact op_lt_str pins s σ H _ _ v u Q I rv ru ⟨_, _, rfl, rfl, q⟩
    · split at e
      · rename_i e1 e2
        cases e
        obtain ⟨p, vs, rfl, h1, r1⟩ := dx.tupOf
        obtain ⟨p2, vs2, rfl, h2, r2⟩ := dy.tupOf
        have z1 := r1.ints e1
        have z2 := r2.ints e2
        subst z1 z2
        exact op_ltT (by omega) pins s σ H _ _ v u Q I rv ru ⟨_, _, _, _, rfl, rfl, h1, h2, q⟩
      · cases e
    · cases e
  case le =>
    unfold leD at e
    split at e <;> cases e <;> cases dx <;> cases dy
    · exact op_le pins s σ H _ _ v u Q I rv ru ⟨_, _, rfl, rfl, q⟩
    · exact op_le_str pins s σ H _ _ v u Q I rv ru ⟨_, _, rfl, rfl, q⟩
  case gt =>
    unfold gtD at e
    split at e <;> cases e <;> cases dx <;> cases dy
    · exact op_gt pins s σ H _ _ v u Q I rv ru ⟨_, _, rfl, rfl, q⟩
    · exact op_gt_str pins s σ H _ _ v u Q I rv ru ⟨_, _, rfl, rfl, q⟩
  case ge =>
    unfold geD at e
    split at e <;> cases e <;> cases dx <;> cases dy
    · exact op_ge pins s σ H _ _ v u Q I rv ru ⟨_, _, rfl, rfl, q⟩
    · exact op_ge_str pins s σ H _ _ v u Q I rv ru ⟨_, _, rfl, rfl, q⟩
  case eq =>
    rcases eq2 e with ⟨h1, rfl⟩ | ⟨d, f, h1, h2, h3, h4, rfl⟩
    · exact op_eq pins s σ H _ _ v u Q I rv ru ⟨h1, q⟩
    exact op_eqD (by omega) pins s σ H _ _ v u Q I rv ru ⟨d, f, h1, h2, h3, h4, q⟩
  case ne =>
    simp only [Option.map_eq_some_iff] at e
    obtain ⟨k, e, rfl⟩ := e
    rcases eq2 e with ⟨h1, rfl⟩ | ⟨d, f, h1, h2, h3, h4, rfl⟩
    · exact op_ne pins s σ H _ _ v u Q I rv ru ⟨h1, q⟩
    exact op_neD (by omega) pins s σ H _ _ v u Q I rv ru ⟨d, f, h1, h2, h3, h4, q⟩
  case in_ =>
    rcases in2 e with ⟨c, z, rfl, rfl, rfl⟩ | ⟨d, ds, h1, h2, h3, h4, rfl⟩ | ⟨d, ds, h1, h2, h3, h4, rfl⟩ | ⟨p, xs, rfl, h1, h2, h3, rfl⟩
    · exact op_in_sign pins s σ H _ _ v u Q I rv ru ⟨c, z, rfl, rfl, q⟩
    · exact op_inD hu pins s σ H _ _ v u Q I rv ru ⟨d, ds, h1, h2, h3, h4, q⟩
    · exact op_inTD hu pins s σ H _ _ v u Q I rv ru ⟨d, ds, h1, h2, h3, h4, q⟩
    · exact op_in_seq pins s σ H _ _ v u Q I rv ru ⟨p, xs, rfl, h1, h2, h3, q⟩
  case nin =>
    simp only [Option.map_eq_some_iff] at e
    obtain ⟨k, e, rfl⟩ := e
    rcases in2 e with ⟨c, z, rfl, rfl, rfl⟩ | ⟨d, ds, h1, h2, h3, h4, rfl⟩ | ⟨d, ds, h1, h2, h3, h4, rfl⟩ | ⟨p, xs, rfl, h1, h2, h3, rfl⟩
    · exact op_notIn_sign pins s σ H _ _ v u Q I rv ru ⟨c, z, rfl, rfl, q⟩
    · exact op_notInD hu pins s σ H _ _ v u Q I rv ru ⟨d, ds, h1, h2, h3, h4, q⟩
    · exact op_notInTD hu pins s σ H _ _ v u Q I rv ru ⟨d, ds, h1, h2, h3, h4, q⟩
    · exact op_notIn_seq pins s σ H _ _ v u Q I rv ru ⟨p, xs, rfl, h1, h2, h3, q⟩
  case is_ =>
    have : vy = .non ∧ b = decide (vx = .non) := by
      unfold isD at e
      split at e <;> cases e <;> cases dx <;> cases dy <;> exact ⟨rfl, rfl⟩
    obtain ⟨rfl, rfl⟩ := this
    exact op_isN pins s σ H _ _ v u Q I rv ru ⟨rfl, q⟩
  case isn =>
    simp only [Option.map_eq_some_iff] at e
    obtain ⟨k, e, rfl⟩ := e
    have : vy = .non ∧ k = decide (vx = .non) := by
      unfold isD at e
      split at e <;> cases e <;> cases dx <;> cases dy <;> exact ⟨rfl, rfl⟩
    obtain ⟨rfl, rfl⟩ := this
    exact op_notN pins s σ H _ _ v u Q I rv ru ⟨rfl, q⟩
end
end Ev

namespace Ev
open PySem L2
variable {EX : XK} {W : WX}
/-! ### subscripts, slices -/
section
variable {X : Cx}
theorem ix_D : IxR X (rD X.K ixD) := by
  intro value slice pins s σ H vx vy v u Q I rv ru ⟨E, Z, m, S, x, y, rs, dx, dy, w⟩ hs
  unfold ixD at w
  split at w
  · rename_i z i
    split at w
    · rename_i hl
      cases dx; cases dy
      cases e : atI z.cps.toList i with
      | none => rw [e] at w; exact w.elim
      | some c =>
        rw [e] at w
        exact ix_str value slice pins s σ H _ _ v u Q I rv ru ⟨z, i, c, rfl, rfl, lim_le hl, e, WR.here w rs (.str _)⟩ hs
    · exact w.elim
  · rename_i i hns
    cases dy
    split at w
    · rename_i xs e
      cases e2 : atI xs i with
      | none => rw [e2] at w; exact w.elim
      | some d =>
        rw [e2] at w
        have sq : isSeq x = true := by
          rcases isSeq_of e with h | ⟨z, rfl⟩
          · exact h
          · exact (hns z rfl).elim
        obtain ⟨p, vs, rfl, hq, r⟩ := dx.seqOf rs sq e
        obtain ⟨vd, h1, h2⟩ := r.atI e2
        rcases hq with hq | hq
        · exact ix_list value slice pins s σ H _ _ v u Q I rv ru ⟨p, vs, i, vd, rfl, rfl, hq, h1, WR.here w rs h2⟩ hs
        · exact ix_tup value slice pins s σ H _ _ v u Q I rv ru ⟨p, vs, i, vd, rfl, rfl, hq, h1, WR.here w rs h2⟩ hs
    · exact w.elim
  · exact w.elim
def rSl (K : PySem.W.Frag) : V → Option Int → Option Int → Hp → VK → Prop := fun vx lo hi H Q => ∃ E Z m S x, RelS K Z m S H ∧ RelD K Z m S H x vx ∧ WR E K Z (RelD K Z) m S H Q (slD x lo hi S)
theorem sl_D : SlR X (rSl X.K) := by
  intro pins s σ H vx v vl vu lo hi sl Q I rv hs pl pu ⟨E, Z, m, S, x, rs, dx, w⟩
  unfold slD at w
  split at w
  · rename_i z
    split at w
    · rename_i hl
      cases dx
      exact sl_str pins s σ H _ v vl vu lo hi sl Q I rv hs pl pu ⟨z, rfl, lim_le hl, WR.here w rs (.str _)⟩
    · exact w.elim
  · rename_i xs
    obtain ⟨p, vs, rfl, h1, r1⟩ := dx.tupOf
    refine sl_tupA pins s σ H _ v vl vu lo hi sl Q I rv hs pl pu ⟨p, vs, rfl, h1, fun hw => ?_, fun _ l hl => w.newT rs (r1.cut lo hi) hl⟩
    have e : cutD xs lo hi = xs := by
      unfold cutD
      rw [r1.length, hw.1, hw.2]
      simp [← r1.length]
    rw [e] at w
    exact WR.here w rs dx
  · split at w
    · rename_i e
      obtain ⟨p, vs, rfl, h1, r1⟩ := dx.listOf rs e
      exact sl_list pins s σ H _ v vl vu lo hi sl Q I rv hs pl pu ⟨p, vs, rfl, SqL.of h1, fun l hl => w.newL rs (r1.cut lo hi) hl⟩
    · exact w.elim
/-! ### built-ins by values -/
def rC (K : PySem.W.Frag) (f : List D → Sto → R D) : List V → Hp → VK → Prop := fun vs H Q => ∃ E Z m S ds, RelS K Z m S H ∧ RelDs K Z m S H ds vs ∧ WR E K Z (RelD K Z) m S H Q (f ds S)
theorem RelDs.one {K : PySem.W.Frag} {Z : List Addr} {m : List Addr} {S : Sto} {H : Hp} {d : D} {vs : List V} (r : RelDs K Z m S H [d] vs) : ∃ v, vs = [v] ∧ RelD K Z m S H d v := by
  cases r with
  | cons h t => cases t; exact ⟨_, rfl, h⟩
theorem RelDs.two {K : PySem.W.Frag} {Z : List Addr} {m : List Addr} {S : Sto} {H : Hp} {d e : D} {vs : List V} (r : RelDs K Z m S H [d, e] vs) : ∃ v u, vs = [v, u] ∧ RelD K Z m S H d v ∧ RelD K Z m S H e u := by
  cases r with
  | cons h t =>
    obtain ⟨u, rfl, r⟩ := RelDs.one t
    exact ⟨_, u, rfl, h, r⟩
theorem cb_len : CallR X (.builtin "len") (rC X.K (bltD .len)) := by
  intro pins s σ H vs us Q I rv ⟨E, Z, m, S, ds, rs, rd, w⟩
  simp only [bltD] at w
  unfold lenD at w
  split at w <;> try exact w.elim
  obtain ⟨v, rfl, r⟩ := rd.one
  rename_i d
  cases e : lengthOf S d with
  | none => rw [e] at w; exact w.elim
  | some n =>
    rw [e] at w
    simp only at w
    have q := WR.here w rs (.int _)
    refine call_len pins s σ H _ us Q I rv ⟨v, n, rfl, ?_, q⟩
    unfold lengthOf at e
    split at e
    · split at e
      · rename_i hl
        cases e; cases r
        exact ⟨lim_le hl, rfl⟩
      · cases e
    · rename_i hns
      simp only [Option.map_eq_some_iff] at e
      obtain ⟨xs, e, rfl⟩ := e
      have sq : isSeq d = true := by
        rcases isSeq_of e with h | ⟨z, rfl⟩
        · exact h
        · exact (hns z rfl).elim
      obtain ⟨p, ws, rfl, hq, r1⟩ := r.seqOf rs sq e
      rcases hq with hq | hq
      · exact .inl ⟨ws, hq, r1.length⟩
      · exact .inr ⟨ws, hq, r1.length⟩
theorem cb_abs : CallR X (.builtin "abs") (rC X.K (bltD .abs)) := by
  intro pins s σ H vs us Q I rv ⟨E, Z, m, S, ds, rs, rd, w⟩
  simp only [bltD] at w
  unfold absD at w
  split at w <;> try exact w.elim
  obtain ⟨v, rfl, r⟩ := rd.one
  cases r
  exact call_abs pins s σ H _ us Q I rv ⟨_, rfl, WR.here w rs (.int _)⟩
theorem cb_int : CallR X (.type "int") (rC X.K (bltD .int)) := by
  intro pins s σ H vs us Q I rv ⟨E, Z, m, S, ds, rs, rd, w⟩
  simp only [bltD] at w
  unfold intD at w
  split at w <;> try exact w.elim
  · obtain ⟨v, rfl, r⟩ := rd.one
    cases r
    exact call_int1 pins s σ H _ us Q I rv (.inl ⟨_, rfl, WR.here w rs (.int _)⟩)
  · obtain ⟨v, rfl, r⟩ := rd.one
    cases r
    exact call_int1 pins s σ H _ us Q I rv (.inr ⟨_, rfl, WR.here w rs (.int _)⟩)
theorem cb_list : CallR X (.type "list") (rC X.K (bltD .list)) := by
  intro pins s σ H vs us Q I rv ⟨E, Z, m, S, ds, rs, rd, w⟩
  simp only [bltD] at w
  unfold lstD at w
  split at w <;> try exact w.elim
  split at w
  · rename_i d hq
    obtain ⟨v, rfl, r⟩ := rd.one
    cases e : items S d with
    | none => rw [e] at w; exact w.elim
    | some xs =>
      rw [e] at w
      obtain ⟨p, ws, rfl, hq, r1⟩ := r.seqOf rs hq e
      exact call_list_of pins s σ H _ us Q I rv ⟨p, ws, rfl, hq, fun l hl => WR.newL w rs r1 hl⟩
  · exact w.elim
theorem cb_listM : CallR X (.type "list") (rC X.K (fun ds S => (bltD .list ds S).bind thaw)) := by
  intro pins s σ H vs us Q I rv ⟨E, Z, m, S, ds, rs, rd, w⟩
  simp only [bltD] at w
  unfold lstD at w
  split at w <;> try exact w.elim
  split at w
  · rename_i d hq
    obtain ⟨v, rfl, r⟩ := rd.one
    cases e : items S d with
    | none => rw [e] at w; exact w.elim
    | some xs =>
      rw [e] at w
      obtain ⟨p, ws, rfl, hq, r1⟩ := r.seqOf rs hq e
      exact call_list_of pins s σ H _ us Q I rv ⟨p, ws, rfl, hq, fun l hl => WR.newO w rs r1 hl⟩
  · exact w.elim
theorem cb_tuple : CallR X (.type "tuple") (rC X.K (bltD .tuple)) := by
  intro pins s σ H vs us Q I rv ⟨E, Z, m, S, ds, rs, rd, w⟩
  simp only [bltD] at w
  unfold tupD at w
  split at w <;> try exact w.elim
  · obtain ⟨v, rfl, r⟩ := rd.one
    obtain ⟨p, ws, rfl, h1, r1⟩ := r.tupOf
    exact call_tuple_of pins s σ H _ us Q I rv ⟨p, ws, rfl, .inr ⟨h1, WR.here w rs r⟩⟩
  · split at w
    · rename_i d hn hq
      obtain ⟨v, rfl, r⟩ := rd.one
      cases e : items S d with
      | none => rw [e] at w; exact w.elim
      | some xs =>
        rw [e] at w
        obtain ⟨p, ws, rfl, hq2, r1⟩ := r.seqOf rs hq e
        rcases hq2 with hq2 | hq2
        · exact call_tuple_of pins s σ H _ us Q I rv ⟨p, ws, rfl, .inl ⟨hq2, fun l hl => WR.newT w rs r1 hl⟩⟩
        · cases d <;> simp only [isSeq, Bool.false_eq_true] at hq
          case tup ys => exact (hn ys rfl).elim
          case vw => cases r
          case lv ys =>
            cases r with
            | lv h n _ r2 => cases e; exact call_tuple_of pins s σ H _ us Q I rv ⟨p, _, rfl, .inl ⟨SqL.of h, fun l hl => WR.newT w rs r2 hl⟩⟩
          case fl ys =>
            cases r with
            | fl h n _ r2 => cases e; exact call_tuple_of pins s σ H _ us Q I rv ⟨p, _, rfl, .inl ⟨.inl h, fun l hl => WR.newT w rs r2 hl⟩⟩
            | flK h r2 => cases e; exact call_tuple_of pins s σ H _ us Q I rv ⟨p, _, rfl, .inl ⟨(h.elim (fun z => by rcases z with z | ⟨o, z⟩ <;> cases z) .inr), fun l hl => WR.newT w rs r2 hl⟩⟩
          case ref n =>
            simp only [items] at e
            split at e
            · rename_i zs hz
              cases e
              cases r with
              | ref h =>
                obtain ⟨ws2, h1, h2⟩ := rs.obj n _ _ h hz
                exact call_tuple_of pins s σ H _ us Q I rv ⟨p, ws2, rfl, .inl ⟨SqL.of h1, fun l hl => WR.newT w rs h2 hl⟩⟩
            · cases e
    · exact w.elim
theorem cb_str : CallR X (.type "str") (rC X.K (bltD .str)) := by
  intro pins s σ H vs us Q I rv ⟨E, Z, m, S, ds, rs, rd, w⟩
  simp only [bltD] at w
  unfold strD at w
  split at w <;> try exact w.elim
  split at w
  · rename_i hc
    obtain ⟨v, rfl, r⟩ := rd.one
    cases r
    exact call_str_int pins s σ H _ us Q I rv ⟨_, rfl, hc, WR.here w rs (.str _)⟩
  · exact w.elim
theorem cb_max (hc : X.calm = true) : CallR X (.builtin "max") (rC X.K (bltD .max)) := by
  intro pins s σ H vs us Q I rv ⟨E, Z, m, S, ds, rs, rd, w⟩
  simp only [bltD] at w
  unfold maxD at w
  split at w <;> try exact w.elim
  obtain ⟨v, u, rfl, r1, r2⟩ := rd.two
  cases r1; cases r2
  exact call_max2 hc pins s σ H _ us Q I rv ⟨_, _, rfl, WR.here w rs (.int _)⟩
theorem cb_min (hc : X.calm = true) : CallR X (.builtin "min") (rC X.K (bltD .min)) := by
  intro pins s σ H vs us Q I rv ⟨E, Z, m, S, ds, rs, rd, w⟩
  simp only [bltD] at w
  unfold minD at w
  split at w <;> try exact w.elim
  obtain ⟨v, u, rfl, r1, r2⟩ := rd.two
  cases r1; cases r2
  exact call_min2 hc pins s σ H _ us Q I rv ⟨_, _, rfl, WR.here w rs (.int _)⟩
theorem cb_sum (hc : X.calm = true) : CallR X (.builtin "sum") (rC X.K (bltD .sum)) := by
  intro pins s σ H vs us Q I rv ⟨E, Z, m, S, ds, rs, rd, w⟩
  simp only [bltD] at w
  unfold sumD at w
  split at w <;> try exact w.elim
  split at w
  · rename_i ns e
    obtain ⟨v, rfl, r⟩ := rd.one
    simp only [Option.bind_eq_some_iff] at e
    obtain ⟨xs, e1, e2⟩ := e
    obtain ⟨p, ws, rfl, h1, r1⟩ := r.listOf rs e1
    have z := r1.ints e2
    subst z
    exact cr_sum hc pins s σ H _ us Q I rv ⟨p, ns, rfl, SqL.of h1, WR.here w rs (.int _)⟩
  · exact w.elim
theorem RelDs.ofInts {K : PySem.W.Frag} {Z : List Addr} {m : List Addr} {S : Sto} {H : Hp} : ∀ (ns : List Int), RelDs K Z m S H (ns.map D.int) (ns.map V.int)
  | [] => .nil
  | n :: r => .cons (.int n) (RelDs.ofInts r)
theorem sortI_eq {ns ns' : List Int} (p : ns'.Perm ns) (h : ns'.Pairwise (· ≤ ·)) : ns' = sortI ns := by
  have h1 : (sortI ns).Pairwise (· ≤ ·) := by
    have := List.pairwise_mergeSort (le := fun a b : Int => decide (a ≤ b)) (fun a b c h1 h2 => by simp at h1 h2 ⊢; omega) (fun a b => by simp; omega) ns
    exact List.Pairwise.imp (fun h => by simpa using h) this
  exact List.Perm.eq_of_pairwise (fun a b _ _ h1 h2 => Int.le_antisymm h1 h2) h h1 (p.trans (List.mergeSort_perm _ _).symm)
theorem cb_sorted : CallR X (.builtin "sorted") (rC X.K (bltD .sorted)) := by
  intro pins s σ H vs us Q I rv ⟨E, Z, m, S, ds, rs, rd, w⟩
  simp only [bltD] at w
  unfold sortedD at w
  split at w <;> try exact w.elim
  split at w
  · rename_i ns e
    obtain ⟨v, rfl, r⟩ := rd.one
    simp only [Option.bind_eq_some_iff] at e
    obtain ⟨xs, e1, e2⟩ := e
    obtain ⟨p, ws, rfl, h1, r1⟩ := r.listOf rs e1
    have z := r1.ints e2
    subst z
    refine cr_sortedI pins s σ H _ us Q I rv ⟨p, ns, rfl, SqL.of h1, fun ns' q hp hr hq => ?_⟩
    rw [sortI_eq hp hr]
    exact w.newL rs (RelDs.ofInts _) hq
  · exact w.elim
theorem cb_any (hc : X.calm = true) : CallR X (.builtin "any") (rC X.K (bltD .any)) := by
  intro pins s σ H vs us Q I rv ⟨E, Z, m, S, ds, rs, rd, w⟩
  simp only [bltD] at w
  unfold anyD at w
  split at w <;> try exact w.elim
  split at w
  · rename_i ns e
    obtain ⟨v, rfl, r⟩ := rd.one
    simp only [Option.bind_eq_some_iff] at e
    obtain ⟨xs, e1, e2⟩ := e
    obtain ⟨p, ws, rfl, h1, r1⟩ := r.listOf rs e1
    have z := r1.bools e2
    subst z
    exact cr_any hc pins s σ H _ us Q I rv ⟨p, ns, rfl, SqL.of h1, WR.here w rs (.bl _)⟩
  · exact w.elim
theorem cb_all (hc : X.calm = true) : CallR X (.builtin "all") (rC X.K (bltD .all)) := by
  intro pins s σ H vs us Q I rv ⟨E, Z, m, S, ds, rs, rd, w⟩
  simp only [bltD] at w
  unfold allD at w
  split at w <;> try exact w.elim
  split at w
  · rename_i ns e
    obtain ⟨v, rfl, r⟩ := rd.one
    simp only [Option.bind_eq_some_iff] at e
    obtain ⟨xs, e1, e2⟩ := e
    obtain ⟨p, ws, rfl, h1, r1⟩ := r.listOf rs e1
    have z := r1.bools e2
    subst z
    exact cr_all hc pins s σ H _ us Q I rv ⟨p, ns, rfl, SqL.of h1, WR.here w rs (.bl _)⟩
  · exact w.elim
theorem cb_isi : CallR X (.builtin "isinstance") (rC X.K (bltD .isi)) := by
  intro pins s σ H vs us Q I rv ⟨E, Z, m, S, ds, rs, rd, w⟩
  simp only [bltD] at w
  unfold isiD at w
  split at w <;> try exact w.elim
  split at w
  · rename_i d n _ t e
    obtain ⟨v, u, rfl, r1, r2⟩ := rd.two
    cases r2
    cases e2 : kitB t n with
    | none => rw [e2] at w; exact w.elim
    | some b =>
      rw [e2] at w
      refine call_isi pins s σ H _ us Q I rv ⟨v, .ty n, .type t, .type n, b, rfl, .ty n, ?_, kit_ty e2, WR.here w rs (.bl _)⟩
      unfold tyName at e
      split at e
      · cases e; cases r1; exact .base .non
      · cases e; cases r1; exact .base (.bl _)
      · cases e; cases r1; exact .base (.int _)
      · cases e; cases r1; exact .base (.str _)
      · cases e
        cases r1 with
        | tup h n _ r => exact .base (.tup h)
        | tupK h r =>
          rcases h with (z | ⟨o, z⟩) | ⟨o, its, k, h1, h2, h3⟩
          · cases z
          · cases z
          · exact .kTuple h1 h2
      · cases e
        cases r1 with
        | lv h n _ r => exact .base (.lst h)
      · cases e
      · cases r1
      · split at e
        · rename_i k _ zs hz
          cases e
          cases r1 with
          | ref h =>
            obtain ⟨ws2, h1, h2⟩ := rs.obj k _ _ h hz
            exact .base (.lst h1)
        · cases e
      · cases e
      · cases e
  · exact w.elim
/-! ### methods that change a list, stores to a place -/
def rM (K : PySem.W.Frag) (f : D → List D → Sto → R D) : V → List V → Hp → VK → Prop := fun v vs H Q => ∃ E Z m S o ds, RelS K Z m S H ∧ RelD K Z m S H o v ∧ RelDs K Z m S H ds vs ∧ WR E K Z (RelD K Z) m S H Q (f o ds S)
theorem methD_ref {mt : Mth} {o : D} {ds : List D} {S : Sto} {K : PySem.W.Frag} {Z : List Addr} {m : List Addr} {H : Hp} {Q : VK} (w : WR EX K Z (RelD K Z) m S H Q (methD mt o ds S)) :
    ∃ n xs d ys, o = .ref n ∧ S[n]? = some (O.lst xs) ∧ mt.run xs ds = some (d, ys) ∧ WR EX K Z (RelD K Z) m S H Q (.ok d (S.set n (O.lst ys))) := by
  unfold methD at w
  split at w
  · split at w
    · split at w
      · rename_i n _ xs e _ d ys e2
        exact ⟨n, xs, d, ys, rfl, e, e2, w⟩
      · exact w.elim
    · exact w.elim
  · exact w.elim
def Mth.id : Mth → String
  | .append => "list.append" | .insert => "list.insert" | .pop => "list.pop"
theorem mtD (mt : Mth) : MtR X mt.id (rM X.K (methD mt)) := by
  intro pins s σ H vx vs v us Q I rv ru ⟨E, Z, m, S, o, ds, rs, rd, rds, w⟩
  obtain ⟨n, xs, d, ys, rfl, hx, he, w⟩ := methD_ref w
  cases rd with
  | @ref _ a hm =>
    obtain ⟨ws, h1, r1⟩ := rs.obj n a xs hm hx
    cases mt with
    | append =>
      simp only [Mth.run] at he
      unfold appF at he
      split at he
      · split at he
        · rename_i hl
          cases he
          obtain ⟨y, rfl, ry⟩ := rds.one
          refine mt_append pins s σ H _ _ v us Q I rv ru ⟨a, ws, y, rfl, rfl, h1, by rw [← r1.length]; exact lim_lt hl, ?_⟩
          exact w m _ _ (step_set hx hm) (rels_set rs hx hm (r1.app (.cons ry .nil))) .non
        · cases he
      · cases he
    | insert =>
      simp only [Mth.run] at he
      unfold insF at he
      split at he
      · split at he
        · rename_i i e hl
          cases he
          obtain ⟨y1, y2, rfl, ry1, ry2⟩ := rds.two
          cases ry1
          refine mt_insert pins s σ H _ _ v us Q I rv ru ⟨a, ws, i, y2, rfl, rfl, h1, by rw [← r1.length]; exact lim_lt hl.1, hl.2.1, by have := hl.2.2; omega, ?_⟩
          refine w m _ _ (step_set hx hm) (rels_set rs hx hm ?_) .non
          rw [List.append_assoc]
          exact (r1.take _).app (.cons ry2 (r1.drop _))
        · cases he
      · cases he
    | pop =>
      simp only [Mth.run] at he
      unfold popF at he
      split at he
      · split at he
        · rename_i i hl
          split at he
          · rename_i e hd
            cases he
            obtain ⟨y, rfl, ry⟩ := rds.one
            cases ry
            obtain ⟨vd, hv, rvd⟩ := r1.get hd
            have hlen := r1.length
            have h63 := line63
            have hlim := lim_le hl.2.2
            have hs : seqIndex? i ws.length = some i.toNat := PySem.seqIndex_of hl.1 (by omega)
            refine mt_popAt pins s σ H _ _ v us Q I rv ru ⟨a, ws, i, i.toNat, vd, rfl, rfl, h1, by omega, by omega, hs, hv, ?_⟩
            exact w m _ _ (step_set hx hm) (rels_set rs hx hm (r1.erase _)) (rvd.mono (step_set hx hm))
          · cases he
        · cases he
      · cases he
def rSt (K : PySem.W.Frag) : V → V → V → Hp → (Hp → Prop) → Prop := fun o i v H Q => ∃ E Z m S od id d, RelS K Z m S H ∧ RelD K Z m S H od o ∧ RelD K Z m S H id i ∧ RelD K Z m S H d v ∧ WR E K Z (eqRel (α := Unit)) m S H (fun _ H => Q H) (setiD od id d S)
theorem set_D : PSet X (rSt X.K) := by
  intro pins s σ H o i v ov iv u Q I ro ri rv ⟨E, Z, m, S, od, id, d, rs, r1, r2, r3, w⟩
  unfold setiD at w
  split at w
  · rename_i n k
    split at w
    · rename_i xs hx
      split at w
      · rename_i j hj
        cases r1 with
        | @ref _ a hm =>
          cases r2
          obtain ⟨ws, h1, r4⟩ := rs.obj n a xs hm hx
          refine set_list pins s σ H _ _ v ov iv u Q I ro ri rv ⟨a, ws, k, j, rfl, rfl, h1, by rw [← r4.length]; exact hj, ?_⟩
          exact w m _ () (step_set hx hm) (rels_set rs hx hm (r4.set j r3)) rfl
      · exact w.elim
    · exact w.elim
  · exact w.elim
/-! ### truth -/
theorem truV {K : PySem.W.Frag} {Z : List Addr} {m : List Addr} {S : Sto} {H : Hp} {d : D} {v : V} {b : Bool} (rs : RelS K Z m S H) (r : RelD K Z m S H d v) (e : truth S d = some b) : TruV K v H b := by
  unfold truth at e
  split at e
  · cases e; cases r; exact rfl
  · cases e; cases r; exact rfl
  · cases e; cases r; exact rfl
  · split at e
    · rename_i hl
      cases e; cases r; exact ⟨lim_le hl, rfl⟩
    · cases e
  · cases e
    obtain ⟨p, vs, rfl, h, r1⟩ := r.tupOf
    refine .inr (.inl ⟨vs, h, ?_⟩)
    cases r1 <;> rfl
  · cases e
    cases r with
    | lv h n _ r1 =>
      refine .inl ⟨_, SqL.of h, ?_⟩
      cases r1 <;> rfl
  · cases e
    cases r with
    | fl h n _ r1 =>
      refine .inl ⟨_, .inl h, ?_⟩
      cases r1 <;> rfl
    | flK h r1 =>
      refine .inl ⟨_, (h.elim (fun z => by rcases z with z | ⟨o, z⟩ <;> cases z) .inr), ?_⟩
      cases r1 <;> rfl
  · cases r
  · split at e
    · rename_i k _ zs hz
      cases e
      cases r with
      | ref h =>
        obtain ⟨ws2, h1, h2⟩ := rs.obj k _ _ h hz
        refine .inl ⟨_, SqL.of h1, ?_⟩
        cases h2 <;> rfl
    · cases e
  · cases e
  · cases e
theorem pt_re {e : Expr} {f : Sg → Sto → R D} (h : PE X e (RE W X.K f)) (he : ∀ whole, isTrue e X.env whole = (do let v ← whole; standAt e.pos; holding [v] (truthy v))) : PT X e (RT W X.K f) := by
  refine PT.mono (pt_truth h he) fun σ H Q ⟨Z, m, S, σd, c, w⟩ => ⟨Z, m, S, σd, c, WR.bind w fun d S1 m1 H1 v st rs r w1 => ?_⟩
  unfold tr at w1
  split at w1
  · rename_i b hb
    exact ⟨b, truV rs r hb, WR.here w1 rs rfl⟩
  · exact w1.elim
end
end Ev

namespace Ev
open PySem L2
variable {EX : XK} {W : WX}

/-! ### hidden places -/
section
variable {K : PySem.W.Frag} {Z : List Addr} {m m1 : List Addr} {S S1 : Sto} {H H' H1 : Hp} {p z : Addr} {o : HO} {σd : Sg} {σ : St}
mutual
/-- what was not there is not mentioned -/
theorem RelD.hide (hz : H z = none) : ∀ {d : D} {v : V}, RelD K Z m S H d v → RelD K (z :: Z) m S H d v
  | _, _, .non => .non
  | _, _, .bl b => .bl b
  | _, _, .int i => .int i
  | _, _, .str x => .str x
  | _, _, .ty n => .ty n
  | _, _, .tup h n q r => .tup h n (by rw [List.mem_cons]; exact fun e => e.elim (ne_of_none h hz) q) (RelDs.hide hz r)
  | _, _, .tupK h r => .tupK h (RelDs.hide hz r)
  | _, _, .lv h n q r => .lv h n (by rw [List.mem_cons]; exact fun e => e.elim (ne_of_none h hz) q) (RelDs.hide hz r)
  | _, _, .fl h n q r => .fl h n (by
      rw [List.mem_cons]
      rcases h with h | ⟨o, h⟩
      · exact fun e => e.elim (ne_of_none h hz) q
      · exact fun e => e.elim (ne_of_none h hz) q) (RelDs.hide hz r)
  | _, _, .flK h r => .flK h (RelDs.hide hz r)
  | _, _, .ref h => .ref h
  | _, _, .ob h l n q r => .ob h l n (by rw [List.mem_cons]; exact fun e => e.elim (ne_of_none h hz) q) (RelDs.hide hz r)
theorem RelDs.hide (hz : H z = none) : ∀ {d : List D} {v : List V}, RelDs K Z m S H d v → RelDs K (z :: Z) m S H d v
  | _, _, .nil => .nil
  | _, _, .cons h t => .cons (RelD.hide hz h) (RelDs.hide hz t)
end
mutual
/-- what is hidden may change, and may come to light -/
theorem RelD.free (hk : ∀ a o, a ≠ z → H a = some o → H' a = some o) : ∀ {d : D} {v : V}, RelD K (z :: Z) m S H d v → RelD K Z m S H' d v
  | _, _, .non => .non
  | _, _, .bl b => .bl b
  | _, _, .int i => .int i
  | _, _, .str x => .str x
  | _, _, .ty n => .ty n
  | _, _, .tup h n q r => by
    rw [List.mem_cons, not_or] at q
    exact .tup (hk _ _ q.1 h) n q.2 (RelDs.free hk r)
  | _, _, .tupK h r => .tupK h (RelDs.free hk r)
  | _, _, .lv h n q r => by
    rw [List.mem_cons, not_or] at q
    exact .lv (hk _ _ q.1 h) n q.2 (RelDs.free hk r)
  | _, _, .fl h n q r => by
    rw [List.mem_cons, not_or] at q
    rcases h with h | ⟨o, h⟩
    · exact .fl (.inl (hk _ _ q.1 h)) n q.2 (RelDs.free hk r)
    · exact .fl (.inr ⟨o, hk _ _ q.1 h⟩) n q.2 (RelDs.free hk r)
  | _, _, .flK h r => .flK h (RelDs.free hk r)
  | _, _, .ref h => .ref h
  | _, _, .ob h l n q r => by
    rw [List.mem_cons, not_or] at q
    exact .ob (hk _ _ q.1 h) l n q.2 (RelDs.free hk r)
theorem RelDs.free (hk : ∀ a o, a ≠ z → H a = some o → H' a = some o) : ∀ {d : List D} {v : List V}, RelDs K (z :: Z) m S H d v → RelDs K Z m S H' d v
  | _, _, .nil => .nil
  | _, _, .cons h t => .cons (RelD.free hk h) (RelDs.free hk t)
end
theorem RelO.free {o : O} {u : HO} (hk : ∀ a o, a ≠ z → H a = some o → H' a = some o) (r : RelO K (z :: Z) m S H o u) : RelO K Z m S H' o u := by
  cases r with
  | lst r => exact .lst (RelDs.free hk r)
  | ins l r => exact .ins l (RelDs.free hk r)
theorem RelO.hide {o : O} {u : HO} (hz : H z = none) (r : RelO K Z m S H o u) : RelO K (z :: Z) m S H o u := by
  cases r with
  | lst r => exact .lst (RelDs.hide hz r)
  | ins l r => exact .ins l (RelDs.hide hz r)
/-- the heap without one place -/
def cutH (H : Hp) (z : Addr) : Hp := fun a => if a = z then none else H a
theorem cutH_ne {a : Addr} (h : a ≠ z) : cutH H z a = H a := by unfold cutH; rw [if_neg h]
theorem cutH_same : cutH H z z = none := by unfold cutH; rw [if_pos rfl]
theorem cutH_some {a : Addr} {o : HO} (h : cutH H z a = some o) : a ≠ z ∧ H a = some o := by
  unfold cutH at h
  split at h
  · cases h
  · exact ⟨by assumption, h⟩
theorem cutH_upd (h : H z = none) : cutH (upd H z o) z = H := by
  funext a
  unfold cutH upd
  by_cases e : a = z
  · simp [e, h]
  · simp [e]
theorem cutH_upd2 : cutH (upd H z o) z = cutH H z := by
  funext a
  unfold cutH upd
  by_cases e : a = z
  · simp [e]
  · simp [e]
/-- the config at the heap with the hidden list, from the one without -/
theorem Cf.hide (c : Cf K Z m S (cutH H z) σd σ) (hz : H z = some o) (hm : z ∉ m) : Cf K (z :: Z) m S H σd σ := by
  have st : ∀ {d : D} {v : V}, RelD K Z m S (cutH H z) d v → RelD K (z :: Z) m S H d v := fun r =>
    RelD.mono (H' := H) ⟨⟨[], by simp⟩, fun a o e n => ⟨(cutH_some e).2, n⟩⟩ (RelD.hide cutH_same r)
  have sts : ∀ {d : O} {v : HO}, RelO K Z m S (cutH H z) d v → RelO K (z :: Z) m S H d v := fun r =>
    RelO.mono (H' := H) ⟨⟨[], by simp⟩, fun a o e n => ⟨(cutH_some e).2, n⟩⟩ (RelO.hide cutH_same r)
  refine ⟨⟨c.s.len, c.s.nd, fun a ha => ?_, fun y hy => ?_, fun i a xs h1 h2 hl => ?_⟩, c.len, fun i d e => ?_⟩
  · obtain ⟨u, e⟩ := c.s.has a ha
    exact ⟨u, (cutH_some e).2⟩
  · rcases List.mem_cons.mp hy with e | hy
    · subst e; exact ⟨⟨o, hz⟩, hm⟩
    · obtain ⟨⟨u, e⟩, n⟩ := c.s.hid y hy
      exact ⟨⟨u, (cutH_some e).2⟩, n⟩
  · obtain ⟨vs, h3, r⟩ := c.s.cel i a xs h1 h2 hl
    exact ⟨vs, (cutH_some h3).2, sts r⟩
  · obtain ⟨v, h1, r⟩ := c.get i d e
    exact ⟨v, h1, st r⟩
theorem RelS.show (c : RelS K (z :: Z) m S H) (hz : z ∉ Z) : RelS K Z m S (cutH H z) := by
  have hm : z ∉ m := (c.hid z List.mem_cons_self).2
  refine ⟨c.len, c.nd, fun a ha => ?_, fun y hy => ?_, fun i a xs h1 h2 hl => ?_⟩
  · obtain ⟨u, e⟩ := c.has a ha
    exact ⟨u, by rw [cutH_ne (show a ≠ z from fun q => hm (q ▸ ha))]; exact e⟩
  · obtain ⟨⟨u, e⟩, n⟩ := c.hid y (List.mem_cons_of_mem _ hy)
    exact ⟨⟨u, by rw [cutH_ne (show y ≠ z from fun q => hz (q ▸ hy))]; exact e⟩, n⟩
  · obtain ⟨vs, h3, r⟩ := c.cel i a xs h1 h2 hl
    exact ⟨vs, by rw [cutH_ne (show a ≠ z from fun q => hm (q ▸ mem_of_get h1))]; exact h3, RelO.free (fun a o ne e => by rw [cutH_ne ne]; exact e) r⟩
/-- a step with the hidden list is a step without it -/
theorem Step.cut (st : Step m S H m1 S1 H1) : Step m S (cutH H z) m1 S1 (cutH H1 z) := ⟨st.pre, fun a o e n => by
  obtain ⟨ne, e⟩ := cutH_some e
  obtain ⟨h1, h2⟩ := st.keep a o e n
  exact ⟨by rw [cutH_ne ne]; exact h1, h2⟩⟩
theorem Step.uncut : Step m S (cutH H z) m S H := ⟨⟨[], by simp⟩, fun a o e n => ⟨(cutH_some e).2, n⟩⟩
end

/-! ### contexts -/
/-- no exception leaves -/
abbrev W0 : WX := fun _ _ _ _ => False
def spR (K : PySem.W.Frag) (g : List D → Sto → R D) : Sp := fun vs H Q E => ∃ Z m S ds, RelS K Z m S H ∧ RelDs K Z m S H ds vs ∧ WR E K Z (RelD K Z) m S H Q (g ds S)
def argsV : List (Str × Bool) → List V → Bool
  | [], [] => true
  | (_, false) :: ps, _ :: vs => argsV ps vs
  | (_, true) :: ps, .str x :: vs => decide (x.length ≤ 1000) && argsV ps vs
  | _, _ => false
/-- what the __init__ of an exception class keeps -/
def spInit (C : Addr) (ps : List (Str × Bool)) : Sp := fun vs H Q _ => ∃ (a : Addr) (us : List V), vs = .ref a :: us ∧ argsV ps us = true ∧ H a = some (exo a C none) ∧
  ∀ d, H d = none → d ≠ a → Q .non (upd (upd H d (exd d ((ps.map (·.1)).zip us).reverse)) a (exo a C (some d)))
/-- what the def of the kinds keeps, where an exception of the class named c is handled -/
def spKin (K : PySem.W.Frag) (p : Addr) (d : Option Addr) (ls : List Str) : Sp := fun vs H Q _ => vs = [.ref p] ∧ (∀ dd, d = some dd → ∃ fs, H dd = some (.xd fs)) ∧ ∀ l H', (∀ b o, H b = some o → H' b = some o) → H l = none → H' l = some (.lst (ls.map V.str)) → Q (.ref l) H'
/-- a def that is called while the exception at p (of class cls, dict d) is handled -/
def KinOk (P : Program) (w : World) (K : PySem.W.Frag) (mg : Str → Option Value) (base : Heap) (f : Addr) (fd : FuncData) (ps : List Str) (p : Addr) (cls : Value) (d : Option Addr) (sp : Sp) : Prop :=
  (∀ vs H Q E, sp vs H Q E → vs.length = ps.length) ∧
  ∀ (A : Around) (outer : List Env) (s : Shared) (H : Hp) (args : Args) (us : List Value) (vs : List V) (Q : VK) (E : XK) (oe : Obj), L2H.RoomH 1 A → L2H.Hot1 A (p, oe) → L2N.Zn cls d oe → L2H.PinOk outer H s (p, oe) → Env0 P w K mg base A outer s H → BindsTo s fd args (ps.zip us) → Vals vs us → sp vs H Q E →
    codeAny (model P w) A (.call (.ref f) args) (CR (L2N.CX P w) outer P w H s Q E) s
structure XRz (P : Program) (w : World) (K : PySem.W.Frag) (mg : Str → Option Value) (base : Heap) (x : Str) (ps : List (Str × Bool)) : Prop where
  oex : OexC K (He.ga K x)
  ini : ∃ (fI : Addr) (fd : FuncData) (qs : List Str), PySem.W.findIn K (.ref (He.ga K x)) "__init__" = some (some (.ref fI)) ∧ PySem.W.typeIn K (.ref fI) = some (.type "function") ∧
    FnOk P w K mg base (L2N.CX P w) 1 fI fd qs (spInit (He.ga K x) ps) ∧ Binds K fd qs []
structure XCl (K : PySem.W.Frag) (mg : Str → Option Value) (x : Str) : Prop where
  mgC : mg x = some (.ref (He.ga K x))
  xfC : XfC K (He.ga K x)
/-- a def by its global name -/
def FAt (K : PySem.W.Frag) (mg : Str → Option Value) (F : Fn) (a : Addr) : Prop := match F.own with
  | none => mg F.base = some (.ref a) ∧ PySem.W.keepIn K (.ref a) = true
  | some _ => True
abbrev FR (P : Program) (w : World) (K : PySem.W.Frag) (mg : Str → Option Value) (base : Heap) (T : Prg) (j : Nat) (a : Addr) (k : Nat) (x f : Str) : Prop := FnR P w K mg base (L2N.CX P w) j a (spR K (callN T k x f))
/-- isinstance of an instance of the class b, asked of the class c -/
structure IslOk (K : PySem.W.Frag) (mg : Str → Option Value) (b c : Str) (v : Bool) : Prop where
  cl : Cls K (He.ga K b)
  ha : PySem.W.findIn K (.ref (He.ga K b)) "__class__" = some (some (.builtin "object.__class__"))
  hn : PySem.W.specialIn K (.builtin "object.__class__") "__get__" = some (some (.builtin "getset_descriptor.__get__"))
  ht : PySem.W.takesIn K (.builtin "object.__class__") = some true
  hm : PySem.W.mroIn K (He.ga K b) (.type "object") = some true
  gc : mg c = some (.ref (He.ga K c))
  kt : PySem.W.kitOne K (.ref (He.ga K b)) (.ref (He.ga K c)) = some v
structure WldF (T : Prg) (k : Nat) (P : Program) (w : World) (K : PySem.W.Frag) (mg : Str → Option Value) (base : Heap) : Prop where
  blt : ∀ f : Blt, mg f.nm = none
  rng : mg "range" = none
  boo : mg "bool" = none
  con : ∀ x d, T.con.lookup x = some d → ∃ u v, mg x = some u ∧ RelV v u ∧ ∀ Z m S H, RelD K Z m S H d v
  fns : ∀ f F, T.fns.lookup f = some F → ∃ a, FAt K mg F a ∧ FR P w K mg base T k a k F.base f
  mks : ∀ f b i z, T.fns.lookup f = none → T.eks.lookup f = some (.mk b i z) → ∃ a, mg b = some (.ref (He.ga K b)) ∧ Mk K (He.ga K b) a ∧ ∀ j, k = j + 1 → FR P w K mg base T j a j i i
  mth : ∀ c m v f, T.mt.lookup (c, m, v) = some f → v ≠ "low" → v ≠ "prop" → Cls K (He.ga K c) ∧ ∃ a, Meth K (He.ga K c) m a ∧ FR P w K mg base T k a k f f
  low : ∀ c m f, T.mt.lookup (c, m, ("low" : Str)) = some f → ∃ a, Meth K (He.ga K c) m a ∧ ∀ j, k = j + 1 → FR P w K mg base T j a k f f
  prp : ∀ c m f, T.mt.lookup (c, m, ("prop" : Str)) = some f → Cls K (He.ga K c) ∧ ∃ p a, PropOf K (He.ga K c) m p a ∧ ∀ j, k = j + 1 → FR P w K mg base T j a k f f
  clo : ∀ c l, T.cls.lookup c = some l → Cls K (He.ga K c) ∧ ∀ f, f ∈ l → NoAttr K (He.ga K c) f
  kcs : ∀ c f d, T.kcs.lookup (c, f) = some d → ∃ v u mc, mg c = some (.ref (He.ga K c)) ∧ ClX.CRead K (He.ga K c) mc ∧ ClX.CVal K (He.ga K c) mc f v u ∧ ∀ Z m S H, RelD K Z m S H d v
  isl : ∀ b c v, T.isl.lookup (b, c) = some v → IslOk K mg b c v
  cls : ∀ x o, T.exc.lookup x = some o → XCl K mg x
  raz : ∀ x ps, T.exc.lookup x = some (some ps) → XRz P w K mg base x ps ∧ ∀ f, f ∈ ps.map (·.1) → PySem.W.findIn K (.ref (He.ga K x)) f = some none
  ra0 : ∀ x, T.exc.lookup x = some none → (He.Fa.exc x).ok K = true
  sub : ∀ x y o q, T.exc.lookup x = some o → T.exc.lookup y = some q → PySem.W.exmOne K (.ref (He.ga K x)) (.ref (He.ga K y)) = some (decide ((x, y) ∈ T.sub))
  kin : ∀ x o, T.exc.lookup x = some o → ∃ a fd qs, mg T.kin.1 = some (.ref a) ∧ PySem.W.keepIn K (.ref a) = true ∧ Binds K fd qs [] ∧
    ∀ (p : Addr) (d : Option Addr), KinOk P w K mg base a fd qs p (.ref (He.ga K x)) d (spKin K p d (T.kin.2.filter fun y => decide ((x, y) ∈ T.sub)))
structure XOk (T : Prg) (k : Nat) (N : List Str) (sc ws : Scope) (X : Cx) (W : WX) : Prop where
  wld : WldF T k X.prog X.w X.K X.mg X.base
  room : Room k X.A
  po : PassesOwn (model X.prog X.w) X.A X.env X.xe
  tk : L2N.Takes X W
  calm : X.calm = true
  nN : X.N = N
  nd : N.Nodup
  sc : X.env.scope = sc
  fn : ∀ x, ws.names.lookup x = some .cell → X.fn x = true
/-- a def's own context, not a comprehension's -/
structure XSt (X : Cx) : Prop where
  stk : X.stack = X.env :: X.outer
  frm : X.env.frame = some X.env.locals
noncomputable abbrev ctxOf (T : Prg) (k : Nat) : Ctx := T.ctx k (callN T k)
theorem ctx_con {T : Prg} {k : Nat} {x : Str} : (ctxOf T k).con x = T.con.lookup x := (rfl)
theorem ctx_has {T : Prg} {k : Nat} {x f : Str} : (ctxOf T k).ok x f = T.has x f := (rfl)
theorem ctx_call {T : Prg} {k : Nat} : (ctxOf T k).call = callN T k := (rfl)
theorem ctx_exc {T : Prg} {k : Nat} {x : Str} : (ctxOf T k).exc x = T.exc.lookup x := (rfl)
theorem ctx_sub {T : Prg} {k : Nat} {x y : Str} : (ctxOf T k).sub x y = decide ((x, y) ∈ T.sub) := (rfl)
theorem ctx_lev {T : Prg} {k : Nat} : (ctxOf T k).lev = k := (rfl)
theorem ctx_fk {T : Prg} {k : Nat} : (ctxOf T k).fk = T.fk := (rfl)
theorem ctx_mth {T : Prg} {k : Nat} {c m v : Str} : (ctxOf T k).mth c m v = T.mt.lookup (c, m, v) := (rfl)
theorem ctx_kc {T : Prg} {k : Nat} {c f : Str} : (ctxOf T k).kc c f = T.kcs.lookup (c, f) := (rfl)
theorem ctx_isc {T : Prg} {k : Nat} {c f : Str} : (ctxOf T k).isc c f = T.isl.lookup (c, f) := (rfl)
theorem ctx_isg {T : Prg} {k : Nat} {c : Str} : (ctxOf T k).isg c = T.isl.any fun p => decide (p.1.2 = c) := (rfl)
theorem ctx_kin {T : Prg} {k : Nat} : (ctxOf T k).kin = T.kin := (rfl)

/-! ### small facts of the fit -/
theorem visB_of {sc : Scope} {x : Str} (h : visB sc x = true) : Vis sc x := by
  unfold visB at h
  unfold Vis
  split at h <;> simp_all
theorem glB_of {sc : Scope} {x : Str} (h : glB sc x = true) : sc.names.lookup x = some .globalImplicit ∧ (x == ("__debug__" : Str)) = false := by
  unfold glB at h
  rw [Bool.and_eq_true] at h
  obtain ⟨h1, h2⟩ := h
  refine ⟨?_, by simpa using h2⟩
  split at h1
  · assumption
  · cases h1
theorem noStar {N : List Str} {sc ws : Scope} : ∀ (ir : E) {e : Expr} {p : Pos}, fitE N sc ws ir (.Starred e p) = false
  | .frz a, _, _ => by simp only [fitE]; exact noStar a
  | .thw a, _, _ => by simp only [fitE, noStar a, Bool.and_false]
  | .trk a, _, _ => by simp only [fitE]; exact noStar a
  | .var _, _, _ | .glob _, _, _ | .ty _, _, _ | .cint _, _, _ | .cstr _, _, _ | .cbl _, _, _ | .cnon, _, _ | .bin _ _ _, _, _ | .neg _, _, _ | .not _, _, _ | .cmp _ _ _, _, _ | .chain _ _ _ _ _, _, _
  | .and1 _, _, _ | .and2 _ _, _, _ | .or1 _, _, _ | .or2 _ _, _, _ | .ife _ _ _, _, _ | .tup _, _, _ | .lst _, _, _ | .lstM _, _, _ | .ix _ _, _, _ | .sl _ _ _, _, _ | .nop, _, _ | .call _ _ _, _, _ | .blt _ _, _, _ | .bltM _ _, _, _ | .meth _ _ _, _, _ | .binM _ _, _, _ | .rev _, _, _ | .lc _ _ _ _, _, _ | .fld _ _, _, _ | .prop _ _, _, _ | .mc _ _ _ _, _, _ | .o1 .abs _, _, _ | .o1 .len _, _, _ | .o1 .neg _, _, _ | .o1 .inv _, _, _ | .o2 _ _ _, _, _ | .kc _ _, _, _ | .oe _ _, _, _ | .isc _ _, _, _ => by simp [fitE]
theorem noSet {N : List Str} {sc ws : Scope} : ∀ (ir : E) {e : List Expr} {k : Nat} {p : Pos}, fitE N sc ws ir (.Set e k p) = false
  | .frz a, _, _, _ => by simp only [fitE]; exact noSet a
  | .thw a, _, _, _ => by simp only [fitE, noSet a, Bool.and_false]
  | .trk a, _, _, _ => by simp only [fitE]; exact noSet a
  | .var _, _, _, _ | .glob _, _, _, _ | .ty _, _, _, _ | .cint _, _, _, _ | .cstr _, _, _, _ | .cbl _, _, _, _ | .cnon, _, _, _ | .bin _ _ _, _, _, _ | .neg _, _, _, _ | .not _, _, _, _ | .cmp _ _ _, _, _, _ | .chain _ _ _ _ _, _, _, _
  | .and1 _, _, _, _ | .and2 _ _, _, _, _ | .or1 _, _, _, _ | .or2 _ _, _, _, _ | .ife _ _ _, _, _, _ | .tup _, _, _, _ | .lst _, _, _, _ | .lstM _, _, _, _ | .ix _ _, _, _, _ | .sl _ _ _, _, _, _ | .nop, _, _, _ | .call _ _ _, _, _, _ | .blt _ _, _, _, _ | .bltM _ _, _, _, _ | .meth _ _ _, _, _, _ | .binM _ _, _, _, _ | .rev _, _, _, _ | .lc _ _ _ _, _, _, _ | .fld _ _, _, _, _ | .prop _ _, _, _, _ | .mc _ _ _ _, _, _, _ | .o1 .abs _, _, _, _ | .o1 .len _, _, _, _ | .o1 .neg _, _, _, _ | .o1 .inv _, _, _, _ | .o2 _ _ _, _, _, _ | .kc _ _, _, _, _ | .oe _ _, _, _, _ | .isc _ _, _, _, _ => by simp [fitE]
theorem star_of {N : List Str} {sc ws : Scope} {ir : E} {e : Expr} {es : List Expr} {env : Env} (h : fitE N sc ws ir e = true) : starEach (e :: es) env = (false, eval e env) :: starEach es env := by
  cases e <;> first | rfl | (rw [noStar] at h; cases h)
theorem stars_of {N : List Str} {sc ws : Scope} {env : Env} {pos : Pos} : ∀ {irs : Es} {es : List Expr}, fitEs N sc ws irs es = true → (backTo pos (starEach es env)).any (·.1) = false ∧ (backTo pos (starEach es env)).all (fun x => !x.1) = true
  | .nil, [], _ => ⟨rfl, rfl⟩
  | .nil, _ :: _, h => by simp [fitEs] at h
  | .cons _ _, [], h => by simp [fitEs] at h
  | .cons ir irs, e :: es, h => by
    simp only [fitEs, Bool.and_eq_true] at h
    obtain ⟨h1, h2⟩ := stars_of (env := env) (pos := pos) h.2
    rw [star_of h.1]
    show (false || (backTo pos (starEach es env)).any (·.1)) = false ∧ (true && (backTo pos (starEach es env)).all (fun x => !x.1)) = true
    rw [h1, h2]
    exact ⟨rfl, rfl⟩
theorem folded_of {N : List Str} {sc ws : Scope} {ir : E} {e : Expr} {env : Env} (h : fitE N sc ws ir e = true) : ∀ x, foldedSetIterable e env x = pure x := fun x => by
  cases e <;> first | rfl | (rw [noSet] at h; cases h)
theorem foldedI_of {N : List Str} {sc ws : Scope} {ir : It} {e : Expr} {env : Env} (h : fitIt N sc ws ir e = true) : ∀ x, foldedSetIterable e env x = pure x := fun x => by
  cases ir with
  | seq a => simp only [fitIt] at h; exact folded_of h x
  | rng1 a => cases e <;> first | rfl | (simp [fitIt] at h; done)
  | rng2 a b => cases e <;> first | rfl | (simp [fitIt] at h; done)
theorem swaps_of {e : Expr} {t : Option Expr} {l : Nat} {env : Env} (h : plainR e = true) : swapsWith e t l env = pure false := by
  cases e <;> first | rfl | (simp [plainR] at h; done)
end Ev

namespace Ev
open PySem L2
variable {EX : XK} {W : WX}
/-! ### targets -/
def RG (K : PySem.W.Frag) (tg : Tg) : TG := fun v σ H Q => ∃ Z m S σd d, Cf K Z m S H σd σ ∧ RelD K Z m S H d v ∧ ∃ σd', setTg tg d σd = some σd' ∧ ∀ σ', Cf K Z m S H σd' σ' → Q σ' H
theorem PG.mono {X : Cx} {e : Expr} {t t' : TG} (h : PG X e t) (k : ∀ v σ H Q, t' v σ H Q → t v σ H Q) : PG X e t' := ⟨fun pins s σ H v u Q I r q => h.run pins s σ H v u Q I r (k v σ H Q q)⟩
theorem Cf.set {K : PySem.W.Frag} {Z m : List Addr} {S : Sto} {H : Hp} {σd : Sg} {σ : St} {i : Nat} {d : D} {v : V} (c : Cf K Z m S H σd σ) (r : RelD K Z m S H d v) : Cf K Z m S H (σd.set i (some d)) (σ.set i (some v)) := by
  refine ⟨c.s, by simp [c.len], fun j e h => ?_⟩
  by_cases hj : i = j
  · subst hj
    have hi : i < σd.length := by
      have := (List.getElem?_eq_some_iff.mp h).1
      simpa using this
    rw [List.getElem?_set_self hi] at h
    cases h
    exact ⟨v, by rw [List.getElem?_set_self (by rw [← c.len]; exact hi)], r⟩
  · rw [List.getElem?_set_ne hj] at h
    obtain ⟨u, h1, h2⟩ := c.get j e h
    exact ⟨u, by rw [List.getElem?_set_ne hj]; exact h1, h2⟩
def gNs : List Nat → TGs
  | [] => gNil
  | i :: is => gCons (gName i) (gNs is)
theorem gNs_ok {K : PySem.W.Frag} {Z m : List Addr} {S : Sto} {H : Hp} {Q : St → Hp → Prop} : ∀ {is : List Nat} {ds : List D} {vs : List V} {σd σd' : Sg} {σ : St}, Cf K Z m S H σd σ → RelDs K Z m S H ds vs → setAll is ds σd = some σd' → (∀ σ', Cf K Z m S H σd' σ' → Q σ' H) → gNs is vs σ H Q
  | [], _, _, _, _, _, c, .nil, e, q => by
    simp only [setAll, Option.some.injEq] at e
    subst e
    exact ⟨rfl, q _ c⟩
  | _ :: _, _, _, _, _, _, _, .nil, e, _ => by simp [setAll] at e
  | [], _, _, _, _, _, _, .cons _ _, e, _ => by simp [setAll] at e
  | i :: is, _, _, _, _, _, c, .cons h t, e, q => by
    simp only [setAll] at e
    exact ⟨_, _, rfl, gNs_ok (c.set h) t e q⟩
section
variable {T : Prg} {k : Nat} {N : List Str} {sc ws : Scope} {X : Cx}
theorem stB_of (x : XOk T k N sc ws X W) {y : Str} (h : stB sc ws y = true) : Loc X.env.scope y ∧ (X.fn y = true ∨ X.env.scope.names.lookup y = some .local) := by
  rw [x.sc]
  unfold stB at h
  split at h
  · rename_i e
    exact ⟨.inl e, .inr e⟩
  · rename_i e
    split at h
    · rename_i e2
      exact ⟨.inr e, .inl (x.fn y e2)⟩
    · cases h
  · cases h
theorem pgs_ns (x : XOk T k N sc ws X W) : ∀ {is : List Nat} {es : List Expr}, fitNs N sc ws is es = true → PGs X es (gNs is) ∧ (assignEach es X.env).length = is.length ∧ (assignEach es X.env).findIdx? (·.1) = none
  | [], [], _ => ⟨pgs_nil, rfl, rfl⟩
  | [], _ :: _, h => by simp [fitNs] at h
  | _ :: _, [], h => by simp [fitNs] at h
  | i :: is, e :: es, h => by
    cases e <;> simp only [fitNs, Bool.false_eq_true, Bool.and_eq_true, decide_eq_true_eq] at h
    obtain ⟨⟨h1, h2⟩, h3⟩ := h
    obtain ⟨r1, r2, r3⟩ := pgs_ns x h3
    obtain ⟨l1, l2⟩ := stB_of x h2
    refine ⟨pgs_cons (pg_name (by rw [x.nN]; exact x.nd) (by rw [x.nN]; exact h1) l1 l2) r1 rfl, ?_, ?_⟩
    · show (assignEach es X.env).length + 1 = is.length + 1
      rw [r2]
    · show List.findIdx? (·.1) ((false, _) :: assignEach es X.env) = none
      rw [List.findIdx?_cons]
      simp [r3]
theorem pg_tg (x : XOk T k N sc ws X W) {tg : Tg} {e : Expr} (h : fitTg N sc ws tg e = true) : PG X e (RG X.K tg) := by
  cases tg with
  | nm i =>
    cases e <;> simp only [fitTg, Bool.false_eq_true, Bool.and_eq_true, decide_eq_true_eq] at h
    obtain ⟨l1, l2⟩ := stB_of x h.2
    refine PG.mono (pg_name (by rw [x.nN]; exact x.nd) (by rw [x.nN]; exact h.1) l1 l2) fun v σ H Q ⟨Z, m, S, σd, d, c, r, σd', e, q⟩ => ?_
    simp only [setTg, Option.some.injEq] at e
    subst e
    exact q _ (c.set r)
  | tp is =>
    cases e <;> simp only [fitTg, Bool.false_eq_true] at h
    obtain ⟨r1, r2, r3⟩ := pgs_ns x h
    refine PG.mono (pg_tup x.calm r1 r2 r3) fun v σ H Q ⟨Z, m, S, σd, d, c, r, σd', e, q⟩ => ?_
    cases d <;> simp only [setTg, reduceCtorEq] at e
    obtain ⟨p, vs, rfl, h1, r4⟩ := r.tupOf
    refine ⟨p, vs, rfl, h1, ?_, gNs_ok c r4 e q⟩
    rw [← r4.length]
    exact len_of e
where len_of : ∀ {is : List Nat} {ds : List D} {σ σ' : Sg}, setAll is ds σ = some σ' → ds.length = is.length
    | [], [], _, _, _ => rfl
    | _ :: _, [], _, _, e => by simp [setAll] at e
    | [], _ :: _, _, _, e => by simp [setAll] at e
    | _ :: is, _ :: ds, _, _, e => by
      simp only [setAll] at e
      simp [len_of e]
/-! ### walks -/
structure JW (K : PySem.W.Frag) (d : D) (v : V) (J : L2.It) : Prop where
  go : ∀ Z m S H xs (i : Nat) x, RelS K Z m S H → RelD K Z m S H d v → items S d = some xs → xs[i]? = some x → J.go i H
  yld : ∀ Z m S H xs (i : Nat) x y H', RelS K Z m S H → RelD K Z m S H d v → items S d = some xs → xs[i]? = some x → J.yld i H y H' → H' = H ∧ RelD K Z m S H x y
  stop : ∀ Z m S H xs (i : Nat), RelS K Z m S H → RelD K Z m S H d v → items S d = some xs → xs[i]? = none → J.stop i H
theorem sqt_k {K : PySem.W.Frag} {H : Hp} {p : Addr} {vs : List V} (h : SqT K (fun _ => none) p vs) : SqT K H p vs := h.elim (fun z => by rcases z with z | ⟨o, z⟩ <;> cases z) .inr
theorem sql_k {K : PySem.W.Frag} {H : Hp} {p : Addr} {vs : List V} (h : SqL K (fun _ => none) p vs) : SqL K H p vs := h.elim (fun z => by rcases z with z | ⟨o, z⟩ <;> cases z) .inr
theorem jw_l {K : PySem.W.Frag} {d : D} {a : Addr} (h : ∀ Z m S H xs, RelS K Z m S H → RelD K Z m S H d (.ref a) → items S d = some xs → ∃ vs, SqL K H a vs ∧ RelDs K Z m S H xs vs) : JW K d (.ref a) (Itl K a) where
  go := fun Z m S H xs i x rs r e ex => by
    obtain ⟨vs, h1, h2⟩ := h Z m S H xs rs r e
    obtain ⟨v, h3, _⟩ := h2.get ex
    exact ⟨vs, v, h1, h3⟩
  yld := fun Z m S H xs i x y H' rs r e ex q => by
    obtain ⟨vs, h1, h2⟩ := h Z m S H xs rs r e
    obtain ⟨v, h3, h4⟩ := h2.get ex
    obtain ⟨q1, q2⟩ := q
    have q3 := q2 vs h1
    rw [h3] at q3
    cases q3
    exact ⟨q1, h4⟩
  stop := fun Z m S H xs i rs r e ex => by
    obtain ⟨vs, h1, h2⟩ := h Z m S H xs rs r e
    exact ⟨vs, h1, by rw [← h2.length]; exact List.getElem?_eq_none_iff.mp ex⟩
theorem jw_t {K : PySem.W.Frag} {d : D} {a : Addr} (h : ∀ Z m S H xs, RelS K Z m S H → RelD K Z m S H d (.ref a) → items S d = some xs → ∃ vs, SqT K H a vs ∧ RelDs K Z m S H xs vs) : JW K d (.ref a) (Itt K a) where
  go := fun Z m S H xs i x rs r e ex => by
    obtain ⟨vs, h1, h2⟩ := h Z m S H xs rs r e
    obtain ⟨v, h3, _⟩ := h2.get ex
    exact ⟨vs, v, h1, h3⟩
  yld := fun Z m S H xs i x y H' rs r e ex q => by
    obtain ⟨vs, h1, h2⟩ := h Z m S H xs rs r e
    obtain ⟨v, h3, h4⟩ := h2.get ex
    obtain ⟨q1, q2⟩ := q
    have q3 := q2 vs h1
    rw [h3] at q3
    cases q3
    exact ⟨q1, h4⟩
  stop := fun Z m S H xs i rs r e ex => by
    obtain ⟨vs, h1, h2⟩ := h Z m S H xs rs r e
    exact ⟨vs, h1, by rw [← h2.length]; exact List.getElem?_eq_none_iff.mp ex⟩
def iSeq (K : PySem.W.Frag) (te : TE) : TI := fun σ H R => te σ H fun x H1 => (∃ a, x = .ref a ∧ (∃ xs, SqL K H1 a xs) ∧ R (Itl K a) H1) ∨ (∃ a, x = .ref a ∧ (∃ xs, SqT K H1 a xs) ∧ R (Itt K a) H1) ∨ ∃ z, x = .str z ∧ R (Its z) H1
theorem pi_seq {tg e : Expr} {te : TE} (he : PE X e te) : PI X tg e (iSeq X.K te) := by
  refine ⟨fun pins s σ H R I h => ?_⟩
  refine thn (he.run pins s σ H _ I h) fun v s1 ⟨x, H1, I1, r1, q1⟩ => ?_
  rcases q1 with ⟨a, e, ⟨xs, hq⟩, q⟩ | ⟨a, e, ⟨xs, hq⟩, q⟩ | ⟨z, e, q⟩
  · subst e
    cases r1
    obtain ⟨its, rv, p, hz⟩ := I1.list hq
    refine wpAny_pyIter_list p.isList ?_
    refine ⟨s1.heap.objs.size, [s1.heap.objs.size], _, _, H1, rfl, I1.kept (t' := s1.toks) fun b o e => Heap.get?_push_of_some _ e, turn_list a _, ⟨_, Heap.get?_push_size _ rfl, rfl, rfl⟩, fun b hb => ?_, q⟩
    have e : b = s1.heap.objs.size := by simpa using hb
    subst e
    exact I1.fpOk (Nat.le_refl _) (I1.hok.fresh (Nat.le_refl _))
  · subst e
    cases r1
    obtain ⟨its, rv, p, hz⟩ := I1.tuple hq
    refine wpAny_pyIter_tuple (show s1.heap.IsTuple a its.toArray from p) ?_
    refine ⟨s1.heap.objs.size, [s1.heap.objs.size], _, _, H1, rfl, I1.kept (t' := s1.toks) fun b o e => Heap.get?_push_of_some _ e, turn_tuple a _, ⟨_, Heap.get?_push_size _ rfl, rfl, rfl⟩, fun b hb => ?_, q⟩
    have e : b = s1.heap.objs.size := by simpa using hb
    subst e
    exact I1.fpOk (Nat.le_refl _) (I1.hok.fresh (Nat.le_refl _))
  · subst e
    obtain ⟨t, rfl⟩ := r1
    cases ha : z.cps.all (· < 128)
    · exact wpAny_pyIter_wide ha (pi_one (tk := s1.toks) I1 _ (turn_str _ z t "str_iterator" (.inr rfl)) ⟨_, Heap.get?_push_size _ rfl, rfl, rfl⟩ q)
    · exact wpAny_pyIter_ascii ha (pi_one (tk := s1.toks) I1 _ (turn_str _ z t "str_ascii_iterator" (.inl rfl)) ⟨_, Heap.get?_push_size _ rfl, rfl, rfl⟩ q)
/-- the iterator of a datum that has items -/
theorem jw_of {K : PySem.W.Frag} {Z m : List Addr} {S : Sto} {H : Hp} {d : D} {v : V} {xs : List D} (rs : RelS K Z m S H) (r : RelD K Z m S H d v) (e : items S d = some xs) {R : L2.It → Hp → Prop} (h : ∀ J, JW K d v J → R J H) :
    (∃ a, v = .ref a ∧ (∃ xs, SqL K H a xs) ∧ R (Itl K a) H) ∨ (∃ a, v = .ref a ∧ (∃ xs, SqT K H a xs) ∧ R (Itt K a) H) ∨ ∃ z, v = .str z ∧ R (Its z) H := by
  cases d <;> simp only [items, reduceCtorEq] at e
  case vw => cases r
  case str z =>
    cases r
    refine .inr (.inr ⟨z, rfl, h _ ⟨fun Z m S H xs i x _ _ e ex => ?_, fun Z m S H xs i x y H' _ _ e ex q => ?_, fun Z m S H xs i _ _ e ex => ?_⟩⟩)
    · simp only [items, Option.some.injEq] at e
      subst e
      have := (List.getElem?_eq_some_iff.mp ex).1
      simp at this
      exact this
    · simp only [items, Option.some.injEq] at e
      subst e
      obtain ⟨q1, c, q2, q3⟩ := q
      subst q3
      rw [List.getElem?_map] at ex
      have : z.cps.toList[i]? = some c := by simpa using q2
      rw [this] at ex
      cases ex
      exact ⟨q1, .str _⟩
    · simp only [items, Option.some.injEq] at e
      subst e
      have := List.getElem?_eq_none_iff.mp ex
      simp at this
      exact this
  case tup ys =>
    obtain ⟨p, vs, rfl, h1, r1⟩ := r.tupOf
    refine .inr (.inl ⟨p, rfl, ⟨vs, h1⟩, h _ (jw_t fun Z m S H xs rs r e => ?_)⟩)
    simp only [items, Option.some.injEq] at e
    subst e
    obtain ⟨p2, vs2, e2, h2, r2⟩ := r.tupOf
    cases e2
    exact ⟨vs2, h2, r2⟩
  case lv ys =>
    cases r with
    | lv h0 n z r1 =>
      refine .inl ⟨_, rfl, ⟨_, SqL.of h0⟩, h _ (jw_l fun Z m S H xs rs r e => ?_)⟩
      simp only [items, Option.some.injEq] at e
      subst e
      cases r with
      | lv h1 n1 z1 r2 => exact ⟨_, SqL.of h1, r2⟩
  case fl ys =>
    have k : ∀ p, v = .ref p → JW K (.fl ys) (.ref p) (Itl K p) := fun p _ => jw_l fun Z m S H xs rs r e => by
      simp only [items, Option.some.injEq] at e
      subst e
      cases r with
      | fl h1 n1 z1 r2 => exact ⟨_, .inl h1, r2⟩
      | flK h1 r2 => exact ⟨_, sql_k h1, r2⟩
    cases r with
    | fl h0 n z r1 => exact .inl ⟨_, rfl, ⟨_, .inl h0⟩, h _ (k _ rfl)⟩
    | flK h0 r1 => exact .inl ⟨_, rfl, ⟨_, sql_k h0⟩, h _ (k _ rfl)⟩
  case ref n =>
    cases r with
    | ref hm =>
      split at e
      · rename_i zs hz
        obtain ⟨vs, h1, h2⟩ := rs.obj n _ _ hm hz
        refine .inl ⟨_, rfl, ⟨_, SqL.of h1⟩, h _ (jw_l fun Z m S H xs rs r e => ?_)⟩
        simp only [items] at e
        split at e
        · rename_i ys hy
          cases e
          cases r with
          | ref hm2 =>
            obtain ⟨vs2, h3, h4⟩ := rs.obj n _ _ hm2 hy
            exact ⟨vs2, SqL.of h3, h4⟩
        · cases e
      · cases e
end
end Ev

namespace Ev
open PySem L2
variable {EX : XK} {W : WX}
/-! ### comprehensions -/
theorem wipeD_length (σ : Sg) : ∀ vs : List Nat, (wipeD σ vs).length = σ.length
  | [] => rfl
  | v :: vs => by unfold wipeD; rw [List.length_set, wipeD_length σ vs]
theorem wipeD_some {σ : Sg} {i : Nat} {x : D} : ∀ {vs : List Nat}, (wipeD σ vs)[i]? = some (some x) → σ[i]? = some (some x) ∧ i ∉ vs
  | [], h => ⟨h, by simp⟩
  | v :: vs, h => by
    unfold wipeD at h
    by_cases hi : v = i
    · subst hi
      by_cases hv : v < (wipeD σ vs).length
      · rw [List.getElem?_set_self hv] at h; cases h
      · rw [List.getElem?_eq_none (by simpa using hv)] at h; cases h
    · rw [List.getElem?_set_ne hi] at h
      obtain ⟨h1, h2⟩ := wipeD_some h
      exact ⟨h1, by simp only [List.mem_cons, not_or]; exact ⟨fun e => hi e.symm, h2⟩⟩
theorem Cf.wipe {K : PySem.W.Frag} {Z m : List Addr} {S : Sto} {H : Hp} {σd : Sg} {σ : St} (c : Cf K Z m S H σd σ) (vs : List Nat) : Cf K Z m S H (wipeD σd vs) (L2.wipe σ vs) := by
  refine ⟨c.s, by rw [wipeD_length, wipe_length, c.len], fun i d e => ?_⟩
  obtain ⟨h1, h2⟩ := wipeD_some e
  obtain ⟨v, h3, r⟩ := c.get i d h1
  exact ⟨v, by rw [wipe_out h2]; exact h3, r⟩
theorem wipe_set {σ : St} {i : Nat} {x : Option V} : ∀ {vs : List Nat}, i ∈ vs → wipe (σ.set i x) vs = wipe σ vs
  | v :: vs, h => by
    unfold wipe
    by_cases hv : i ∈ vs
    · rw [wipe_set hv]
    · have e : i = v := by
        rcases List.mem_cons.mp h with e | e
        · exact e
        · exact absurd e hv
      subst e
      apply List.ext_getElem?
      intro j
      by_cases hj : i = j
      · subst hj
        by_cases hl : i < σ.length
        · rw [List.getElem?_set_self (by rw [wipe_length, List.length_set]; exact hl), List.getElem?_set_self (by rw [wipe_length]; exact hl)]
        · rw [List.getElem?_eq_none (by rw [List.length_set, wipe_length, List.length_set]; omega), List.getElem?_eq_none (by rw [List.length_set, wipe_length]; omega)]
      · rw [List.getElem?_set_ne hj, List.getElem?_set_ne hj]
        by_cases hjv : j ∈ vs
        · have : ∀ (τ : St), (wipe τ vs)[j]? = if j < τ.length then some none else none := fun τ => wipe_in hjv
          rw [this, this, List.length_set]
        · rw [wipe_out hjv, wipe_out hjv, List.getElem?_set_ne hj]
where wipe_in {τ : St} {j : Nat} : ∀ {vs : List Nat}, j ∈ vs → (wipe τ vs)[j]? = if j < τ.length then some none else none
    | v :: vs, h => by
      unfold wipe
      by_cases e : v = j
      · subst e
        by_cases hl : v < τ.length
        · rw [List.getElem?_set_self (by rw [wipe_length]; exact hl), if_pos hl]
        · rw [List.getElem?_eq_none (by rw [List.length_set, wipe_length]; omega), if_neg hl]
      · rw [List.getElem?_set_ne e]
        rcases List.mem_cons.mp h with q | q
        · exact absurd q.symm e
        · exact wipe_in q
theorem wipe_wipe {σ : St} {us : List Nat} : ∀ {vs : List Nat}, (∀ i, i ∈ vs → i ∈ us) → wipe (wipe σ vs) us = wipe σ us
  | [], _ => rfl
  | v :: vs, h => by
    show wipe ((wipe σ vs).set v none) us = _
    rw [wipe_set (h v List.mem_cons_self), wipe_wipe fun i hi => h i (List.mem_cons_of_mem _ hi)]
/-- a target's store that tells which slots it takes -/
def RGw (K : PySem.W.Frag) (tg : Tg) : TG := fun v σ H Q => ∃ Z m S σd d, Cf K Z m S H σd σ ∧ RelD K Z m S H d v ∧ ∃ σd', setTg tg d σd = some σd' ∧ ∀ σ', Cf K Z m S H σd' σ' → wipe σ' tg.slots = wipe σ tg.slots → Q σ' H
theorem gNs_okW {K : PySem.W.Frag} {Z m : List Addr} {S : Sto} {H : Hp} {us : List Nat} {Q : St → Hp → Prop} : ∀ {is : List Nat} {ds : List D} {vs : List V} {σd σd' : Sg} {σ : St}, (∀ i, i ∈ is → i ∈ us) → Cf K Z m S H σd σ → RelDs K Z m S H ds vs → setAll is ds σd = some σd' → (∀ σ', Cf K Z m S H σd' σ' → wipe σ' us = wipe σ us → Q σ' H) → gNs is vs σ H Q
  | [], _, _, _, _, _, _, c, .nil, e, q => by
    simp only [setAll, Option.some.injEq] at e
    subst e
    exact ⟨rfl, q _ c rfl⟩
  | _ :: _, _, _, _, _, _, _, _, .nil, e, _ => by simp [setAll] at e
  | [], _, _, _, _, _, _, _, .cons _ _, e, _ => by simp [setAll] at e
  | i :: is, _, _, _, _, _, hu, c, .cons h t, e, q => by
    simp only [setAll] at e
    exact ⟨_, _, rfl, gNs_okW (fun j hj => hu j (List.mem_cons_of_mem _ hj)) (c.set h) t e fun σ' c' w' => q σ' c' (by rw [w', wipe_set (hu i List.mem_cons_self)])⟩
section
variable {T : Prg} {k : Nat} {N : List Str} {sc ws : Scope} {X : Cx}
theorem pg_tgW (x : XOk T k N sc ws X W) {tg : Tg} {e : Expr} (h : fitTg N sc ws tg e = true) : PG X e (RGw X.K tg) := by
  cases tg with
  | nm i =>
    cases e <;> simp only [fitTg, Bool.false_eq_true, Bool.and_eq_true, decide_eq_true_eq] at h
    obtain ⟨l1, l2⟩ := stB_of x h.2
    refine PG.mono (pg_name (by rw [x.nN]; exact x.nd) (by rw [x.nN]; exact h.1) l1 l2) fun v σ H Q ⟨Z, m, S, σd, d, c, r, σd', e, q⟩ => ?_
    simp only [setTg, Option.some.injEq] at e
    subst e
    exact q _ (c.set r) (wipe_set (by simp [Tg.slots]))
  | tp is =>
    cases e <;> simp only [fitTg, Bool.false_eq_true] at h
    obtain ⟨r1, r2, r3⟩ := pgs_ns x h
    refine PG.mono (pg_tup x.calm r1 r2 r3) fun v σ H Q ⟨Z, m, S, σd, d, c, r, σd', e, q⟩ => ?_
    cases d <;> simp only [setTg, reduceCtorEq] at e
    obtain ⟨p, vs, rfl, h1, r4⟩ := r.tupOf
    refine ⟨p, vs, rfl, h1, ?_, gNs_okW (us := is) (fun _ h => h) c r4 e q⟩
    rw [← r4.length]
    exact pg_tg.len_of e
end
/-- a turn's test and item -/
theorem lc_turn {K : PySem.W.Frag} {Z m : List Addr} {S : Sto} {H : Hp} {Q : VK} {σd : Sg} {σ : St} {cond elt : Sg → Sto → R D} {tg : Tg} {x : D} {y : V} {L : Addr} {acc : List D} {accV : List V} {next : List D → Sto → R D} {Nx : Hp → Prop}
    (hL : H L = some (.lst accV)) (hz : L ∉ Z) (hm : L ∉ m) (c : Cf K Z m S (cutH H L) σd σ) (ra : RelDs K Z m S (cutH H L) acc accV) (rx : RelD K Z m S (cutH H L) x y)
    (w : WR EX K Z (RelD K Z) m S (cutH H L) Q (match setTg tg x (wipeD σd tg.slots) with
      | none => .stuck
      | some σ1 => ((cond σ1 S).nox.bind tr).bind fun c S1 => match c with
        | true => (elt σ1 S1).nox.bind fun y S2 => if acc.length < lim then next (acc ++ [y]) S2 else .stuck
        | false => next acc S1))
    (hN : ∀ m' S' H' acc' accV', H' L = some (.lst accV') → L ∉ m' → Cf K Z m' S' (cutH H' L) σd σ → RelDs K Z m' S' (cutH H' L) acc' accV' → Step m S (cutH H L) m' S' (cutH H' L) → WR EX K Z (RelD K Z) m' S' (cutH H' L) Q (next acc' S') → Nx H') :
    RGw K tg y (wipe σ tg.slots) H fun σ2 H2 => wipe σ2 tg.slots = wipe σ tg.slots ∧ RT W0 K cond σ2 H2 fun b H3 =>
      if b = true then RE W0 K elt σ2 H3 fun y H4 => ∃ acc, H4 L = some (.lst acc) ∧ acc.length < sizeLine ∧ Nx (upd H4 L (.lst (acc ++ [y]))) else Nx H3 := by
  have cz : Cf K (L :: Z) m S H (wipeD σd tg.slots) (wipe σ tg.slots) := (c.wipe tg.slots).hide hL hm
  have st0 : Step m S (cutH H L) m S H := Step.uncut
  have rxz : RelD K (L :: Z) m S H x y := (RelD.hide cutH_same rx).mono st0
  split at w
  · exact w.elim
  · rename_i σ1 e1
    refine ⟨L :: Z, m, S, _, x, cz, rxz, σ1, e1, fun σ' c' hw => ⟨by rw [hw, wipe_wipe fun _ h => h], ?_⟩⟩
    have nown : ∀ {m' S'}, RelS K (L :: Z) m' S' H → L ∉ m' := fun r => (r.hid L List.mem_cons_self).2
    -- the test
    refine ⟨L :: Z, m, S, σ1, c', ?_⟩
    obtain ⟨b0, S0, hb0⟩ : ∃ b0 S0, cond σ1 S = .ok b0 S0 := by
      cases hq : cond σ1 S with
      | ok b0 S0 => exact ⟨b0, S0, rfl⟩
      | ex _ _ _ => rw [hq] at w; exact w.elim
      | stuck => rw [hq] at w; exact w.elim
    rw [hb0, R.nox_ok] at w
    rw [hb0]
    generalize hb : (R.ok b0 S0).bind tr = rb at w
    cases rb with
    | ex _ _ _ => simp only [R.bind_ok, tr] at hb; split at hb <;> cases hb
    | stuck => exact w.elim
    | ok b S1 =>
      intro m1 H1 b' st1 rs1 eb
      have eb : b = b' := eb
      subst eb
      have nO : ¬ Own m S L := fun ⟨i, xs, q, _⟩ => hm (mem_of_get q)
      obtain ⟨hL1, nO1⟩ := st1.keep L _ hL nO
      have hm1 : L ∉ m1 := (rs1.hid L List.mem_cons_self).2
      have w1 := WR.step w (st1.cut (z := L))
      simp only [R.bind_ok] at w1
      have c1 : Cf K Z m1 S1 (cutH H1 L) σd σ := c.step st1.cut (rs1.show hz)
      have ra1 : RelDs K Z m1 S1 (cutH H1 L) acc accV := ra.mono st1.cut
      cases b with
      | false =>
        rw [if_neg Bool.false_ne_true]
        exact hN m1 S1 H1 acc accV hL1 hm1 c1 ra1 st1.cut w1
      | true =>
        rw [if_pos rfl]
        refine ⟨L :: Z, m1, S1, σ1, c'.step st1 rs1, ?_⟩
        simp only at w1
        generalize he : elt σ1 S1 = re at w1
        cases re with
        | ex _ _ _ => exact w1.elim
        | stuck => exact w1.elim
        | ok d S2 =>
          intro m2 H2 v2 st2 rs2 r2
          obtain ⟨hL2, nO2⟩ := st2.keep L _ hL1 nO1
          have hm2 : L ∉ m2 := (rs2.hid L List.mem_cons_self).2
          have w2 := WR.step w1 (st2.cut (z := L))
          simp only [R.nox_ok, R.bind_ok] at w2
          split at w2
          · rename_i hl
            refine ⟨accV, hL2, ?_, ?_⟩
            · rw [← ra.length]; exact lim_lt hl
            · have ec : cutH (upd H2 L (.lst (accV ++ [v2]))) L = cutH H2 L := cutH_upd2
              refine hN m2 S2 _ (acc ++ [d]) (accV ++ [v2]) upd_same hm2 ?_ ?_ ?_ ?_
              · rw [ec]; exact c1.step st2.cut (rs2.show hz)
              · rw [ec]; exact (ra1.mono st2.cut).app (.cons (RelD.free (fun a o ne e => by rw [cutH_ne ne]; exact e) r2) .nil)
              · rw [ec]; exact st1.cut.trans st2.cut
              · rw [ec]; exact w2
          · exact w2.elim
theorem R.bind_assoc {α β γ : Type} (r : R α) (f : α → Sto → R β) (g : β → Sto → R γ) : (r.bind f).bind g = r.bind fun a S => (f a S).bind g := by cases r <;> rfl
theorem R.bind_pure {α : Type} (r : R α) : (r.bind fun d S => .ok d S) = r := by cases r <;> rfl
/-- what is done with a comprehension's list at its end -/
def GEnd (g : D → Sto → R D) : Prop := ∀ {EX : XK} {K : PySem.W.Frag} {Z m : List Addr} {S : Sto} {H : Hp} {Q : VK} {L : Addr} {acc : List D} {accV : List V}, RelS K Z m S H → RelS K Z m S (cutH H L) → H L = some (.lst accV) → L ∉ m → L ∉ Z →
  RelDs K Z m S (cutH H L) acc accV → WR EX K Z (RelD K Z) m S (cutH H L) Q (g (.lv acc) S) → Q (.ref L) H
theorem gend_ok : GEnd fun d S => .ok d S := fun {EX K Z m S H Q L acc accV} rs rs' hL hm hz ra w =>
  w m H (.ref L) Step.uncut rs (.lv hL (fun ⟨_, _, q, _⟩ => hm (mem_of_get q)) hz (ra.mono Step.uncut))
theorem gend_thaw : GEnd thaw := fun {EX K Z m S H Q L acc accV} rs rs' hL hm hz ra w => by
  have e0 : cutH H L L = none := cutH_same
  have eH : upd (cutH H L) L (.lst accV) = H := by
    funext a
    by_cases h : a = L
    · rw [h, upd_same, hL]
    · rw [upd_ne h, cutH_ne h]
  have st : Step m S (cutH H L) (m ++ [L]) (S ++ [O.lst acc]) H := by
    have q := step_own (xs := acc) (vs := accV) rs' e0
    rw [eH] at q
    exact q
  have r2 : RelS K Z (m ++ [L]) (S ++ [O.lst acc]) H := by
    have q := rels_own rs' e0 ra
    rw [eH] at q
    exact q
  exact w _ _ (.ref L) st r2 (reld_own rs')
theorem turn_bind {o : Option Sg} {cond elt : Sg → Sto → R D} {acc : List D} {S : Sto} {next : List D → Sto → R D} {g : D → Sto → R D} : R.bind (match o with
      | none => .stuck
      | some σ1 => ((cond σ1 S).nox.bind tr).bind fun c S1 => match c with
        | true => (elt σ1 S1).nox.bind fun y S2 => if acc.length < lim then next (acc ++ [y]) S2 else .stuck
        | false => next acc S1) g = (match o with
      | none => .stuck
      | some σ1 => ((cond σ1 S).nox.bind tr).bind fun c S1 => match c with
        | true => (elt σ1 S1).nox.bind fun y S2 => if acc.length < lim then (next (acc ++ [y]) S2).bind g else .stuck
        | false => (next acc S1).bind g) := by
  cases o with
  | none => rfl
  | some σ1 =>
    simp only [R.bind_assoc]
    congr 1
    funext a S1
    congr 1
    funext c S2
    cases c with
    | false => rfl
    | true =>
      simp only [R.bind_assoc]
      congr 1
      funext y S3
      split <;> rfl
theorem lc_go {K : PySem.W.Frag} {d : D} {v : V} {J : L2.It} (jw : JW K d v J) {Q : VK} {σd : Sg} {σ : St} {cond elt : Sg → Sto → R D} {tg : Tg} {Z m : List Addr} {S : Sto} {H1 : Hp} {n : Nat}
    {g : D → Sto → R D} (hg : GEnd g) (c : Cf K Z m S H1 σd σ) (r : RelD K Z m S H1 d v) (w : WR EX K Z (RelD K Z) m S H1 Q ((lcGo d tg σd cond elt n 0 [] S).bind g)) :
    ∀ L, H1 L = none → ∃ W : Nat → Nat → Hp → Prop, (∃ m, W 0 m (upd H1 L (.lst []))) ∧ ∀ i m H, W i m H →
      (J.stop i H ∧ Q (.ref L) H) ∨ (J.go i H ∧ ∃ Nx : Hp → Prop, (∀ H', Nx H' → ∃ m', m' < m ∧ W (i + 1) m' H') ∧ ∀ x H', J.yld i H x H' → RGw K tg x (wipe σ tg.slots) H' fun σ2 H2 => wipe σ2 tg.slots = wipe σ tg.slots ∧ RT W0 K cond σ2 H2 fun b H3 =>
        if b = true then RE W0 K elt σ2 H3 fun y H4 => ∃ acc, H4 L = some (.lst acc) ∧ acc.length < sizeLine ∧ Nx (upd H4 L (.lst (acc ++ [y]))) else Nx H3) := by
  intro L hL
  have hz : L ∉ Z := hid_fresh c.s hL
  refine ⟨fun i n H => ∃ m S acc accV, H L = some (.lst accV) ∧ L ∉ m ∧ Cf K Z m S (cutH H L) σd σ ∧ RelD K Z m S (cutH H L) d v ∧ RelDs K Z m S (cutH H L) acc accV ∧ WR EX K Z (RelD K Z) m S (cutH H L) Q ((lcGo d tg σd cond elt n i acc S).bind g),
    ⟨n, m, S, [], [], upd_same, fun q => ?_, ?_, ?_, .nil, ?_⟩, ?_⟩
  · obtain ⟨o, e⟩ := c.s.has L q
    rw [hL] at e; cases e
  · rw [cutH_upd hL]; exact c
  · rw [cutH_upd hL]; exact r
  · rw [cutH_upd hL]; exact w
  · rintro i n H ⟨m, S, acc, accV, hLs, hm, c, r, ra, w⟩
    cases n with
    | zero => exact w.elim
    | succ n =>
      have st0 : Step m S (cutH H L) m S H := Step.uncut
      have cz : Cf K (L :: Z) m S H σd σ := c.hide hLs hm
      have rz : RelD K (L :: Z) m S H d v := (RelD.hide cutH_same r).mono st0
      unfold lcGo at w
      split at w
      · exact w.elim
      · rename_i xs ex
        split at w
        · rename_i e0
          refine .inl ⟨jw.stop _ m S H xs i cz.s rz ex e0, ?_⟩
          have nO : ¬ Own m S L := fun ⟨i, xs, q, _⟩ => hm (mem_of_get q)
          have rsZ : RelS K Z m S H := ⟨cz.s.len, cz.s.nd, cz.s.has, fun y hy => cz.s.hid y (List.mem_cons_of_mem _ hy), fun i a xs h1 h2 hl => by
            obtain ⟨vs, h3, r3⟩ := c.s.cel i a xs h1 h2 hl
            exact ⟨vs, (cutH_some h3).2, r3.mono st0⟩⟩
          exact hg rsZ c.s hLs hm hz ra w
        · rename_i x e0
          refine .inr ⟨jw.go _ m S H xs i x cz.s rz ex e0, fun H' => ∃ m S acc accV, H' L = some (.lst accV) ∧ L ∉ m ∧ Cf K Z m S (cutH H' L) σd σ ∧ RelD K Z m S (cutH H' L) d v ∧ RelDs K Z m S (cutH H' L) acc accV ∧ WR EX K Z (RelD K Z) m S (cutH H' L) Q ((lcGo d tg σd cond elt n (i + 1) acc S).bind g), fun H' q => ⟨n, Nat.lt_succ_self n, q⟩, fun y H' hy => ?_⟩
          obtain ⟨rfl, _⟩ := jw.yld _ m S H xs i x y H' cz.s rz ex e0 hy
          obtain ⟨_, ry⟩ := jw.yld _ m S H' xs i x y H' cz.s rz ex e0 hy
          have ryc : RelD K Z m S (cutH H' L) x y := RelD.free (fun a o ne e => by rw [cutH_ne ne]; exact e) ry
          have w := Eq.mp (congrArg (WR EX K Z (RelD K Z) m S (cutH H' L) Q) (turn_bind (o := setTg tg x (wipeD σd tg.slots)) (cond := cond) (elt := elt) (acc := acc) (S := S) (next := fun acc S => lcGo d tg σd cond elt n (i + 1) acc S) (g := g))) w
          exact lc_turn hLs hz hm c ra ryc w fun m' S' H' acc' accV' h1 h2 h3 h4 h5 h6 => ⟨m', S', acc', accV', h1, h2, h3, r.mono h5, h4, h6⟩
theorem lc_rg {K : PySem.W.Frag} {lo : Int} {Q : VK} {σd : Sg} {σ : St} {cond elt : Sg → Sto → R D} {tg : Tg} {Z m : List Addr} {S : Sto} {H1 : Hp} {n : Nat}
    {g : D → Sto → R D} (hg : GEnd g) (c : Cf K Z m S H1 σd σ) (w : WR EX K Z (RelD K Z) m S H1 Q ((lcRg tg σd cond elt lo n 0 [] S).bind g)) :
    ∀ L, H1 L = none → ∃ W : Nat → Nat → Hp → Prop, (∃ m, W 0 m (upd H1 L (.lst []))) ∧ ∀ i m H, W i m H →
      ((Itr lo n).stop i H ∧ Q (.ref L) H) ∨ ((Itr lo n).go i H ∧ ∃ Nx : Hp → Prop, (∀ H', Nx H' → ∃ m', m' < m ∧ W (i + 1) m' H') ∧ ∀ x H', (Itr lo n).yld i H x H' → RGw K tg x (wipe σ tg.slots) H' fun σ2 H2 => wipe σ2 tg.slots = wipe σ tg.slots ∧ RT W0 K cond σ2 H2 fun b H3 =>
        if b = true then RE W0 K elt σ2 H3 fun y H4 => ∃ acc, H4 L = some (.lst acc) ∧ acc.length < sizeLine ∧ Nx (upd H4 L (.lst (acc ++ [y]))) else Nx H3) := by
  intro L hL
  have hz : L ∉ Z := hid_fresh c.s hL
  refine ⟨fun i k H => i + k = n ∧ ∃ m S acc accV, H L = some (.lst accV) ∧ L ∉ m ∧ Cf K Z m S (cutH H L) σd σ ∧ RelDs K Z m S (cutH H L) acc accV ∧ WR EX K Z (RelD K Z) m S (cutH H L) Q ((lcRg tg σd cond elt lo k i acc S).bind g),
    ⟨n, by omega, m, S, [], [], upd_same, fun q => ?_, ?_, .nil, ?_⟩, ?_⟩
  · obtain ⟨o, e⟩ := c.s.has L q
    rw [hL] at e; cases e
  · rw [cutH_upd hL]; exact c
  · rw [cutH_upd hL]; exact w
  · rintro i k H ⟨hk, m, S, acc, accV, hLs, hm, c, ra, w⟩
    have st0 : Step m S (cutH H L) m S H := Step.uncut
    have cz : Cf K (L :: Z) m S H σd σ := c.hide hLs hm
    cases k with
    | zero =>
      refine .inl ⟨by show n ≤ i; omega, ?_⟩
      have nO : ¬ Own m S L := fun ⟨i, xs, q, _⟩ => hm (mem_of_get q)
      have rsZ : RelS K Z m S H := ⟨cz.s.len, cz.s.nd, cz.s.has, fun y hy => cz.s.hid y (List.mem_cons_of_mem _ hy), fun i a xs h1 h2 hl => by
        obtain ⟨vs, h3, r3⟩ := c.s.cel i a xs h1 h2 hl
        exact ⟨vs, (cutH_some h3).2, r3.mono st0⟩⟩
      exact hg rsZ c.s hLs hm hz ra w
    | succ k =>
      unfold lcRg at w
      refine .inr ⟨by show i < n; omega, fun H' => i + 1 + k = n ∧ ∃ m S acc accV, H' L = some (.lst accV) ∧ L ∉ m ∧ Cf K Z m S (cutH H' L) σd σ ∧ RelDs K Z m S (cutH H' L) acc accV ∧ WR EX K Z (RelD K Z) m S (cutH H' L) Q ((lcRg tg σd cond elt lo k (i + 1) acc S).bind g), fun H' q => ⟨k, Nat.lt_succ_self k, q⟩, fun y H' hy => ?_⟩
      obtain ⟨rfl, rfl⟩ := hy
      have w := Eq.mp (congrArg (WR EX K Z (RelD K Z) m S (cutH H' L) Q) (turn_bind (o := setTg tg (.int (lo + i)) (wipeD σd tg.slots)) (cond := cond) (elt := elt) (acc := acc) (S := S) (next := fun acc S => lcRg tg σd cond elt lo k (i + 1) acc S) (g := g))) w
      exact lc_turn hLs hz hm c ra (.int _) w fun m' S' H' acc' accV' h1 h2 h3 h4 h5 h6 => ⟨by omega, m', S', acc', accV', h1, h2, h3, h4, h6⟩
end Ev

namespace Ev
open PySem L2
variable {EX : XK} {W : WX}
section
variable {T : Prg} {k : Nat} {N : List Str} {sc ws : Scope} {X : Cx}
def SE (W : WX) (T : Prg) (k : Nat) (X : Cx) (ir : E) (e : Expr) : Prop :=
  PE X e (RE W X.K (evE (ctxOf T k) ir)) ∧ (ir.tst = true → PT X e (RT W X.K (evE (ctxOf T k) ir)) ∧ (ir.isBo = true → PW X e (RT W X.K (evE (ctxOf T k) ir))))
theorem se_mk {ir : E} {e : Expr} (h : PE X e (RE W X.K (evE (ctxOf T k) ir))) (he : ∀ whole, isTrue e X.env whole = (do let v ← whole; standAt e.pos; holding [v] (truthy v)) := by intro _; rfl) (hb : ir.isBo = false := by rfl) : SE W T k X ir e :=
  ⟨h, fun _ => ⟨pt_re h he, fun q => by rw [hb] at q; cases q⟩⟩
theorem gl_of (x : XOk T k N sc ws X W) {y : Str} (h : glB sc y = true) : Gl X y ∧ (y == ("__debug__" : Str)) = false := by
  obtain ⟨h1, h2⟩ := glB_of h
  exact ⟨by show X.env.scope.names.lookup y = _; rw [x.sc]; exact h1, h2⟩
theorem no_PE {e : Expr} {t : TE} (h : ∀ σ H Q, ¬ t σ H Q) : PE X e t := ⟨fun _ _ σ H Q _ q => (h σ H Q q).elim⟩
theorem no_RE {f : Sg → Sto → R D} (h : ∀ σ S, f σ S = .stuck) {K : PySem.W.Frag} : ∀ σ H Q, ¬ RE W K f σ H Q := fun σ H Q ⟨Z, m, S, σd, c, w⟩ => by rw [h] at w; exact w
theorem units (x : XOk T k N sc ws X W) : X.A.units + 65 < cLine := by
  have := x.room.un
  omega
theorem c_var (x : XOk T k N sc ws X W) {i : Nat} {y : Str} {p : Pos} (h : fitE N sc ws (.var i) (.Name y p) = true) : SE W T k X (.var i) (.Name y p) := by
  simp only [fitE, Bool.and_eq_true, decide_eq_true_eq, Bool.not_eq_true'] at h
  obtain ⟨⟨⟨h1, h2⟩, h3⟩, h4⟩ := h
  refine se_mk (PE.mono (pe_var (i := i) (by rw [x.nN]; exact h1) (by rw [x.sc]; exact visB_of h2) h3 h4) fun σ H Q ⟨Z, m, S, σd, c, w⟩ => ?_)
  unfold evE at w
  split at w
  · rename_i d e
    obtain ⟨v, e2, r⟩ := c.get i d e
    exact ⟨v, e2, WR.here w c.s r⟩
  · exact w.elim
theorem c_glob (x : XOk T k N sc ws X W) {z y : Str} {p : Pos} (h : fitE N sc ws (.glob z) (.Name y p) = true) : SE W T k X (.glob z) (.Name y p) := by
  simp only [fitE, Bool.and_eq_true, decide_eq_true_eq] at h
  obtain ⟨rfl, h2⟩ := h
  obtain ⟨g1, g2⟩ := gl_of x h2
  cases e : T.con.lookup y with
  | none => exact se_mk (no_PE (no_RE fun σ S => by simp [evE, ctx_con, e]))
  | some d =>
    obtain ⟨u, v, m1, r1, r2⟩ := x.wld.con y d e
    refine se_mk (PE.mono (pe_glob g1 m1 r1 g2) fun σ H Q ⟨Z, m, S, σd, c, w⟩ => ?_)
    simp only [evE, ctx_con, e, ofOpt_some] at w
    exact WR.here w c.s (r2 Z m S H)
theorem boot_bool' : bootBuiltins "bool" = some (.type "bool") := by decide +kernel
theorem boot_int' : bootBuiltins "int" = some (.type "int") := by decide +kernel
theorem boot_str' : bootBuiltins "str" = some (.type "str") := by decide +kernel
theorem boot_list' : bootBuiltins "list" = some (.type "list") := by decide +kernel
theorem boot_tuple' : bootBuiltins "tuple" = some (.type "tuple") := by decide +kernel
theorem c_ty (x : XOk T k N sc ws X W) {n : String} {y : Str} {p : Pos} (h : fitE N sc ws (.ty n) (.Name y p) = true) : SE W T k X (.ty n) (.Name y p) := by
  simp only [fitE, Bool.and_eq_true, tyOk, Bool.or_eq_true, beq_iff_eq] at h
  obtain ⟨h1, h2⟩ := h
  obtain ⟨g1, g2⟩ := gl_of x h2
  have key : X.mg y = none → bootBuiltins y = some (.type n) → y ≠ "__name__" → SE W T k X (.ty n) (.Name y p) := fun a b c => by
    refine se_mk (PE.mono (pe_bltn (v := .ty n) g1 a b rfl c g2) fun σ H Q ⟨Z, m, S, σd, c, w⟩ => ?_)
    simp only [evE] at w
    exact WR.here w c.s (.ty n)
  rcases h1 with (((⟨rfl, rfl⟩ | ⟨rfl, rfl⟩) | ⟨rfl, rfl⟩) | ⟨rfl, rfl⟩) | ⟨rfl, rfl⟩
  · exact key (x.wld.blt .int) boot_int' (by decide +kernel)
  · exact key x.wld.boo boot_bool' (by decide +kernel)
  · exact key (x.wld.blt .str) boot_str' (by decide +kernel)
  · exact key (x.wld.blt .list) boot_list' (by decide +kernel)
  · exact key (x.wld.blt .tuple) boot_tuple' (by decide +kernel)
theorem c_bin (x : XOk T k N sc ws X W) {op : BOp} {o : Operator} {a b : E} {ea eb : Expr} {p : Pos} (ho : op.is o = true) (ha : SE W T k X a ea) (hb : SE W T k X b eb) : SE W T k X (.bin op a b) (.BinOp ea o eb p) :=
  se_mk (PE.mono (pe_op (op_binD ho) ha.1 hb.1) fun σ H Q h => re_op (by simpa only [RE, evE] using h))
theorem c_binM (x : XOk T k N sc ws X W) {a b : E} {ea eb : Expr} {p : Pos} (ha : SE W T k X a ea) (hb : SE W T k X b eb) : SE W T k X (.binM a b) (.BinOp ea .Add eb p) :=
  se_mk (PE.mono (pe_op op_catM ha.1 hb.1) fun σ H Q h => re_op (by simpa only [RE, evE] using h))
theorem c_neg (x : XOk T k N sc ws X W) {a : E} {ea : Expr} {p : Pos} (ha : SE W T k X a ea) : SE W T k X (.neg a) (.UnaryOp .USub ea p) := by
  refine se_mk (PE.mono (pe_un un_neg ha.1) fun σ H Q ⟨Z, m, S, σd, c, w⟩ => ?_)
  simp only [evE] at w
  refine ⟨Z, m, S, σd, c, WR.bind w fun d S1 m1 H1 v st rs r w1 => ?_⟩
  split at w1
  · cases r
    exact ⟨_, rfl, WR.here w1 rs (.int _)⟩
  · exact w1.elim
theorem c_not (x : XOk T k N sc ws X W) {a : E} {ea : Expr} {p : Pos} (ha : SE W T k X a ea) : SE W T k X (.not a) (.UnaryOp .Not ea p) := by
  refine ⟨PE.mono (pe_not ha.1) fun σ H Q ⟨Z, m, S, σd, c, w⟩ => ?_, fun ht => ⟨PT.mono (pt_not (ha.2 ht).1) fun σ H Q ⟨Z, m, S, σd, c, w⟩ => ?_, fun q => by cases q⟩⟩
  · simp only [evE] at w
    refine ⟨Z, m, S, σd, c, WR.bind w fun d S1 m1 H1 v st rs r w1 => ?_⟩
    split at w1
    · cases r
      exact ⟨_, rfl, WR.here w1 rs (.bl _)⟩
    · exact w1.elim
  · simp only [evE] at w
    refine ⟨Z, m, S, σd, c, ?_⟩
    generalize evE (ctxOf T k) a σd S = ra at w ⊢
    cases ra with
    | ex _ _ _ => exact w
    | stuck => exact w.elim
    | ok d S1 =>
      cases d <;> simp only [R.bind_ok, R.bind_stuck] at w <;> try exact w.elim
      intro m1 H1 b st rs eb
      have eb : _ = b := eb
      subst eb
      exact w m1 H1 _ st rs rfl
theorem WR.bindE {α β γ δ : Type} {K : PySem.W.Frag} {Z m : List Addr} {S : Sto} {H : Hp} {rel : Rel α β} {rel' : Rel γ δ} {Q : δ → Hp → Prop} {Q1 : β → Hp → Prop} {x : R α} {f : α → Sto → R γ} (h : WR EX K Z rel' m S H Q (x.bind f))
    (k : ∀ a S1 m1 H1 b, x = .ok a S1 → Step m S H m1 S1 H1 → RelS K Z m1 S1 H1 → rel m1 S1 H1 a b → WR EX K Z rel' m1 S1 H1 Q (f a S1) → Q1 b H1) : WR EX K Z rel m S H Q1 x := by
  cases x with
  | ok a S1 => exact fun m1 H1 b st rs r => k a S1 m1 H1 b rfl st rs r (WR.step h st)
  | ex _ _ _ => exact h
  | stuck => exact h
theorem cmp_bl {op : COp} {a b d : D} {S S' : Sto} (e : cmpD op a b S = .ok d S') : ∃ c, d = .bl c ∧ S' = S := by
  unfold cmpD at e
  generalize cmpO op a b S = o at e
  cases o with
  | none => simp at e
  | some c =>
    simp only [ofOpt_some, R.bind_ok] at e
    cases e
    exact ⟨c, rfl, rfl⟩
theorem bind_ok_of {α β : Type} {x : R α} {f : α → Sto → R β} {b : β} {S : Sto} (e : x.bind f = .ok b S) : ∃ a S1, x = .ok a S1 ∧ f a S1 = .ok b S := by
  cases x with
  | ok a S1 => exact ⟨a, S1, rfl, e⟩
  | ex _ _ _ => cases e
  | stuck => cases e
/-- a run whose values are bools: as a test -/
theorem wr_test {K : PySem.W.Frag} {Z m : List Addr} {S : Sto} {H : Hp} {Q : Bool → Hp → Prop} {r : R D} (hb : ∀ d S', r = .ok d S' → ∃ c, d = .bl c) (w : WR EX K Z eqRel m S H Q (r.bind tr)) : WR EX K Z (RelD K Z) m S H (fun y H' => ∃ k, y = V.bl k ∧ Q k H') r := by
  refine WR.bindE w fun d S1 m1 H1 v e st rs r w1 => ?_
  obtain ⟨c, rfl⟩ := hb d S1 e
  cases r
  exact ⟨c, rfl, WR.here (b := c) w1 rs rfl⟩
theorem c_cmp (x : XOk T k N sc ws X W) {op : COp} {o : CmpOp} {a b : E} {ea eb : Expr} {p : Pos} (ho : op.is o = true) (hm : behindInMarks o eb = false) (ha : SE W T k X a ea) (hb : SE W T k X b eb) : SE W T k X (.cmp op a b) (.Compare ea [o] [eb] p) := by
  refine ⟨PE.mono (pe_cmpR (op_cmpD (units x) ho) ha.1 hb.1 hm) fun σ H Q h => re_op (by simpa only [RE, evE] using h), fun ht => ⟨PT.mono (pt_cmpR (op_cmpD (units x) ho) ha.1 hb.1 hm) fun σ H Q ⟨Z, m, S, σd, c, w⟩ => ?_, fun q => by cases q⟩⟩
  refine re_op (f := cmpD op) ⟨Z, m, S, σd, c, ?_⟩
  have w' := wr_test (fun d S' e => ?_) w
  · simpa only [evE] using w'
  · simp only [evE] at e
    obtain ⟨_, _, _, e⟩ := bind_ok_of e
    obtain ⟨_, _, _, e⟩ := bind_ok_of e
    obtain ⟨c, h, _⟩ := cmp_bl e
    exact ⟨c, h⟩
theorem re_chain {op op2 : COp} {a b c : E} {K : PySem.W.Frag} {σ : St} {H : Hp} {Q : VK} (h : RE W K (evE (ctxOf T k) (.chain op op2 a b c)) σ H Q) :
    tChain (rD K (cmpD op)) (rD K (cmpD op2)) (RE W K (evE (ctxOf T k) a)) (RE W K (evE (ctxOf T k) b)) (RE W K (evE (ctxOf T k) c)) σ H Q := by
  obtain ⟨Z, m, S, σd, cf, w⟩ := h
  simp only [evE] at w
  refine ⟨Z, m, S, σd, cf, WR.bind w fun x S1 m1 H1 vx st1 rs1 rx w1 => ?_⟩
  refine ⟨Z, m1, S1, σd, cf.step st1 rs1, WR.bind w1 fun y S2 m2 H2 vy st2 rs2 ry w2 => ?_⟩
  refine ⟨_, Z, m2, S2, x, y, rs2, rx.mono st2, ry, WR.bindE w2 fun d S3 m3 H3 v e st3 rs3 r w3 => ?_⟩
  obtain ⟨kb, rfl, rfl⟩ := cmp_bl e
  cases r
  refine ⟨kb, rfl, ?_⟩
  cases kb with
  | false =>
    rw [if_neg Bool.false_ne_true]
    exact WR.here w3 rs3 (.bl _)
  | true =>
    rw [if_pos rfl]
    refine ⟨Z, m3, _, σd, (cf.step st1 rs1).step (st2.trans st3) rs3, WR.bind w3 fun z S4 m4 H4 vz st4 rs4 rz w4 => ?_⟩
    exact ⟨_, Z, m4, S4, y, z, rs4, ry.mono (st3.trans st4), rz, w4⟩
theorem c_chain (x : XOk T k N sc ws X W) {op op2 : COp} {o o2 : CmpOp} {a b c : E} {ea eb ec : Expr} {p : Pos} (ho : op.is o = true) (ho2 : op2.is o2 = true) (hm : lastMarks [o, o2] [eb, ec] = false) (ha : SE W T k X a ea) (hb : SE W T k X b eb) (hc : SE W T k X c ec) :
    SE W T k X (.chain op op2 a b c) (.Compare ea [o, o2] [eb, ec] p) := by
  refine ⟨PE.mono (pe_chain (op_cmpD (units x) ho) (op_cmpD (units x) ho2) ha.1 hb.1 hc.1 hm) fun σ H Q h => re_chain h,
    fun ht => ⟨PT.mono (pt_chain (op_cmpD (units x) ho) (op_cmpD (units x) ho2) ha.1 hb.1 hc.1 hm) fun σ H Q ⟨Z, m, S, σd, c, w⟩ => re_chain ⟨Z, m, S, σd, c, wr_test (fun d S' e => ?_) w⟩, fun q => by cases q⟩⟩
  simp only [evE] at e
  obtain ⟨_, _, _, e⟩ := bind_ok_of e
  obtain ⟨_, _, _, e⟩ := bind_ok_of e
  obtain ⟨_, _, h1, e⟩ := bind_ok_of e
  obtain ⟨kb, rfl, rfl⟩ := cmp_bl h1
  cases kb with
  | false => cases e; exact ⟨_, rfl⟩
  | true =>
    simp only at e
    obtain ⟨_, _, _, e⟩ := bind_ok_of e
    obtain ⟨c, h, _⟩ := cmp_bl e
    exact ⟨c, h⟩
theorem c_and1 (x : XOk T k N sc ws X W) {a : E} {ea : Expr} {p : Pos} (ha : SE W T k X a ea) : SE W T k X (.and1 a) (.BoolOp .And [ea] p) := by
  refine ⟨PE.mono (pe_one ha.1) fun σ H Q h => by simpa only [RE, evE] using h, fun ht => ?_⟩
  have w : PW X (.BoolOp .And [ea] p) (RT W X.K (evE (ctxOf T k) (.and1 a))) := PW.mono (pw_and1 (ha.2 ht).1) fun σ H Q h => by simpa only [RT, evE] using h
  exact ⟨w.pt, fun _ => w⟩
theorem c_or1 (x : XOk T k N sc ws X W) {a : E} {ea : Expr} {p : Pos} (ha : SE W T k X a ea) : SE W T k X (.or1 a) (.BoolOp .Or [ea] p) := by
  refine ⟨PE.mono (pe_one ha.1) fun σ H Q h => by simpa only [RE, evE] using h, fun ht => ?_⟩
  have w : PW X (.BoolOp .Or [ea] p) (RT W X.K (evE (ctxOf T k) (.or1 a))) := PW.mono (pw_or1 (ha.2 ht).1) fun σ H Q h => by simpa only [RT, evE] using h
  exact ⟨w.pt, fun _ => w⟩
theorem c_and2 (x : XOk T k N sc ws X W) {a b : E} {ea eb : Expr} {r : List Expr} {p : Pos} (hbo : b.isBo = true) (ha : SE W T k X a ea) (hb : SE W T k X b (.BoolOp .And (eb :: r) p)) : SE W T k X (.and2 a b) (.BoolOp .And (ea :: eb :: r) p) := by
  refine ⟨PE.mono (pe_and ha.1 hb.1) fun σ H Q ⟨Z, m, S, σd, c, w⟩ => ?_, fun ht => ?_⟩
  · simp only [evE] at w
    refine ⟨Z, m, S, σd, c, WR.bind w fun d S1 m1 H1 v st rs r w1 => ?_⟩
    split at w1
    · cases r
      exact ⟨true, rfl, by rw [if_pos rfl]; exact ⟨Z, m1, S1, σd, c.step st rs, w1⟩⟩
    · cases r
      exact ⟨false, rfl, by rw [if_neg Bool.false_ne_true]; exact WR.here w1 rs (.bl _)⟩
    · exact w1.elim
  · simp only [E.tst, Bool.and_eq_true] at ht
    have w : PW X (.BoolOp .And (ea :: eb :: r) p) (RT W X.K (evE (ctxOf T k) (.and2 a b))) := PW.mono (pw_and (ha.2 ht.1).1 ((hb.2 ht.2).2 hbo)) fun σ H Q ⟨Z, m, S, σd, c, w⟩ => by
      refine ⟨Z, m, S, σd, c, ?_⟩
      simp only [evE] at w
      generalize evE (ctxOf T k) a σd S = ra at w ⊢
      cases ra with
      | ex _ _ _ => exact w
      | stuck => exact w.elim
      | ok d S1 =>
        cases d <;> simp only [R.bind_ok, R.bind_stuck] at w <;> try exact w.elim
        rename_i bb
        intro m1 H1 b' st rs eb'
        have eb' : bb = b' := eb'
        subst eb'
        cases bb with
        | true =>
          simp only [if_true] at w ⊢
          exact ⟨Z, m1, S1, σd, c.step st rs, WR.step w st⟩
        | false =>
          simp only [Bool.false_eq_true, if_false] at w ⊢
          exact w m1 H1 false st rs rfl
    exact ⟨w.pt, fun _ => w⟩
theorem c_or2 (x : XOk T k N sc ws X W) {a b : E} {ea eb : Expr} {r : List Expr} {p : Pos} (hbo : b.isBo = true) (ha : SE W T k X a ea) (hb : SE W T k X b (.BoolOp .Or (eb :: r) p)) : SE W T k X (.or2 a b) (.BoolOp .Or (ea :: eb :: r) p) := by
  refine ⟨PE.mono (pe_or ha.1 hb.1) fun σ H Q ⟨Z, m, S, σd, c, w⟩ => ?_, fun ht => ?_⟩
  · simp only [evE] at w
    refine ⟨Z, m, S, σd, c, WR.bind w fun d S1 m1 H1 v st rs r w1 => ?_⟩
    split at w1
    · cases r
      exact ⟨true, rfl, by rw [if_pos rfl]; exact WR.here w1 rs (.bl _)⟩
    · cases r
      exact ⟨false, rfl, by rw [if_neg Bool.false_ne_true]; exact ⟨Z, m1, S1, σd, c.step st rs, w1⟩⟩
    · exact w1.elim
  · simp only [E.tst, Bool.and_eq_true] at ht
    have w : PW X (.BoolOp .Or (ea :: eb :: r) p) (RT W X.K (evE (ctxOf T k) (.or2 a b))) := PW.mono (pw_or (ha.2 ht.1).1 ((hb.2 ht.2).2 hbo)) fun σ H Q ⟨Z, m, S, σd, c, w⟩ => by
      refine ⟨Z, m, S, σd, c, ?_⟩
      simp only [evE] at w
      generalize evE (ctxOf T k) a σd S = ra at w ⊢
      cases ra with
      | ex _ _ _ => exact w
      | stuck => exact w.elim
      | ok d S1 =>
        cases d <;> simp only [R.bind_ok, R.bind_stuck] at w <;> try exact w.elim
        rename_i bb
        intro m1 H1 b' st rs eb'
        have eb' : bb = b' := eb'
        subst eb'
        cases bb with
        | false =>
          simp only [Bool.false_eq_true, if_false] at w ⊢
          exact ⟨Z, m1, S1, σd, c.step st rs, WR.step w st⟩
        | true =>
          simp only [if_true] at w ⊢
          exact w m1 H1 true st rs rfl
    exact ⟨w.pt, fun _ => w⟩
theorem c_ife (x : XOk T k N sc ws X W) {t a b : E} {et ea eb : Expr} {p : Pos} (ht : PT X et (RT W X.K (evE (ctxOf T k) t))) (ha : SE W T k X a ea) (hb : SE W T k X b eb) : SE W T k X (.ife t a b) (.IfExp et ea eb p) := by
  refine ⟨PE.mono (pe_ifExp ht ha.1 hb.1) fun σ H Q ⟨Z, m, S, σd, c, w⟩ => ?_, fun q => by cases q⟩
  simp only [evE] at w
  refine ⟨Z, m, S, σd, c, WR.bind w fun d S1 m1 H1 v st rs r w1 => ?_⟩
  have r : d = v := r
  subst r
  cases d with
  | true => rw [if_pos rfl]; exact ⟨Z, m1, S1, σd, c.step st rs, w1⟩
  | false => rw [if_neg Bool.false_ne_true]; exact ⟨Z, m1, S1, σd, c.step st rs, w1⟩
/-! ### arguments -/
theorem pa_mono_cons {ir : E} {irs : Es} {e : Expr} {es : List Expr} (h : fitE N sc ws ir e = true) (he : PE X e (RE W X.K (evE (ctxOf T k) ir))) (hs : PA X es (RA W X.K (evEs (ctxOf T k) irs))) : PA X (e :: es) (RA W X.K (evEs (ctxOf T k) (.cons ir irs))) := by
  refine PA.mono (pa_cons he hs (star_of h)) fun σ H Q ⟨Z, m, S, σd, c, w⟩ => ?_
  simp only [evEs] at w
  refine ⟨Z, m, S, σd, c, WR.bind w fun d S1 m1 H1 v st rs r w1 => ?_⟩
  refine ⟨Z, m1, S1, σd, c.step st rs, WR.bind w1 fun ds S2 m2 H2 vs st2 rs2 r2 w2 => ?_⟩
  exact WR.here w2 rs2 (.cons (r.mono st2) r2)
theorem c_tup (x : XOk T k N sc ws X W) {es : Es} {ees : List Expr} {n : Nat} {p : Pos} (h : PA X ees (RA W X.K (evEs (ctxOf T k) es))) : SE W T k X (.tup es) (.Tuple ees n p) := by
  refine se_mk (PE.mono (pe_tup h) fun σ H Q ⟨Z, m, S, σd, c, w⟩ => ?_)
  simp only [evE] at w
  refine ⟨Z, m, S, σd, c, WR.bind w fun ds S1 m1 H1 vs st rs r w1 => ?_⟩
  split at w1
  · rename_i hl
    exact ⟨by rw [← r.length]; exact lim_le hl, fun l hl => WR.newT w1 rs r hl⟩
  · exact w1.elim
theorem c_lst (x : XOk T k N sc ws X W) {es : Es} {ees : List Expr} {p : Pos} (h : PA X ees (RA W X.K (evEs (ctxOf T k) es))) : SE W T k X (.lst es) (.List ees p) := by
  refine se_mk (PE.mono (pe_lst h) fun σ H Q ⟨Z, m, S, σd, c, w⟩ => ?_)
  simp only [evE] at w
  refine ⟨Z, m, S, σd, c, WR.bind w fun ds S1 m1 H1 vs st rs r w1 => ?_⟩
  split at w1
  · rename_i hl
    exact ⟨by rw [← r.length]; exact lim_le hl, fun l hl => WR.newL w1 rs r hl⟩
  · exact w1.elim
theorem c_lstM (x : XOk T k N sc ws X W) {es : Es} {ees : List Expr} {p : Pos} (h : PA X ees (RA W X.K (evEs (ctxOf T k) es))) : SE W T k X (.lstM es) (.List ees p) := by
  refine se_mk (PE.mono (pe_lst h) fun σ H Q ⟨Z, m, S, σd, c, w⟩ => ?_)
  simp only [evE] at w
  refine ⟨Z, m, S, σd, c, WR.bind w fun ds S1 m1 H1 vs st rs r w1 => ?_⟩
  split at w1
  · rename_i hl
    exact ⟨by rw [← r.length]; exact lim_le hl, fun l hl => WR.newO w1 rs r hl⟩
  · exact w1.elim
theorem c_ix (x : XOk T k N sc ws X W) {a b : E} {ea eb : Expr} {p : Pos} (hn : notSl eb = true) (ha : SE W T k X a ea) (hb : SE W T k X b eb) : SE W T k X (.ix a b) (.Subscript ea eb p) :=
  se_mk (PE.mono (pe_ix ix_D ha.1 hb.1 (fun o i => by cases eb <;> first | rfl | (simp [notSl] at hn; done))) fun σ H Q h => re_op (by simpa only [RE, evE] using h))
theorem po_E {ir : E} {l : Option Expr} (h : match l with | none => ir.isNop = true | some e => ir.isNop = false ∧ PE X e (RE W X.K (evE (ctxOf T k) ir))) : PO X l (RO W X.K fun σ => evPart ir.isNop (evE (ctxOf T k) ir σ)) := by
  cases l with
  | none =>
    refine PO.mono po_none fun σ H Q ⟨Z, m, S, σd, c, w⟩ => ?_
    have h : ir.isNop = true := h
    rw [h] at w
    exact WR.here (b := none) w c.s rfl
  | some e =>
    obtain ⟨h1, h2⟩ := h
    refine PO.mono (po_some h2) fun σ H Q ⟨Z, m, S, σd, c, w⟩ => ?_
    rw [h1] at w
    simp only [evPart] at w
    refine ⟨Z, m, S, σd, c, WR.bind w fun d S1 m1 H1 v st rs r w1 => ?_⟩
    split at w1
    · cases r
      exact ⟨_, rfl, WR.here (b := some _) w1 rs rfl⟩
    · exact w1.elim
theorem c_sl (x : XOk T k N sc ws X W) {a lo hi : E} {ea : Expr} {l h : Option Expr} {p p2 : Pos} (ha : SE W T k X a ea) (hl : PO X l (RO W X.K fun σ => evPart lo.isNop (evE (ctxOf T k) lo σ))) (hh : PO X h (RO W X.K fun σ => evPart hi.isNop (evE (ctxOf T k) hi σ))) : SE W T k X (.sl a lo hi) (.Subscript ea (.Slice l h none p2) p) := by
  refine se_mk (PE.mono (pe_slice sl_D ha.1 hl hh) fun σ H Q ⟨Z, m, S, σd, c, w⟩ => ?_)
  simp only [evE] at w
  refine ⟨Z, m, S, σd, c, WR.bind w fun d S1 m1 H1 v st rs r w1 => ?_⟩
  refine ⟨Z, m1, S1, σd, c.step st rs, WR.bind w1 fun l S2 m2 H2 l' st2 rs2 e2 w2 => ?_⟩
  refine ⟨Z, m2, S2, σd, (c.step st rs).step st2 rs2, WR.bind w2 fun h S3 m3 H3 h' st3 rs3 e3 w3 => ?_⟩
  have e2 : l = l' := e2
  have e3 : h = h' := e3
  subst e2 e3
  exact ⟨_, Z, m3, S3, d, rs3, r.mono (st2.trans st3), w3⟩
theorem pe_rev {X : Cx} {x : Str} {px : Pos} {st : Expr} {te : TE} {pos p2 : Pos} (he : PE X (.Name x px) te) (hst : ∀ pins s σ H, L2.Inv X pins σ H s → wpAny (model X.prog X.w) X.A (evalPart (some st) X.env) (fun u s' => L2.Inv X pins σ H s' ∧ IsPart u (some (-1))) X.xe s) :
    PE X (.Subscript (.Name x px) (.Slice none none (some st) p2) pos) fun σ H Q => te σ H fun v H1 => ∃ a xs, v = V.ref a ∧ SqL X.K H1 a xs ∧ ∀ p, H1 p = none → Q (V.ref p) (upd H1 p (HO.lst xs.reverse)) := by
  refine ⟨fun pins s σ H Q I t => PyProof.Rows.Subscript_ (thn (he.run pins s σ H _ I t) ?_)⟩
  rintro o s1 ⟨v, H1, I1, rv, a, xs, rfl, hq, hQ⟩
  refine wpAny_Slice ?_
  have en : ∀ env, evalPart none env = pure Value.none := fun env => rfl
  rw [en]
  refine wpAny_pure ?_
  refine wpAny_pure ?_
  refine thn (hst pins s1 σ H1 I1) ?_
  rintro u s4 ⟨I4, hp⟩
  have rv : o = .ref a := by cases rv; rfl
  subst rv
  obtain ⟨its, hv, ⟨ob, n, g1, g2, g3, g4⟩, hsz⟩ := I4.list hq
  have I5 := I4.kept (h' := s4.heap.push { cls := Value.type "slice", data := Data.fields #[Value.none, Value.none, u] }) (t' := s4.toks) (fun b o e => Heap.get?_push_of_some _ e)
  have hl : its.length = xs.length := hv.length.symm
  refine PyProof.Rows.tail_of_ItemOn (ops := [Value.ref a, Value.ref s4.heap.objs.size]) ⟨"list", _, rfl, ⟨ob, Heap.get?_push_of_some _ g1, g2⟩, ?_⟩ rfl (fun r => rfl)
  refine wpAny_getItem_list_slice (items := its.toArray) (lo := none) (hi := none) (st := some (-1)) ⟨ob, Heap.get?_push_of_some _ g1, g2, n, g4⟩ ⟨_, Heap.get?_push_size _ rfl, rfl, rfl⟩ .none .none hp (by decide) ?_ (by simpa [hl] using hsz)
  rw [W.krv_pick]
  exact ⟨.ref _, _, I5.lnew (ys := xs.reverse) (its := its.reverse) hv.reverse (by simpa using hsz), rfl, hQ _ I5.fresh⟩
theorem st_m1 {X : Cx} {kd : Nat} {p3 p4 : Pos} : ∀ pins s σ H, L2.Inv X pins σ H s → wpAny (model X.prog X.w) X.A (evalPart (some (.UnaryOp .USub (.Constant (.int 1) kd p3) p4)) X.env) (fun u s' => L2.Inv X pins σ H s' ∧ IsPart u (some (-1))) X.xe s := by
  intro pins s σ H I
  refine thn ((po_some (pe_un un_neg (pe_int (X := X) (i := 1) (j := kd) (pos := p3)))).run pins s σ H (fun o H' => o = some (-1) ∧ H' = H) I ⟨_, rfl, _, rfl, rfl, rfl⟩) ?_
  rintro u s' ⟨o, H', I', hp, rfl, rfl⟩
  exact ⟨I', hp⟩
theorem c_rev (x : XOk T k N sc ws X W) {a : E} {ea es : Expr} {p : Pos} (hn : isNm ea = true) (hr : isRv es = true) (ha : SE W T k X a ea) : SE W T k X (.rev a) (.Subscript ea es p) := by
  obtain ⟨y, py, rfl⟩ : ∃ y py, ea = .Name y py := by
    cases ea <;> first | exact ⟨_, _, rfl⟩ | (simp [isNm] at hn; done)
  obtain ⟨st, p2, rfl, hm⟩ : ∃ st p2, es = .Slice none none (some st) p2 ∧ isM1 st = true := by
    unfold isRv at hr
    split at hr
    · exact ⟨_, _, rfl, hr⟩
    · cases hr
  obtain ⟨kd, p3, p4, rfl⟩ : ∃ kd p3 p4, st = .UnaryOp .USub (.Constant (.int 1) kd p3) p4 := by
    unfold isM1 at hm
    split at hm
    · exact ⟨_, _, _, rfl⟩
    · cases hm
  refine se_mk (PE.mono (pe_rev ha.1 st_m1) fun σ H Q ⟨Z, m, S, σd, c, w⟩ => ?_)
  simp only [evE] at w
  refine ⟨Z, m, S, σd, c, WR.bind w fun d S1 m1 H1 v st rs r w1 => ?_⟩
  unfold revD at w1
  split at w1
  · rename_i e
    obtain ⟨q, vs, rfl, h1, r1⟩ := r.listOf rs e
    exact ⟨q, vs, rfl, SqL.of h1, fun l hl => w1.newL rs r1.reverse hl⟩
  · exact w1.elim
/-! ### calls -/
/-- a callee's promise, by position, at the slots σ -/
theorem run_fnRS {X : Cx} {CX : CXT} {k : Nat} {f : Addr} {sp : Sp} {A : Around} {pins : List (Addr × Obj)} {σ : St} {H : Hp} {s : Shared} {Q : VK} {us : List Value} {vs : List V} {E' : XK} (F : FnR X.prog X.w X.K X.mg X.base CX k f sp) (hr : Room k A)
    (e0 : Env0 X.prog X.w X.K X.mg X.base A X.stack s H) (hx : PassesAt CX X σ E') (I : Inv X pins σ H s) (r : Vals vs us) (h : sp vs H Q E') : wpAny (model X.prog X.w) A (call (.ref f) us) (EP X pins σ Q) X.xe s := by
  refine wpAny_call (codeAny_mono (F A X.stack s H us vs Q E' hr e0 r h) fun r s' hq => ?_)
  cases r with
  | error e => exact hx pins H s e s' I hq
  | ok fl =>
    cases fl with
    | ret u => exact I.after hq
    | next => exact False.elim hq
    | brk => exact False.elim hq
    | cont => exact False.elim hq
/-- .. where no exception comes out: for any wish of exceptions -/
theorem run_fnRN {X : Cx} {k : Nat} {f : Addr} {sp : Sp} {A : Around} {pins : List (Addr × Obj)} {σ : St} {H : Hp} {s : Shared} {Q : VK} {us : List Value} {vs : List V} {E' : Value → Shared → Prop} (F : FnR X.prog X.w X.K X.mg X.base (L2N.CX X.prog X.w) k f sp) (hr : Room k A)
    (e0 : Env0 X.prog X.w X.K X.mg X.base A X.stack s H) (I : Inv X pins σ H s) (r : Vals vs us) (h : sp vs H Q fun _ _ _ => False) : wpAny (model X.prog X.w) A (call (.ref f) us) (EP X pins σ Q) E' s := by
  refine wpAny_call (codeAny_mono (F A X.stack s H us vs Q _ hr e0 r h) fun r s' hq => ?_)
  cases r with
  | error e =>
    obtain ⟨_, _, _, _, _, _, _, _, _, _, _, _, z⟩ := hq
    exact z.elim
  | ok fl =>
    cases fl with
    | ret u => exact I.after hq
    | next => exact False.elim hq
    | brk => exact False.elim hq
    | cont => exact False.elim hq
/-- a class's call at the slots σ -/
theorem run_makeRS {X : Cx} {CX : CXT} {k : Nat} {C f : Addr} {sp : Sp} {pins : List (Addr × Obj)} {σ : St} {H : Hp} {s : Shared} {Q : VK} {us : List Value} {vs : List V} {E' : XK} (M : Mk X.K C f) (F : FnR X.prog X.w X.K X.mg X.base CX k f sp) (hr : Room (k + 1) X.A) (hx : PassesAt CX X σ E') (I : Inv X pins σ H s) (r : Vals vs us)
    (h : ∀ x dx, H x = none → H dx = none → dx ≠ x → sp (V.ref x :: vs) (upd (upd H dx (.own x)) x (.ins C dx [])) (fun v H2 => v = .non ∧ Q (.ref x) H2) E') :
    wpAny (model X.prog X.w) X.A (call (.ref C) us) (EP X pins σ Q) X.xe s := by
  have hq := h (s.heap.objs.size + 1) s.heap.objs.size (I.hok.fresh (Nat.le_succ _)) (I.hok.fresh (Nat.le_refl _)) (Nat.ne_of_lt (Nat.lt_succ_self _))
  have I2 := Inv.made (C := C) I
  have r2 : Vals (V.ref (s.heap.objs.size + 1) :: vs) (Value.ref (s.heap.objs.size + 1) :: us) := .cons rfl r
  refine wpAny_call (make_map (f := f) I.kIn M.makes M.init (beq_iff_eq.mp M.fn) (codeAny_mono (F _ X.stack _ _ (Value.ref (s.heap.objs.size + 1) :: us) _ _ E' (hr.make C us []) (I2.env0.make C us []) r2 hq) fun r s' hq' => ?_))
  cases r with
  | error e => exact hx pins _ _ e s' I2 hq'
  | ok fl =>
    cases fl with
    | ret u =>
      obtain ⟨v, H', I3, rv, ev, q3⟩ := I2.after hq'
      subst ev
      exact ⟨rv, ⟨V.ref (s.heap.objs.size + 1), H', I3, rfl, q3⟩⟩
    | next => exact False.elim hq'
    | brk => exact False.elim hq'
    | cont => exact False.elim hq'
/-- a new instance, as a cell -/
theorem made_cel {K : PySem.W.Frag} {Z m : List Addr} {S : Sto} {H : Hp} {q dq : Addr} {c : Str} (rs : RelS K Z m S H) (h1 : H q = none) (h2 : H dq = none) (hn : dq ≠ q) :
    RelS K Z (m ++ [q]) (S ++ [.ins c [] []]) (upd (upd H dq (.own q)) q (.ins (He.ga K c) dq [])) ∧ Step m S H (m ++ [q]) (S ++ [.ins c [] []]) (upd (upd H dq (.own q)) q (.ins (He.ga K c) dq [])) := by
  have rs1 : RelS K Z m S (upd H dq (.own q)) := rels_new rs h2
  have st1 : Step m S H m S (upd H dq (.own q)) := step_new rs h2
  have h3 : upd H dq (.own q) q = none := by rw [upd_ne (fun e => hn e.symm)]; exact h1
  exact ⟨rels_cel rs1 h3 (.ins (ks := []) (ds := []) (vs := []) rfl .nil), st1.trans (step_cel rs1 h3)⟩
/-- a cell let go is a value -/
theorem frz_D {EX : XK} {K : PySem.W.Frag} {Z m : List Addr} {S : Sto} {H : Hp} {d : D} {v : V} {Q : VK} (rs : RelS K Z m S H) (r : RelD K Z m S H d v) (w : WR EX K Z (RelD K Z) m S H Q (frzD d S)) : Q v H := by
  unfold frzD at w
  split at w
  · split at w
    · rename_i n _ xs hx
      cases r with
      | @ref _ a hm =>
        obtain ⟨vs, h1, r1⟩ := rs.obj n _ _ hm hx
        exact w m H _ step_dead (rels_dead rs) (.lv h1 (not_own_dead rs hm) (fun q => (rs.hid _ q).2 (mem_of_get hm)) (r1.mono step_dead))
    · rename_i n _ c ks xs hx
      cases r with
      | @ref _ a hm =>
        obtain ⟨dx, vs, h1, l1, r1⟩ := rs.obi hm hx
        exact w m H _ step_dead (rels_dead rs) (.ob h1 l1 (not_own_dead rs hm) (fun q => (rs.hid _ q).2 (mem_of_get hm)) (r1.mono step_dead))
    · exact w.elim
  · exact w.elim
/-- a call of what is known by name: a def or a class -/
theorem run_named (x : XOk T k N sc ws X W) {y f : Str} {ds : List D} {vs : List V} {us : List Value} {Z m : List Addr} {S : Sto} {H : Hp} {s : Shared} {pins : List (Addr × Obj)} {σ : St} {Q : VK} {a : Addr}
    (hh : T.has y f = true) (ha : X.mg y = some (.ref a)) (I : Inv X pins σ H s) (rs : RelS X.K Z m S H) (r : RelDs X.K Z m S H ds vs) (rv : Vals vs us)
    (w : WR (fun c d H => W c d σ H) X.K Z (RelD X.K Z) m S H Q (callN T k y f ds S)) : wpAny (model X.prog X.w) X.A (call (.ref a) us) (EP X pins σ Q) X.xe s := by
  unfold Prg.has at hh
  cases ef : T.fns.lookup f with
  | some F =>
    rw [ef] at hh
    simp only [Bool.and_eq_true, decide_eq_true_eq, Option.isNone_iff_eq_none] at hh
    obtain ⟨rfl, ho⟩ := hh
    obtain ⟨b, fa, G⟩ := x.wld.fns f F ef
    unfold FAt at fa
    rw [ho] at fa
    have e := ha.symm.trans fa.1
    cases e
    exact run_fnRS G x.room I.env0 (L2N.passAt x.tk σ) I rv ⟨Z, m, S, ds, rs, r, w⟩
  | none =>
    rw [ef] at hh
    simp only at hh
    cases ek : T.eks.lookup f with
    | none => rw [ek] at hh; cases hh
    | some e =>
      rw [ek] at hh
      cases e with
      | low g => cases hh
      | mk b i z =>
        simp only [decide_eq_true_eq] at hh
        subst hh
        obtain ⟨fi, mb, M, G⟩ := x.wld.mks f b i z ef ek
        have e := ha.symm.trans mb
        cases e
        cases k with
        | zero => exact w.elim
        | succ j =>
          simp only [callN, ef, ek, if_true] at w
          refine run_makeRS (sp := spR X.K (callN T j i i)) M (G j rfl) x.room (L2N.passAt x.tk σ) I rv fun q dq h1 h2 hn => ?_
          obtain ⟨rs1, st1⟩ := made_cel (c := b) rs h1 h2 hn
          refine ⟨Z, _, _, .ref S.length :: ds, rs1, .cons (reld_own rs) (r.mono st1), ?_⟩
          refine WR.bind (WR.step w st1) fun v S2 m2 H2 u st2 rs2 r2 w2 => ?_
          unfold mkK at w2
          split at w2
          · cases r2
            refine ⟨rfl, ?_⟩
            have rq : RelD X.K Z m2 S2 H2 (.ref S.length) (.ref q) := RelD.mono st2 (reld_own (S' := S ++ [.ins b [] []]) (H' := upd (upd H dq (.own q)) q (.ins (He.ga X.K b) dq [])) rs)
            split at w2
            · exact frz_D rs2 rq w2
            · exact WR.here w2 rs2 rq
          · exact w2.elim
theorem kp_named (x : XOk T k N sc ws X W) {y f : Str} (hh : T.has y f = true) : ∃ a, X.mg y = some (.ref a) ∧ PySem.W.keepIn X.K (.ref a) = true := by
  unfold Prg.has at hh
  cases ef : T.fns.lookup f with
  | some F =>
    rw [ef] at hh
    simp only [Bool.and_eq_true, decide_eq_true_eq, Option.isNone_iff_eq_none] at hh
    obtain ⟨rfl, ho⟩ := hh
    obtain ⟨b, fa, G⟩ := x.wld.fns f F ef
    unfold FAt at fa
    rw [ho] at fa
    exact ⟨b, fa⟩
  | none =>
    rw [ef] at hh
    simp only at hh
    cases ek : T.eks.lookup f with
    | none => rw [ek] at hh; cases hh
    | some e =>
      rw [ek] at hh
      cases e with
      | low g => cases hh
      | mk b i z =>
        simp only [decide_eq_true_eq] at hh
        subst hh
        obtain ⟨fi, mb, M, G⟩ := x.wld.mks f b i z ef ek
        exact ⟨_, mb, M.kp⟩
theorem c_call (x : XOk T k N sc ws X W) {y f : Str} {es : Es} {e : Expr} {ees : List Expr} {p p2 : Pos} (hg : glB sc y = true) (hf : fitEs N sc ws es (e :: ees) = true) (h : PA X (e :: ees) (RA W X.K (evEs (ctxOf T k) es))) : SE W T k X (.call y f es) (.Call (.Name y p) (e :: ees) [] p2) := by
  obtain ⟨g1, g2⟩ := gl_of x hg
  obtain ⟨ir, irs, rfl⟩ : ∃ ir irs, es = .cons ir irs := by
    cases es with
    | nil => simp [fitEs] at hf
    | cons a b => exact ⟨a, b, rfl⟩
  simp only [fitEs, Bool.and_eq_true] at hf
  cases hh : T.has y f with
  | false =>
    refine se_mk ⟨fun pins s σ H Q I ⟨Z, m, S, σd, c, w⟩ => ?_⟩
    simp only [evE, ctx_has, hh, gd_f] at w
    exact w.elim
  | true =>
    obtain ⟨a, ma, kp⟩ := kp_named x hh
    refine se_mk ⟨fun pins s σ H Q I ⟨Z, m, S, σd, c, w⟩ => ?_⟩
    simp only [evE, ctx_has, hh, gd_t] at w
    refine wpAny_Call_Name_kw (ld_glob I g1 ma ?_ g2)
    refine PySem.W.callWith_K (h₀ := X.base) I.ok.mod.kin kp (thn (h.run p2 pins s σ H (fun vs H' => ∃ Z m S ds, RelS X.K Z m S H' ∧ RelDs X.K Z m S H' ds vs ∧ WR (fun c d H => W c d σ H) X.K Z (RelD X.K Z) m S H' Q (callN T k y f ds S)) I
      ⟨Z, m, S, σd, c, WR.bind w fun ds S1 m1 H1 vs st rs r w1 => ⟨Z, m1, S1, ds, rs, r, w1⟩⟩) fun us s1 ⟨vs, H1, I1, rv, Z, m, S, ds, rs, r, q⟩ => ⟨I1.kIn, ?_⟩) (star_of hf.1) (stars_of hf.2).1
    exact run_named x hh ma I1 rs r rv q
theorem c_call0 (x : XOk T k N sc ws X W) {y f : Str} {p p2 : Pos} (hg : glB sc y = true) : SE W T k X (.call y f .nil) (.Call (.Name y p) [] [] p2) := by
  obtain ⟨g1, g2⟩ := gl_of x hg
  cases hh : T.has y f with
  | false =>
    refine se_mk ⟨fun pins s σ H Q I ⟨Z, m, S, σd, c, w⟩ => ?_⟩
    simp only [evE, ctx_has, hh, gd_f] at w
    exact w.elim
  | true =>
    obtain ⟨a, ma, kp⟩ := kp_named x hh
    refine se_mk ⟨fun pins s σ H Q I ⟨Z, m, S, σd, c, w⟩ => ?_⟩
    simp only [evE, evEs, ctx_has, hh, gd_t, R.bind_ok] at w
    refine wpAny_Call_Name_kw (ld_glob I g1 ma ?_ g2)
    exact PySem.W.callWith_K0 I.kIn kp (run_named x hh ma I c.s .nil .nil w)
theorem re_cb {es : Es} {g : List D → Sto → R D} {K : PySem.W.Frag} {σ : St} {H : Hp} {Q : VK} (h : RE W K (fun σ S => (evEs (ctxOf T k) es σ S).bind g) σ H Q) : tCB (rC K g) (RA W K (evEs (ctxOf T k) es)) σ H Q := by
  obtain ⟨Z, m, S, σd, c, w⟩ := h
  exact ⟨Z, m, S, σd, c, WR.bind w fun ds S1 m1 H1 vs st rs r w1 => ⟨_, Z, m1, S1, ds, rs, r, w1⟩⟩
theorem c_blt (x : XOk T k N sc ws X W) {f : Blt} {es : Es} {e : Expr} {ees : List Expr} {p p2 : Pos} (hg : glB sc f.nm = true) (hf : fitEs N sc ws es (e :: ees) = true) (h : PA X (e :: ees) (RA W X.K (evEs (ctxOf T k) es))) : SE W T k X (.blt f es) (.Call (.Name f.nm p) (e :: ees) [] p2) := by
  obtain ⟨g1, g2⟩ := gl_of x hg
  obtain ⟨ir, irs, rfl⟩ : ∃ ir irs, es = .cons ir irs := by
    cases es with
    | nil => simp [fitEs] at hf
    | cons a b => exact ⟨a, b, rfl⟩
  simp only [fitEs, Bool.and_eq_true] at hf
  have sB : ∀ {id : String}, bootBuiltins f.nm = some (.builtin id) → f.nm ≠ "__name__" → CallR X (.builtin id) (rC X.K (bltD f)) → SE W T k X (.blt f (.cons ir irs)) (.Call (.Name f.nm p) (e :: ees) [] p2) := fun hb hn hc =>
    se_mk (PE.mono (pe_callB hc g1 (x.wld.blt f) hb h hn g2 (star_of hf.1) (stars_of hf.2).1) fun σ H Q q => re_cb (by simpa only [RE, evE] using q))
  have sT : ∀ {id : String}, bootBuiltins f.nm = some (.type id) → f.nm ≠ "__name__" → CallR X (.type id) (rC X.K (bltD f)) → SE W T k X (.blt f (.cons ir irs)) (.Call (.Name f.nm p) (e :: ees) [] p2) := fun hb hn hc =>
    se_mk (PE.mono (pe_callTy hc g1 (x.wld.blt f) hb h hn g2 (star_of hf.1) (stars_of hf.2).1) fun σ H Q q => re_cb (by simpa only [RE, evE] using q))
  cases f with
  | len => exact sB (by decide +kernel) (by decide +kernel) cb_len
  | abs => exact sB (by decide +kernel) (by decide +kernel) cb_abs
  | int => exact sT (by decide +kernel) (by decide +kernel) cb_int
  | list => exact sT (by decide +kernel) (by decide +kernel) cb_list
  | tuple => exact sT (by decide +kernel) (by decide +kernel) cb_tuple
  | str => exact sT (by decide +kernel) (by decide +kernel) cb_str
  | max => exact sB (by decide +kernel) (by decide +kernel) (cb_max x.calm)
  | min => exact sB (by decide +kernel) (by decide +kernel) (cb_min x.calm)
  | sum => exact sB (by decide +kernel) (by decide +kernel) (cb_sum x.calm)
  | any => exact sB (by decide +kernel) (by decide +kernel) (cb_any x.calm)
  | all => exact sB (by decide +kernel) (by decide +kernel) (cb_all x.calm)
  | isi => exact sB (by decide +kernel) (by decide +kernel) cb_isi
  | sorted => exact sB (by decide +kernel) (by decide +kernel) cb_sorted
theorem c_bltM (x : XOk T k N sc ws X W) {es : Es} {e : Expr} {ees : List Expr} {p p2 : Pos} (hg : glB sc Blt.list.nm = true) (hf : fitEs N sc ws es (e :: ees) = true) (h : PA X (e :: ees) (RA W X.K (evEs (ctxOf T k) es))) : SE W T k X (.bltM .list es) (.Call (.Name Blt.list.nm p) (e :: ees) [] p2) := by
  obtain ⟨g1, g2⟩ := gl_of x hg
  obtain ⟨ir, irs, rfl⟩ : ∃ ir irs, es = .cons ir irs := by
    cases es with
    | nil => simp [fitEs] at hf
    | cons a b => exact ⟨a, b, rfl⟩
  simp only [fitEs, Bool.and_eq_true] at hf
  exact se_mk (PE.mono (pe_callTy cb_listM g1 (x.wld.blt .list) (by decide +kernel) h (by decide +kernel) g2 (star_of hf.1) (stars_of hf.2).1) fun σ H Q q => re_cb (by simpa only [RE, evE] using q))
theorem c_meth (x : XOk T k N sc ws X W) {mt : Mth} {a : E} {es : Es} {ea e : Expr} {ees : List Expr} {ap cp : Pos} (hn : isBs ea = true) (hl : (ap.endLine == cp.line) = true) (h29 : (e :: ees).length < 29) (ha : SE W T k X a ea)
    (hf : fitEs N sc ws es (e :: ees) = true) (h : PA X (e :: ees) (RA W X.K (evEs (ctxOf T k) es))) : SE W T k X (.meth mt a es) (.Call (.Attribute ea mt.nm ap) (e :: ees) [] cp) := by
  obtain ⟨ir, irs, rfl⟩ : ∃ ir irs, es = .cons ir irs := by
    cases es with
    | nil => simp [fitEs] at hf
    | cons a b => exact ⟨a, b, rfl⟩
  have hf0 := hf
  simp only [fitEs, Bool.and_eq_true] at hf
  have hbase : ∀ n, attributeBase ea n X.env (eval ea X.env) = eval ea X.env := fun n => by
    cases ea <;> first | rfl | (simp [isBs] at hn; done)
  have hfew : ((backTo cp (starEach (e :: ees) X.env)).all (fun x => !x.1) && (backToKw cp (keywordEach [] X.env)).all (fun x => x.1.isSome)
      && decide ((e :: ees).length + ([] : List Keyword).length + (if ([] : List Keyword).isEmpty then 0 else 1) < 30)) = true := by
    rw [(stars_of (env := X.env) (pos := cp) hf0).2]
    have : (e :: ees).length + ([] : List Keyword).length + (if ([] : List Keyword).isEmpty then 0 else 1) < 30 := by
      simp only [List.isEmpty_nil, if_true, List.length_nil]
      omega
    rw [decide_eq_true this]
    rfl
  have fin : ∀ {id : String}, PySem.Slot "list" mt.nm id → typeOf (.builtin id) = pure (.type "method_descriptor") → mt.id = id → SE W T k X (.meth mt a (.cons ir irs)) (.Call (.Attribute ea mt.nm ap) (e :: ees) [] cp) := fun hs ht hi => by
    subst hi
    refine se_mk (PE.mono (pe_bm PySem.F.plainAttrs_list hs ht (mtD mt) ha.1 h (hbase _) hfew hl (star_of hf.1) (stars_of hf.2).1) fun σ H Q ⟨Z, m, S, σd, c, w⟩ => ?_)
    simp only [evE] at w
    refine ⟨Z, m, S, σd, c, WR.bind w fun o S1 m1 H1 v st rs r w1 => ?_⟩
    split at w1
    · rename_i ys e1
      obtain ⟨p, vs, rfl, h1, _⟩ := r.listOf rs e1
      have ty : tyV X.K "list" (.ref p) H1 := .inl ⟨rfl, vs, SqL.of h1⟩
      exact ⟨ty, Z, m1, S1, σd, c.step st rs, WR.bind w1 fun ds S2 m2 H2 vs st2 rs2 r2 w2 => ⟨_, Z, m2, S2, o, ds, rs2, r.mono st2, r2, w2⟩⟩
    · exact w1.elim
  cases mt with
  | append => exact fin PySem.F.slot_list_append PySem.F.type_list_append rfl
  | insert => exact fin PySem.F.slot_list_insert PySem.F.type_list_insert rfl
  | pop => exact fin PySem.F.slot_list_pop PySem.F.type_list_pop rfl
/-! ### own instances -/
theorem base_of {ea : Expr} {env : Env} (hn : noCall ea = true) (f : Str) : attributeBase ea f env (eval ea env) = eval ea env := by
  cases ea <;> try rfl
  rename_i fn args kws pos
  rcases args with _ | ⟨a1, as⟩
  · rcases kws with _ | ⟨k1, ks⟩
    · cases fn <;> first | rfl | (simp [noCall] at hn; done)
    · cases fn <;> rfl
  · cases fn <;> rfl
theorem fldOf_lk {α : Type} : ∀ (ks : List Str) (vs : List α) (f : Str), (ks.zip vs).lookup f = fldOf ks vs f
  | [], _, _ => rfl
  | _ :: _, [], _ => rfl
  | k :: ks, v :: vs, f => by
    rw [List.zip_cons_cons, List.lookup_cons]
    unfold fldOf
    by_cases h : f = k
    · simp [h]
    · rw [if_neg h, ← fldOf_lk ks vs f, show (f == k) = false from by rw [beq_eq_false_iff_ne]; exact h]
theorem fldOf_none {α : Type} : ∀ (ks : List Str) (vs : List α) {f : Str}, f ∉ ks → fldOf ks vs f = none
  | [], _, _, _ => rfl
  | _ :: _, [], _, _ => rfl
  | k :: ks, v :: vs, f, h => by
    rw [List.mem_cons, not_or] at h
    unfold fldOf
    rw [if_neg h.1]
    exact fldOf_none ks vs h.2
theorem fldOf_rel {K : PySem.W.Frag} {Z m : List Addr} {S : Sto} {H : Hp} {f : Str} {d : D} : ∀ {ks : List Str} {ds : List D} {vs : List V}, RelDs K Z m S H ds vs → fldOf ks ds f = some d → ∃ v, fldOf ks vs f = some v ∧ RelD K Z m S H d v
  | [], _, _, _, e => by simp [fldOf] at e
  | _ :: _, _, _, .nil, e => by simp [fldOf] at e
  | k :: ks, _, _, .cons h r, e => by
    unfold fldOf at e ⊢
    by_cases q : f = k
    · rw [if_pos q] at e ⊢
      cases e
      exact ⟨_, rfl, h⟩
    · rw [if_neg q] at e ⊢
      exact fldOf_rel r e
theorem selfOf_rel {K : PySem.W.Frag} {Z m : List Addr} {S : Sto} {H : Hp} {d : D} {v : V} {c : Str} {ks : List Str} {ds : List D} (rs : RelS K Z m S H) (r : RelD K Z m S H d v) (e : selfOf S d = some (c, ks, ds)) :
    ∃ p dx vs, v = .ref p ∧ H p = some (.ins (He.ga K c) dx (ks.zip vs)) ∧ ks.length = ds.length ∧ RelDs K Z m S H ds vs := by
  unfold selfOf at e
  split at e
  · cases e
    cases r with
    | ob h l n z r => exact ⟨_, _, _, rfl, h, l, r⟩
  · split at e
    · rename_i n _ _ _ _ hx
      cases e
      cases r with
      | ref hm =>
        obtain ⟨dx, vs, h1, l1, r1⟩ := rs.obi hm hx
        exact ⟨_, _, _, rfl, h1, l1, r1⟩
    · cases e
  · cases e
theorem fk_of {c f : Str} (h : T.fk c f = true) : ∃ l, T.cls.lookup c = some l ∧ f ∈ l := by
  unfold Prg.fk at h
  cases e : T.cls.lookup c with
  | none => rw [e] at h; cases h
  | some l => rw [e] at h; exact ⟨l, rfl, by simpa using h⟩
theorem c_fld (x : XOk T k N sc ws X W) {a : E} {f : Str} {ea : Expr} {p : Pos} (hn : noCall ea = true) (ha : SE W T k X a ea) : SE W T k X (.fld a f) (.Attribute ea f p) := by
  refine se_mk (PE.mono (pe_fld ha.1 (base_of hn f)) fun σ H Q ⟨Z, m, S, σd, c, w⟩ => ?_)
  simp only [evE] at w
  refine ⟨Z, m, S, σd, c, WR.bind w fun d S1 m1 H1 v st rs r w1 => ?_⟩
  unfold fldD at w1
  split at w1
  · rename_i cl ks ds e
    obtain ⟨p, dx, vs, rfl, h1, l, r1⟩ := selfOf_rel rs r e
    rw [ctx_fk] at w1
    cases hk : T.fk cl f with
    | false => rw [hk] at w1; exact w1.elim
    | true =>
      rw [hk, gd_t] at w1
      cases e2 : fldOf ks ds f with
      | none => rw [e2] at w1; exact w1.elim
      | some d2 =>
        rw [e2, ofOpt_some] at w1
        obtain ⟨v, hv, rv⟩ := fldOf_rel r1 e2
        obtain ⟨l, hl, hf⟩ := fk_of hk
        obtain ⟨c1, c2⟩ := x.wld.clo cl l hl
        exact ⟨p, _, dx, _, v, rfl, h1, c1, c2 f hf, by rw [fldOf_lk]; exact hv, WR.here w1 rs rv⟩
  · exact w1.elim
theorem keyD_rel {K : PySem.W.Frag} {Z m : List Addr} {S : Sto} {H : Hp} {d : D} {v : V} {nm vr f : Str} (rs : RelS K Z m S H) (r : RelD K Z m S H d v) (e : keyD (ctxOf T k) nm vr d S = some f) :
    ∃ c p dx fs, v = .ref p ∧ H p = some (.ins (He.ga K c) dx fs) ∧ fs.lookup nm = none ∧ T.mt.lookup (c, nm, vr) = some f := by
  unfold keyD at e
  split at e
  · rename_i c ks ds e1
    split at e
    · cases e
    · rename_i hk
      obtain ⟨p, dx, vs, rfl, h1, l, r1⟩ := selfOf_rel rs r e1
      rw [ctx_mth] at e
      refine ⟨c, p, dx, _, rfl, h1, ?_, e⟩
      rw [fldOf_lk]
      exact fldOf_none ks vs (by simpa using hk)
  · cases e
theorem wr_nox {K : PySem.W.Frag} {Z m : List Addr} {S : Sto} {H : Hp} {Q : VK} {r : R D} (w : WR EX K Z (RelD K Z) m S H Q r.nox) : WR (fun _ _ _ => False) K Z (RelD K Z) m S H Q r := by
  cases r with
  | ok d S => exact w
  | ex c fs S => exact w.elim
  | stuck => exact w.elim
theorem c_prop (x : XOk T k N sc ws X W) {a : E} {f : Str} {ea : Expr} {p : Pos} (hn : noCall ea = true) (ha : SE W T k X a ea) : SE W T k X (.prop a f) (.Attribute ea f p) := by
  refine se_mk ⟨fun pins s σ H Q I ⟨Z, m, S, σd, c, w⟩ => ?_⟩
  simp only [evE] at w
  refine attr_of (base_of hn f) (thn (ha.1.run pins s σ H (fun v H' => ∃ Z m S d, RelS X.K Z m S H' ∧ RelD X.K Z m S H' d v ∧ WR (fun c d H => W c d σ H) X.K Z (RelD X.K Z) m S H' Q (propD (ctxOf T k) f d S)) I
    ⟨Z, m, S, σd, c, WR.bind w fun d S1 m1 H1 v st rs r w1 => ⟨Z, m1, S1, d, rs, r, w1⟩⟩) fun u s1 ⟨v, H1, I1, rv, Z, m, S, d, rs, r, w1⟩ => ?_)
  unfold propD at w1
  split at w1
  · rename_i g e
    obtain ⟨cl, a, dx, fs, rfl, ea, hl, hm⟩ := keyD_rel rs r e
    obtain rfl : u = Value.ref a := rv
    obtain ⟨cc, pp, fa, hp, G⟩ := x.wld.prp cl f g hm
    cases k with
    | zero => exact w1.elim
    | succ j =>
      have w2 := wr_nox w1
      have G := G j rfl
      obtain ⟨mA, O, _, _, _, _⟩ := ins_get I1.hok ea
      obtain ⟨od, J, _⟩ := O.look
      obtain ⟨rest, hrec⟩ := hp.rec_
      have I2 := I1.tok (s1.toks + 1)
      have hc : (PySem.W.clsIn X.K (He.ga X.K cl)).isSome = true := by
        obtain ⟨cd, hc, _⟩ := PySem.W.any_some cc.hd
        rw [hc]
        rfl
      refine PySem.W.get_bind I1.kIn J (PySem.W.plainGet_of (cc.get f)).1 (PySem.W.findObj_data hc hp.at_ hp.get hp.tak) (PySem.W.plainGet_of (cc.get f)).2 (wpAny_call (PySem.W.prop_get (s := { s1 with toks := s1.toks + 1 }) I1.kIn hrec ?_))
      refine codeAny_mono (G X.A.in1 X.stack { s1 with toks := s1.toks + 1 } H1 [.ref a] [.ref a] Q _ x.room.in1 I2.env0.in1 (.cons rfl .nil) ⟨Z, m, S, [d], rs, .cons r .nil, w2⟩) fun r s' hq => ?_
      cases r with
      | error er =>
        obtain ⟨_, _, _, _, _, _, _, _, _, _, _, _, z⟩ := hq
        exact z.elim
      | ok fl =>
        cases fl with
        | ret u =>
          obtain ⟨v, H', I3, rv, q3⟩ := I2.after hq
          show wpAny _ _ (handedOut u) _ _ _
          rw [PySem.W.handedOut_of (handed_of rv)]
          exact wpAny_pure ⟨v, H', I3, rv, q3⟩
        | next => exact False.elim hq
        | brk => exact False.elim hq
        | cont => exact False.elim hq
  · exact w1.elim
theorem own_meth_of {M : Model} {A : Around} {E : Value → Shared → Prop} {s : Shared} {o : Expr} {name : Str} {apos pos : Pos} {args : List Expr} {env : Env} {Q : Value → Shared → Prop} (hbase : attributeBase o name env (eval o env) = eval o env)
    (hfew : ((backTo pos (starEach args env)).all (fun x => !x.1) && (backToKw pos (keywordEach [] env)).all (fun x => x.1.isSome) && decide (args.length + ([] : List Keyword).length + (if ([] : List Keyword).isEmpty then 0 else 1) < 30)) = true)
    (hline : (apos.endLine == pos.line) = true)
    (h : wpAny M A (eval o env) (fun ov s₁ => wpAny M A (getMethod ov name (do return (← importBound o env).getD true)) (fun fx s₂ => wpAny M A (callWith pos fx.1 fx.2 (backTo pos (starEach args env)) []) Q E s₂) E s₁) E s) :
    wpAny M A (eval (.Call (.Attribute o name apos) args [] pos) env) Q E s := by
  have hke : backToKw pos (keywordEach [] env) = [] := rfl
  have hform : methodCallForm (args.length + ([] : List Keyword).length) (backTo pos (starEach args env)) (backToKw pos (keywordEach [] env)) = true := hfew
  have hpos : methodCallPos true o env apos pos = pure pos := by unfold methodCallPos; simp [hline]
  rw [arm_eval_Call, hbase]
  refine wpAny_bind (wpAny_mono h (fun ov s₁ h₁ => ?_) fun _ _ x => x)
  refine wpAny_bind (wpAny_standAt ?_)
  unfold methodCall
  rw [hform, hpos, hke]
  unfold calleeOf
  rw [if_pos rfl]
  refine wpAny_bind (wpAny_holding (wpAny_mono h₁ (fun fx s₂ h₂ => ?_) fun _ _ x => x))
  exact wpAny_bind (wpAny_pure h₂)
theorem c_mc (x : XOk T k N sc ws X W) {m v : Str} {a : E} {es : Es} {ea : Expr} {ees : List Expr} {ap cp : Pos} (hn : noCall ea = true) (hl : (ap.endLine == cp.line) = true) (h29 : ees.length < 29) (ha : SE W T k X a ea)
    (hf : fitEs N sc ws es ees = true) (h : PA X ees (RA W X.K (evEs (ctxOf T k) es))) : SE W T k X (.mc m v a es) (.Call (.Attribute ea m ap) ees [] cp) := by
  have hfew : ((backTo cp (starEach ees X.env)).all (fun x => !x.1) && (backToKw cp (keywordEach [] X.env)).all (fun x => x.1.isSome)
      && decide (ees.length + ([] : List Keyword).length + (if ([] : List Keyword).isEmpty then 0 else 1) < 30)) = true := by
    rw [(stars_of (env := X.env) (pos := cp) hf).2]
    have : ees.length + ([] : List Keyword).length + (if ([] : List Keyword).isEmpty then 0 else 1) < 30 := by
      simp only [List.isEmpty_nil, if_true, List.length_nil]
      omega
    rw [decide_eq_true this]
    rfl
  refine se_mk ⟨fun pins s σ H Q I ⟨Z, mm, S, σd, c, w⟩ => ?_⟩
  simp only [evE] at w
  refine own_meth_of (base_of hn m) hfew hl (thn (ha.1.run pins s σ H (fun u H' => ∃ Z mm S d, Cf X.K Z mm S H' σd σ ∧ RelD X.K Z mm S H' d u ∧ WR (fun c d H => W c d σ H) X.K Z (RelD X.K Z) mm S H' Q (match keyD (ctxOf T k) m v d S with
      | some f => gd (decide (v ≠ "low" ∧ v ≠ "prop")) ((evEs (ctxOf T k) es σd S).bind fun vs S => (ctxOf T k).call f f (d :: vs) S)
      | none => .stuck)) I
    ⟨Z, mm, S, σd, c, WR.bind w fun d S1 m1 H1 v st rs r w1 => ⟨Z, m1, S1, d, c.step st rs, r, w1⟩⟩) fun u s1 ⟨uv, H1, I1, rv, Z, mm, S, d, c1, r, w1⟩ => ?_)
  split at w1
  · rename_i f e
    obtain ⟨cl, a, dx, fs, rfl, ea, hlk, hm⟩ := keyD_rel c1.s r e
    obtain rfl : u = Value.ref a := rv
    by_cases hv : v ≠ "low" ∧ v ≠ "prop"
    · rw [decide_eq_true hv, gd_t] at w1
      obtain ⟨cc, fa, M, G⟩ := x.wld.mth cl m v f hm hv.1 hv.2
      refine getmeth_ok I1 ea cc M hlk ?_
      have run : ∀ {us : List Value} {vs : List V} {s2 : Shared} {H2 : Hp}, Inv X pins σ H2 s2 → Vals vs us → (∃ Z m S ds d, RelS X.K Z m S H2 ∧ RelD X.K Z m S H2 d (.ref a) ∧ RelDs X.K Z m S H2 ds vs ∧ WR (fun c d H => W c d σ H) X.K Z (RelD X.K Z) m S H2 Q (callN T k f f (d :: ds) S)) →
          wpAny (model X.prog X.w) X.A (call (.ref fa) (.ref a :: us)) (EP X pins σ Q) X.xe s2 := fun I2 rv ⟨Z, m, S, ds, d, rs, r, r2, q⟩ =>
        run_fnRS G x.room I2.env0 (L2N.passAt x.tk σ) I2 (us := .ref a :: _) (vs := .ref a :: _) (.cons rfl rv) ⟨Z, m, S, _, rs, .cons r r2, q⟩
      cases ees with
      | nil =>
        have : es = .nil := by
          cases es with
          | nil => rfl
          | cons _ _ => simp [fitEs] at hf
        subst this
        simp only [evEs, R.bind_ok] at w1
        exact PySem.W.callWith_K0 (first := [.ref a]) I1.kIn M.kp (run (us := []) I1 .nil ⟨Z, mm, S, [], d, c1.s, r, .nil, w1⟩)
      | cons e1 r1 =>
        obtain ⟨ir, irs, rfl⟩ : ∃ ir irs, es = .cons ir irs := by
          cases es with
          | nil => simp [fitEs] at hf
          | cons a b => exact ⟨a, b, rfl⟩
        simp only [fitEs, Bool.and_eq_true] at hf
        refine PySem.W.callWith_K (first := [.ref a]) (h₀ := X.base) I1.ok.mod.kin M.kp (thn (h.run cp pins s1 σ H1 (fun vs H2 => ∃ Z m S ds d, RelS X.K Z m S H2 ∧ RelD X.K Z m S H2 d (.ref a) ∧ RelDs X.K Z m S H2 ds vs ∧ WR (fun c d H => W c d σ H) X.K Z (RelD X.K Z) m S H2 Q (callN T k f f (d :: ds) S)) I1
          ⟨Z, mm, S, σd, c1, WR.bind w1 fun ds S2 m2 H2 vs st2 rs2 r2 w2 => ⟨Z, m2, S2, ds, d, rs2, r.mono st2, r2, w2⟩⟩) fun us s2 ⟨vs, H2, I2, rv, q⟩ => ⟨I2.kIn, ?_⟩) (star_of hf.1) (stars_of hf.2).1
        exact run I2 rv q
    · rw [decide_eq_false hv] at w1
      exact w1.elim
  · exact w1.elim
theorem c_kc (x : XOk T k N sc ws X W) {c f : Str} {p p2 : Pos} (hg : glB sc c = true) : SE W T k X (.kc c f) (.Attribute (.Name c p) f p2) := by
  obtain ⟨g1, g2⟩ := gl_of x hg
  cases e : T.kcs.lookup (c, f) with
  | none => exact se_mk (no_PE (no_RE fun σ S => by simp [evE, ctx_kc, e]))
  | some d =>
    obtain ⟨v, u, mc, m1, cr, cv, rd⟩ := x.wld.kcs c f d e
    refine se_mk (PE.mono (ClX.pe_cval (pe_glob g1 m1 (v := .ref (He.ga X.K c)) rfl g2)) fun σ H Q ⟨Z, m, S, σd, cf, w⟩ => ?_)
    simp only [evE, ctx_kc, e, ofOpt_some] at w
    exact ⟨_, mc, v, u, rfl, cr, cv, WR.here w cf.s (rd Z m S H)⟩
theorem WR.imp {α β : Type} {rel : Rel α β} {K : PySem.W.Frag} {Z m : List Addr} {S : Sto} {H : Hp} {Q Q' : β → Hp → Prop} {r : R α} (w : WR EX K Z rel m S H Q r) (h : ∀ b H', Q b H' → Q' b H') : WR EX K Z rel m S H Q' r := by
  cases r with
  | ok d S1 => exact fun m1 H1 b st rs r => h b H1 (w m1 H1 b st rs r)
  | ex c fs S1 => exact w
  | stuck => exact w
theorem wr_noxb {K : PySem.W.Frag} {Z m : List Addr} {S : Sto} {H : Hp} {Q : VK} {r : R D} {g : D → Sto → R D} (w : WR EX K Z (RelD K Z) m S H Q (r.nox.bind g)) :
    WR (fun _ _ _ => False) K Z (RelD K Z) m S H (fun v H' => ∃ m S d, RelS K Z m S H' ∧ RelD K Z m S H' d v ∧ WR EX K Z (RelD K Z) m S H' Q (g d S)) r := by
  cases r with
  | ok d S1 => exact fun m1 H1 v st rs r => ⟨m1, S1, d, rs, r, WR.step w st⟩
  | ex c fs S => exact w.elim
  | stuck => exact w.elim
/-- the one argument of an own operator -/
def o1L (Γ : Ctx) (w : W1) (ds : List D) (S : Sto) : R D := match ds with
  | [d] => o1D Γ w d S
  | _ => .stuck
theorem o1_at (x : XOk T k N sc ws X W) {w : W1} {d : D} {v : V} {u : Value} {Z m : List Addr} {S : Sto} {H : Hp} {s : Shared} {pins : List (Addr × Obj)} {σ : St} {Q : VK} {E : XK} (I : Inv X pins σ H s) (rv : RelV v u) (rs : RelS X.K Z m S H) (r : RelD X.K Z m S H d v)
    (h : WR E X.K Z (RelD X.K Z) m S H Q (o1D (ctxOf T k) w d S)) : ∃ a C fa ox od j, u = .ref a ∧ k = j + 1 ∧ PySem.W.InstAt s.heap a ox C od ∧ Meth X.K C w.nm fa ∧
      ∀ A, Room j A → Env0 X.prog X.w X.K X.mg X.base A X.stack s H → ∀ E' : Value → Shared → Prop, wpAny (model X.prog X.w) A (call (.ref fa) [u]) (EP X pins σ fun v H' => ∃ m S d, RelS X.K Z m S H' ∧ RelD X.K Z m S H' d v ∧ WR E X.K Z (RelD X.K Z) m S H' Q (w.post d S)) E' s := by
  unfold o1D at h
  split at h
  · rename_i f e
    obtain ⟨cl, a, dx, fs, rfl, ea, hl, hm⟩ := keyD_rel rs r e
    cases rv
    obtain ⟨fa, M, G⟩ := x.wld.low cl w.nm f hm
    obtain ⟨mA, O, _, _, _, _⟩ := ins_get I.hok ea
    obtain ⟨od, J, _⟩ := O.look
    cases k with
    | zero => exact h.elim
    | succ j =>
      refine ⟨a, _, fa, _, _, j, rfl, rfl, J, M, fun A hr e0 E' => ?_⟩
      exact run_fnRN (us := [.ref a]) (vs := [.ref a]) (G j rfl) hr e0 I (.cons rfl .nil) ⟨Z, m, S, [d], rs, .cons r .nil, wr_noxb h⟩
  · exact h.elim
theorem cb_absO (x : XOk T k N sc ws X W) : CallR X (.builtin "abs") (rC X.K (o1L (ctxOf T k) .abs)) := by
  intro pins s σ H vs us Q I rv ⟨E, Z, m, S, ds, rs, rd, w⟩
  unfold o1L at w
  split at w
  · obtain ⟨v, rfl, r⟩ := rd.one
    obtain ⟨u, rfl, r1⟩ := vals1 rv
    obtain ⟨a, C, fa, ox, od, j, rfl, rfl, J, M, run⟩ := o1_at x I r1 rs r w
    refine Calls.call_function_entry PyProof.Rows.kind_abs PyProof.Rows.plain_abs PyProof.Rows.entry_abs (PyProof.Rows.args_abs _) ?_
    unfold Builtin.«abs»
    refine wpAny_bind (m := oneArg "abs" _) (wpAny_pure ?_)
    refine wpAny_bind (m := callSpecial? (.ref a) (Str.ofString "__abs__")) (PySem.W.special_fn I.kIn J M.at_ (beq_iff_eq.mp M.fn) (wpAny_mono (run _ x.room.in1 I.env0.in1 _) (fun r s' ⟨v, H', I', rv, m, S, d, rs, rd, w⟩ => ?_) fun _ _ y => y))
    refine wpAny_pure ⟨_, rfl, v, H', I', rv, ?_⟩
    cases d <;> exact WR.here w rs rd
  · exact w.elim
theorem cb_lenO (x : XOk T k N sc ws X W) : CallR X (.builtin "len") (rC X.K (o1L (ctxOf T k) .len)) := by
  intro pins s σ H vs us Q I rv ⟨E, Z, m, S, ds, rs, rd, w⟩
  unfold o1L at w
  split at w
  · obtain ⟨v, rfl, r⟩ := rd.one
    obtain ⟨u, rfl, r1⟩ := vals1 rv
    obtain ⟨a, C, fa, ox, od, j, rfl, rfl, J, M, run⟩ := o1_at x I r1 rs r w
    obtain ⟨mm, fr⟩ := I.fr
    refine PySem.W.len_K fr I.ok.mod.kin J M.at_ M.fn (wpAny_mono (run _ x.room.in1 I.env0.in1 _) (fun r s' ⟨v, H', I', rv, m, S, d, rs, rd, w⟩ => ?_) fun _ _ y => y)
    cases d <;> try exact w.elim
    rename_i n
    simp only [W1.post] at w
    split at w
    · rename_i hn
      cases rd
      obtain ⟨t, rfl⟩ := (show ∃ t, r = Value.int n t from rv)
      refine ⟨⟨hn.1, ?_⟩, .int n, H', I'.tok _, ⟨_, rfl⟩, WR.here w rs (.int n)⟩
      have := hn.2
      unfold lim at this
      omega
    · exact w.elim
  · exact w.elim
theorem un_O (x : XOk T k N sc ws X W) {w : W1} {op : UnaryOp} (hop : (w = .neg ∧ op = .USub) ∨ (w = .inv ∧ op = .Invert)) : UnR X (unaryOp op) (fun v H Q => ∃ E Z m S d, RelS X.K Z m S H ∧ RelD X.K Z m S H d v ∧ WR E X.K Z (RelD X.K Z) m S H Q (o1D (ctxOf T k) w d S)) := by
  intro pins s σ H v u Q I r1 ⟨E, Z, m, S, d, rs, r, h⟩
  obtain ⟨a, C, fa, ox, od, j, rfl, rfl, J, M, run⟩ := o1_at x I r1 rs r h
  obtain ⟨mm, fr⟩ := I.fr
  rcases hop with ⟨rfl, rfl⟩ | ⟨rfl, rfl⟩
  · refine PySem.W.ksp_neg fr I.ok.mod.kin J M.at_ M.fn (wpAny_mono (run _ (x.room.mono (Nat.le_succ _)) I.env0 _) (fun r s' ⟨v, H', I', rv, m, S, d, rs, rd, w⟩ => ⟨v, H', I', rv, ?_⟩) fun _ _ y => y)
    cases d <;> exact WR.here w rs rd
  · refine PySem.W.ksp_inv fr I.ok.mod.kin J M.at_ M.fn (wpAny_mono (run _ (x.room.mono (Nat.le_succ _)) I.env0 _) (fun r s' ⟨v, H', I', rv, m, S, d, rs, rd, w⟩ => ⟨v, H', I', rv, ?_⟩) fun _ _ y => y)
    cases d <;> exact WR.here w rs rd
theorem re_o1 {w : W1} {a : E} {K : PySem.W.Frag} {σ : St} {H : Hp} {Q : VK} (h : RE W K (evE (ctxOf T k) (.o1 w a)) σ H Q) : RE W K (evE (ctxOf T k) a) σ H fun v H' => ∃ E Z m S d, RelS K Z m S H' ∧ RelD K Z m S H' d v ∧ WR E K Z (RelD K Z) m S H' Q (o1D (ctxOf T k) w d S) := by
  obtain ⟨Z, m, S, σd, c, w⟩ := h
  simp only [evE] at w
  exact ⟨Z, m, S, σd, c, WR.bind w fun d S1 m1 H1 v st rs r w1 => ⟨_, Z, m1, S1, d, rs, r, w1⟩⟩
theorem c_o1u (x : XOk T k N sc ws X W) {w : W1} {op : UnaryOp} {a : E} {ea : Expr} {p : Pos} (hop : (w = .neg ∧ op = .USub) ∨ (w = .inv ∧ op = .Invert)) (ha : SE W T k X a ea) : SE W T k X (.o1 w a) (.UnaryOp op ea p) :=
  se_mk (PE.mono (pe_un (un_O x hop) ha.1) fun σ H Q h => re_o1 h) (by rcases hop with ⟨_, rfl⟩ | ⟨_, rfl⟩ <;> (intro _; rfl))
theorem c_o1b (x : XOk T k N sc ws X W) {w : W1} {a : E} {ea : Expr} {y : Str} {p p2 : Pos} (hw : (w = .abs ∧ y = "abs") ∨ (w = .len ∧ y = "len")) (hg : glB sc y = true) (hf : fitE N sc ws a ea = true) (ha : SE W T k X a ea) : SE W T k X (.o1 w a) (.Call (.Name y p) [ea] [] p2) := by
  obtain ⟨g1, g2⟩ := gl_of x hg
  have pa : PA X [ea] _ := pa_cons ha.1 pa_nil (star_of hf)
  have fin : ∀ {σ : St} {H : Hp} {Q : VK}, RE W X.K (evE (ctxOf T k) (.o1 w a)) σ H Q → tCB (rC X.K (o1L (ctxOf T k) w)) (fun σ H Q => RE W X.K (evE (ctxOf T k) a) σ H fun v H' => Q [v] H') σ H Q := fun {σ H Q} h => by
    obtain ⟨Z, m, S, σd, c, w⟩ := re_o1 h
    refine ⟨Z, m, S, σd, c, ?_⟩
    refine WR.imp w fun v H' ⟨E, Z, m, S, d, rs, r, w⟩ => ⟨E, Z, m, S, [d], rs, .cons r .nil, w⟩
  rcases hw with ⟨rfl, rfl⟩ | ⟨rfl, rfl⟩
  · exact se_mk (PE.mono (pe_callB (cb_absO x) g1 (x.wld.blt .abs) (by decide +kernel) pa (by decide +kernel) g2 (star_of hf) rfl) fun σ H Q q => fin q)
  · exact se_mk (PE.mono (pe_callB (cb_lenO x) g1 (x.wld.blt .len) (by decide +kernel) pa (by decide +kernel) g2 (star_of hf) rfl) fun σ H Q q => fin q)
/-! in, not in -/
theorem o2_bl {Γ : Ctx} {w : W2o} {a b d : D} {S S' : Sto} (e : o2D Γ w a b S = .ok d S') : ∃ c, d = .bl c := by
  unfold o2D at e
  split at e
  · obtain ⟨d1, S1, _, e⟩ := bind_ok_of e
    unfold W2o.post at e
    split at e <;> cases e <;> exact ⟨_, rfl⟩
  · cases e
theorem op_o2 (x : XOk T k N sc ws X W) {w : W2o} {o : CmpOp} (ho : w.is o = true) : OpR X (compareOp o) (rD X.K (o2D (ctxOf T k) w)) := by
  intro pins s σ H vx vy u1 u2 Q I r1 r2 ⟨E, Z, m, S, dx, dy, rs, rx, ry, h⟩
  unfold o2D at h
  split at h
  · rename_i f e
    obtain ⟨cl, a, ax, fs, rfl, ea, hl, hm⟩ := keyD_rel rs ry e
    cases r2
    obtain ⟨cc, fa, M, G⟩ := x.wld.mth cl w.nm "" f hm (by decide) (by decide)
    obtain ⟨mA, O, _, _, _, _⟩ := ins_get I.hok ea
    obtain ⟨od, J, _⟩ := O.look
    obtain ⟨mm, fr⟩ := I.fr
    have run := run_fnRN (E' := X.xe) (us := [.ref a, u1]) (vs := [.ref a, vx]) G x.room I.env0 I (.cons rfl (.cons r1 .nil)) ⟨Z, m, S, [dy, dx], rs, .cons ry (.cons rx .nil), wr_noxb h⟩
    cases w with
    | inn =>
      have : o = .In := by cases o <;> first | rfl | cases ho
      subst this
      refine PySem.W.in_K fr I.ok.mod.kin J M.at_ M.fn (wpAny_mono run (fun r s' ⟨v, H', I', rv, m, S, d, rs, rd, w⟩ => ?_) fun _ _ y => y)
      cases d <;> try exact w.elim
      cases rd; cases rv
      exact wpAny_truthy_bool ⟨.bl _, H', I', rfl, WR.here w rs (.bl _)⟩
    | nin =>
      have : o = .NotIn := by cases o <;> first | rfl | cases ho
      subst this
      refine PySem.W.notIn_K fr I.ok.mod.kin J M.at_ M.fn (wpAny_mono run (fun r s' ⟨v, H', I', rv, m, S, d, rs, rd, w⟩ => ?_) fun _ _ y => y)
      cases d <;> try exact w.elim
      cases rd; cases rv
      exact wpAny_truthy_bool ⟨.bl _, H', I', rfl, WR.here w rs (.bl _)⟩
  · exact h.elim
theorem c_o2 (x : XOk T k N sc ws X W) {w : W2o} {o : CmpOp} {a b : E} {ea eb : Expr} {p : Pos} (ho : w.is o = true) (hm : behindInMarks o eb = false) (ha : SE W T k X a ea) (hb : SE W T k X b eb) : SE W T k X (.o2 w a b) (.Compare ea [o] [eb] p) := by
  refine ⟨PE.mono (pe_cmpR (op_o2 x ho) ha.1 hb.1 hm) fun σ H Q h => re_op (by simpa only [RE, evE] using h), fun ht => ⟨PT.mono (pt_cmpR (op_o2 x ho) ha.1 hb.1 hm) fun σ H Q ⟨Z, m, S, σd, c, w⟩ => ?_, fun q => by cases q⟩⟩
  refine re_op (f := o2D (ctxOf T k) _) ⟨Z, m, S, σd, c, ?_⟩
  have w' := wr_test (fun d S' e => ?_) w
  · simpa only [evE] using w'
  · simp only [evE] at e
    obtain ⟨_, _, _, e⟩ := bind_ok_of e
    obtain ⟨_, _, _, e⟩ := bind_ok_of e
    exact o2_bl e
end
end Ev

/-! == by an own __eq__, of instances and of tuples of them; isinstance asked of an own class. -/
namespace Ev
open PySem L2
section
open PySem.SeqAt
open AutoSeq1 (wpAny_loadPart')
open MeetsSeq MeetsSeq2 MeetsSeq3 SeqRoads2
variable {prog : Program} {w : World} {A : Around} {R : Result → Shared → Prop}
/-- both answers of the tuple's ==, the items' == may make objects -/
theorem tuple_two (l b : Addr) (xs ys : Array Value) (n n2 : Nat) (dd dd2 : Option Addr) (sl sl2 : Array (Option Value)) (J : Nat → Shared → Prop)
    (step : ∀ i (h1 : i < xs.size) (h2 : i < ys.size) s, J i s → wpAny (model prog w) A.in1 (eqBool xs[i] ys[i]) (fun r s' => (r = true ∧ J (i + 1) s') ∨ (r = false ∧ R (.ok (.ret (.bool false))) s')) (fun e s' => R (.error e) s') s)
    (last : ∀ s, J (min xs.size ys.size) s → R (.ok (.ret (.bool (xs.size == ys.size)))) s) {s : Shared} (hl1 : s.heap.get? l = some { cls := .type "tuple", dict := dd, data := .seq xs n, slots := sl })
    (hb1 : s.heap.get? b = some { cls := .type "tuple", dict := dd2, data := .seq ys n2, slots := sl2 }) (h : J 0 s) :
    wpAny (model prog w) A.in1 (Builtin.«tuple.__eq__» ⟨[.ref l, .ref b], []⟩) (GQ.FinOf prog w A R) (fun e s' => R (.error e) s') s := by
  have sub2 := AutoSeq1.sub_tuple_tuple
  have hlen : (xs.toList.zip ys.toList).length = min xs.size ys.size := by simp
  have start := h
  obtain ⟨hp, g, d, tk, os⟩ := s
  wp_walk using wpAny_loadPart' hl1, wpAny_loadPart' hb1, wpAny_forIn_list _ (fun rest b s' => b.1 = none ∧ ∃ i, rest = (xs.toList.zip ys.toList).drop i ∧ i ≤ min xs.size ys.size ∧ J i s') _
  case turn =>
    rintro ⟨y, x⟩ rest b s' ⟨hb', i, hz, hi, hJ⟩
    have inZ : i < (xs.toList.zip ys.toList).length := Nat.lt_of_not_le fun q => by rw [List.drop_of_length_le q] at hz; cases hz
    have hm : i < min xs.size ys.size := hlen ▸ inZ
    have h1 : i < xs.size := Nat.lt_of_lt_of_le hm (Nat.min_le_left _ _)
    have h2 : i < ys.size := Nat.lt_of_lt_of_le hm (Nat.min_le_right _ _)
    rw [List.drop_eq_getElem_cons inZ] at hz
    injection hz with e1 e2
    obtain rfl : y = xs[i] := by have := congrArg Prod.fst e1; simpa using this
    obtain rfl : x = ys[i] := by have := congrArg Prod.snd e1; simpa using this
    refine wpAny_bind (wpAny_mono (step i h1 h2 s' hJ) (fun r s2 q2 => ?_) fun _ _ z => z)
    rcases q2 with ⟨rfl, q2⟩ | ⟨rfl, q2⟩
    · wp_walk
      exact ⟨rfl, i + 1, e2, hm, q2⟩
    · wp_walk
      exact q2
  case fin =>
    rintro ⟨b1, b2⟩ s' ⟨hb', i, hz, hi, hJ⟩
    simp only at hb'
    subst hb'
    have outZ : min xs.size ys.size ≤ i := Nat.le_of_not_lt fun q => by
      rw [List.drop_eq_getElem_cons (hlen.symm ▸ q)] at hz; cases hz
    obtain rfl : i = min xs.size ys.size := Nat.le_antisymm hi outZ
    have hR := last s' hJ
    wp_walk
    simpa [Builtin.Tuple.tupleCompareSizes] using hR
  case h =>
    exact ⟨rfl, 0, rfl, Nat.zero_le _, start⟩
theorem rc_two {E : Value → Shared → Prop} {s : Shared} {l b : Addr} {xs ys : Array Value} {Q : Value → Shared → Prop} (hu : A.units < cLine) (J : Nat → Shared → Prop) (hl : s.heap.IsTuple l xs) (hb : s.heap.IsTuple b ys)
    (step : ∀ i (h1 : i < xs.size) (h2 : i < ys.size) s, J i s → wpAny (model prog w) A.in1 (eqBool xs[i] ys[i]) (fun r s' => (r = true ∧ J (i + 1) s') ∨ (r = false ∧ Q (.bool false) s')) E s)
    (last : ∀ s, J (min xs.size ys.size) s → Q (.bool (xs.size == ys.size)) s) (h : J 0 s) : wpAny (model prog w) A (richCompare .Eq (.ref l) (.ref b)) Q E s := by
  obtain ⟨⟨c1, d1, t1, s1⟩, o1, k1, m1, e1⟩ := id hl
  obtain ⟨⟨c2, d2, t2, s2⟩, o2, k2, m2, e2⟩ := id hb
  simp only at k1 e1 k2 e2
  subst k1 e1 k2 e2
  refine wpAny_richCompare_same_room (op := .Eq) ⟨_, o1, rfl⟩ ⟨_, o2, rfl⟩ F.slot_tuple_eq (GQ.call_here F.slot_tuple_eq ⟨_, o1, rfl⟩ F.entry_tuple_eq (F.args_tuple_eq_2 _ _) ?_) hu
  refine tuple_two (R := wants (fun v s' => v ≠ .notImplemented ∧ Q v s') E) l b xs ys m1 m2 d1 d2 s1 s2 J (fun i h1 h2 s hJ => wpAny_mono (step i h1 h2 s hJ) (fun r s' q => ?_) fun _ _ z => z) (fun s q => ⟨(fun z => nomatch z), last s q⟩) o1 o2 h
  rcases q with q | ⟨q1, q2⟩
  · exact .inl q
  · exact .inr ⟨q1, show _ ∧ _ from ⟨(fun z => nomatch z), q2⟩⟩
end
variable {EX : XK} {W : WX}
section
variable {T : Prg} {k : Nat} {N : List Str} {sc ws : Scope} {X : Cx}
/-- instances that differ in a plain attribute stand at two places -/
theorem ne_of_diff {K : PySem.W.Frag} {Z m : List Addr} {S : Sto} {H : Hp} : ∀ {xs ys : List D} {vs us : List V}, RelDs K Z m S H xs vs → RelDs K Z m S H ys us → vs = us → ((xs.zip ys).any fun p => flatNe p.1 p.2) = false
  | _, _, _, _, .nil, _, _ => rfl
  | _, _, _, _, .cons _ _, .nil, _ => rfl
  | _, _, _, _, .cons h t, .cons h2 t2, e => by
    injection e with e1 e2
    rw [List.zip_cons_cons, List.any_cons, ne_of_diff t t2 e2, Bool.or_false]
    subst e1
    cases h <;> cases h2 <;> simp [flatNe]
theorem zip_inj : ∀ {ks ls : List Str} {vs us : List V}, ks.length = vs.length → ls.length = us.length → ks.zip vs = ls.zip us → vs = us
  | [], [], [], [], _, _, _ => rfl
  | [], _ :: _, [], _ :: _, _, _, e => by cases e
  | _ :: _, [], _ :: _, [], _, _, e => by cases e
  | k :: ks, l :: ls, v :: vs, u :: us, h1, h2, e => by
    rw [List.zip_cons_cons, List.zip_cons_cons] at e
    injection e with e1 e2
    injection e1 with e3 e4
    rw [e4, zip_inj (by simpa using h1) (by simpa using h2) e2]
theorem obDiff_ne {K : PySem.W.Frag} {Z m : List Addr} {S : Sto} {H : Hp} {x y : D} {a b : Addr} (r1 : RelD K Z m S H x (.ref a)) (r2 : RelD K Z m S H y (.ref b)) (h : obDiff x y = true) : a ≠ b := by
  rintro rfl
  unfold obDiff at h
  split at h
  · cases r1 with
    | ob h1 l1 n1 z1 q1 =>
      cases r2 with
      | ob h2 l2 n2 z2 q2 =>
        rw [h1] at h2
        injection h2 with h2
        injection h2 with c1 c2 c3
        rw [ne_of_diff q1 q2 (zip_inj (l1.trans q1.length) (l2.trans q2.length) c3)] at h
        cases h
  · cases h
theorem sameC_of {S : Sto} {x y : D} (h : sameC S x y = true) : ∃ c ks ds ls es, selfOf S x = some (c, ks, ds) ∧ selfOf S y = some (c, ls, es) := by
  unfold sameC at h
  split at h
  · rename_i e1 e2
    have := of_decide_eq_true h
    subst this
    exact ⟨_, _, _, _, _, e1, e2⟩
  · cases h
theorem keyD_at {K : PySem.W.Frag} {Z m : List Addr} {S : Sto} {H : Hp} {d : D} {v : V} {nm vr f c : Str} {ks : List Str} {ds : List D} (rs : RelS K Z m S H) (r : RelD K Z m S H d v) (e : keyD (ctxOf T k) nm vr d S = some f) (es : selfOf S d = some (c, ks, ds)) :
    ∃ p dx fs, v = .ref p ∧ H p = some (.ins (He.ga K c) dx fs) ∧ fs.lookup nm = none ∧ T.mt.lookup (c, nm, vr) = some f := by
  unfold keyD at e
  rw [es] at e
  simp only at e
  split at e
  · cases e
  · rename_i hk
    obtain ⟨p, dx, vs, rfl, h1, l, r1⟩ := selfOf_rel rs r es
    rw [ctx_mth] at e
    refine ⟨p, dx, _, rfl, h1, ?_, e⟩
    rw [fldOf_lk]
    exact fldOf_none ks vs (by simpa using hk)
/-- the items' == within a builtin -/
theorem te_one (x : XOk T k N sc ws X W) {dx dy : D} {vx vy : V} {u1 u2 : Value} {Z m : List Addr} {S : Sto} {H : Hp} {s : Shared} {pins : List (Addr × Obj)} {σ : St} {b : Bool} {E' : Value → Shared → Prop} (I : Inv X pins σ H s) (q1 : RelV vx u1) (q2 : RelV vy u2)
    (rs : RelS X.K Z m S H) (r1 : RelD X.K Z m S H dx vx) (r2 : RelD X.K Z m S H dy vy) (h : teOne (ctxOf T k) dx dy S = some b) :
    wpAny (model X.prog X.w) X.A.in1 (eqBool u1 u2) (fun r s' => r = b ∧ ∃ m' H', Inv X pins σ H' s' ∧ Step m S H m' S H' ∧ RelS X.K Z m' S H') E' s := by
  unfold teOne at h
  split at h
  · rename_i f e
    split at h
    · rename_i b' S' ec
      split at h
      · rename_i hc
        obtain ⟨rfl, hsc, hd⟩ := hc
        cases h
        obtain ⟨c, ks, ds, ls, es, e1, e2⟩ := sameC_of hsc
        obtain ⟨p, dx1, fs, rfl, h1, hl, hm⟩ := keyD_at rs r1 e e1
        obtain ⟨p2, dx2, vs2, rfl, h2, _, _⟩ := selfOf_rel rs r2 e2
        cases q1
        cases q2
        by_cases hp : p = p2
        · have hb : b = true := by
            rcases hd with hd | hd
            · exact hd
            · exact absurd hp (obDiff_ne r1 r2 hd)
          subst hp hb
          exact SeqAt.EqAt.same (A := X.A.in1) (s := s) (.ref p) X.prog X.w E' _ ⟨rfl, m, H, I, .refl, rs⟩
        · refine GQ.eqBool_refG hp ?_
          cases k with
          | zero => cases ec
          | succ j =>
            obtain ⟨fa, M, G⟩ := x.wld.low c "__eq__" f hm
            obtain ⟨mA, J, _⟩ := ins_get I.hok h1
            obtain ⟨mB, J', _⟩ := ins_get I.hok h2
            obtain ⟨od, J, _⟩ := J.look
            obtain ⟨od', J', _⟩ := J'.look
            obtain ⟨mm, hF⟩ := I.fr
            have rm : Room j X.A.in1 := x.room.in1
            refine PySem.W.cmp_K (op := .Eq) (tb := .ref (He.ga X.K c)) rm.units0 hF I.ok.mod.kin J J'.type (by simp [PySem.W.notFirst]) M.at_ M.fn ?_
            refine wpAny_mono (run_fnRN (us := [.ref p, .ref p2]) (vs := [.ref p, .ref p2]) (Q := fun v H' => v = .bl b ∧ ∃ m', Step m S' H m' S' H' ∧ RelS X.K Z m' S' H') (G j rfl) rm I.env0.in1 I (.cons rfl (.cons rfl .nil)) ⟨Z, m, S', [dx, dy], rs, .cons r1 (.cons r2 .nil), ?_⟩) (fun r s' ⟨v, H', I', rv, ev, m', st, rs'⟩ => ?_) fun _ _ z => z
            · have ec' : callN T (j + 1) f f [dx, dy] S' = .ok (.bl b) S' := ec
              rw [ec']
              intro m' H' v st rs' rv
              cases rv
              exact ⟨rfl, m', st, rs'⟩
            · subst ev
              cases rv
              exact ⟨b, rfl, rfl, m', H', I', st, rs'⟩
      · cases h
    · cases h
  · cases h
theorem op_eqo (x : XOk T k N sc ws X W) : OpR X (compareOp .Eq) (rD X.K (eqoD (ctxOf T k))) := by
  intro pins s σ H vx vy u1 u2 Q I r1 r2 ⟨E, Z, m, S, dx, dy, rs, rx, ry, h⟩
  show wpAny (model X.prog X.w) X.A (richCompare .Eq u1 u2) (EP X pins σ Q) X.xe s
  unfold eqoD at h
  split at h
  · rename_i xs ys
    obtain ⟨p, vs, rfl, sq1, q1⟩ := rx.tupOf
    obtain ⟨p2, us, rfl, sq2, q2⟩ := ry.tupOf
    cases r1
    cases r2
    obtain ⟨its, z1, e1, _⟩ := I.tuple sq1
    obtain ⟨its2, z2, e2, _⟩ := I.tuple sq2
    refine rc_two x.room.units0 (fun i s' => ∃ m' H', Inv X pins σ H' s' ∧ Step m S H m' S H' ∧ RelS X.K Z m' S H' ∧ WR E X.K Z (RelD X.K Z) m' S H' Q (teGo (ctxOf T k) (xs.drop i) (ys.drop i) S)) e1 e2 (fun i h1 h2 s' ⟨m', H', I', st, rs', w⟩ => ?_) (fun s' ⟨m', H', I', st, rs', w⟩ => ?_) ⟨m, H, I, .refl, rs, by simpa using h⟩
    · have k1 : i < xs.length := by rw [q1.length, z1.length]; simpa using h1
      have k2 : i < ys.length := by rw [q2.length, z2.length]; simpa using h2
      obtain ⟨v1, a1, b1⟩ := q1.get (List.getElem?_eq_getElem k1)
      obtain ⟨v2, a2, b2⟩ := q2.get (List.getElem?_eq_getElem k2)
      obtain ⟨w1, c1, d1⟩ := z1.get a1
      obtain ⟨w2, c2, d2⟩ := z2.get a2
      rw [List.drop_eq_getElem_cons k1, List.drop_eq_getElem_cons k2] at w
      unfold teGo at w
      have g1 : its.toArray[i] = w1 := by
        have h1' : i < its.length := by simpa using h1
        rw [List.getElem?_eq_getElem h1'] at c1
        simpa using c1
      have g2 : its2.toArray[i] = w2 := by
        have h2' : i < its2.length := by simpa using h2
        rw [List.getElem?_eq_getElem h2'] at c2
        simpa using c2
      rw [g1, g2]
      cases ho : teOne (ctxOf T k) xs[i] ys[i] S with
      | none => rw [ho] at w; exact w.elim
      | some b =>
        rw [ho] at w
        refine wpAny_mono (te_one x I' d1 d2 rs' (b1.mono st) (b2.mono st) ho) (fun r s2 ⟨er, m2, H2, I2, st2, rs2⟩ => ?_) fun _ _ z => z
        subst er
        cases r with
        | true => exact .inl ⟨rfl, m2, H2, I2, st.trans st2, rs2, WR.step w st2⟩
        | false => exact .inr ⟨rfl, .bl false, H2, I2, rfl, WR.here (WR.step w st2) rs2 (.bl _)⟩
    · have L1 : its.toArray.size = xs.length := by rw [q1.length, z1.length]; simp
      have L2 : its2.toArray.size = ys.length := by rw [q2.length, z2.length]; simp
      rw [L1, L2] at w ⊢
      refine ⟨.bl (xs.length == ys.length), H', I', rfl, ?_⟩
      have fin : teGo (ctxOf T k) (xs.drop (min xs.length ys.length)) (ys.drop (min xs.length ys.length)) S = .ok (.bl (xs.length == ys.length)) S := by
        rcases Nat.lt_trichotomy xs.length ys.length with hh | hh | hh
        · rw [Nat.min_eq_left (Nat.le_of_lt hh), List.drop_length, List.drop_eq_getElem_cons hh]
          simp [teGo, Nat.ne_of_lt hh]
        · rw [hh, Nat.min_self, List.drop_length, List.drop_of_length_le (by omega)]
          simp [teGo]
        · rw [Nat.min_eq_right (Nat.le_of_lt hh), List.drop_length, List.drop_eq_getElem_cons hh]
          simp [teGo, Nat.ne_of_gt hh]
      rw [fin] at w
      exact WR.here w rs' (.bl _)
  · rename_i _ _ _
    cases hs : sameC S dx dy with
    | false => rw [hs] at h; exact h.elim
    | true =>
      rw [hs, gd_t] at h
      unfold oeD at h
      split at h
      · rename_i f e
        obtain ⟨c, ks, ds, ls, es, e1, e2⟩ := sameC_of hs
        obtain ⟨p, dx1, fs, rfl, h1, hl, hm⟩ := keyD_at rs rx e e1
        obtain ⟨p2, dx2, vs2, rfl, h2, _, _⟩ := selfOf_rel rs ry e2
        cases r1
        cases r2
        obtain ⟨cc, fa, M, G⟩ := x.wld.mth c "__eq__" "" f hm (by decide) (by decide)
        obtain ⟨mA, J, _⟩ := ins_get I.hok h1
        obtain ⟨mB, J', _⟩ := ins_get I.hok h2
        obtain ⟨od, J, _⟩ := J.look
        obtain ⟨od', J', _⟩ := J'.look
        obtain ⟨mm, hF⟩ := I.fr
        refine PySem.W.cmp_K (op := .Eq) (tb := .ref (He.ga X.K c)) x.room.units0 hF I.ok.mod.kin J J'.type (by simp [PySem.W.notFirst]) M.at_ M.fn ?_
        refine wpAny_mono (run_fnRN (E' := X.xe) (us := [.ref p, .ref p2]) (vs := [.ref p, .ref p2]) G x.room I.env0 I (.cons rfl (.cons rfl .nil)) ⟨Z, m, S, [dx, dy], rs, .cons rx (.cons ry .nil), wr_noxb h⟩) (fun r s' ⟨v, H', I', rv, m', S', d, rs', rd, w⟩ => ?_) fun _ _ z => z
        cases d <;> try exact w.elim
        cases rd
        cases rv
        exact ⟨.bl _, H', I', rfl, WR.here w rs' (.bl _)⟩
      · exact h.elim
theorem eqoD_bl {Γ : Ctx} {a b d : D} {S S' : Sto} (e : eqoD Γ a b S = .ok d S') : ∃ c, d = .bl c := by
  unfold eqoD at e
  split at e
  · rename_i xs ys
    have : ∀ xs ys : List D, teGo Γ xs ys S = .ok d S' → ∃ c, d = .bl c := by
      intro xs
      induction xs with
      | nil => intro ys e; cases ys <;> simp only [teGo] at e <;> cases e <;> exact ⟨_, rfl⟩
      | cons x xs ih =>
        intro ys e
        cases ys with
        | nil => simp only [teGo] at e; cases e; exact ⟨_, rfl⟩
        | cons y ys =>
          simp only [teGo] at e
          split at e
          · exact ih ys e
          · cases e; exact ⟨_, rfl⟩
          · cases e
    exact this xs ys e
  · cases hs : sameC S a b with
    | false => rw [hs] at e; cases e
    | true =>
      rw [hs, gd_t] at e
      unfold oeD at e
      split at e
      · obtain ⟨d1, S1, _, e⟩ := bind_ok_of e
        unfold oePost at e
        split at e <;> cases e <;> exact ⟨_, rfl⟩
      · cases e
theorem c_oe (x : XOk T k N sc ws X W) {a b : E} {ea eb : Expr} {p : Pos} (hm : behindInMarks .Eq eb = false) (ha : SE W T k X a ea) (hb : SE W T k X b eb) : SE W T k X (.oe a b) (.Compare ea [.Eq] [eb] p) := by
  refine ⟨PE.mono (pe_cmpR (op_eqo x) ha.1 hb.1 hm) fun σ H Q h => re_op (by simpa only [RE, evE] using h), fun ht => ⟨PT.mono (pt_cmpR (op_eqo x) ha.1 hb.1 hm) fun σ H Q ⟨Z, m, S, σd, c, w⟩ => ?_, fun q => by cases q⟩⟩
  refine re_op (f := eqoD (ctxOf T k)) ⟨Z, m, S, σd, c, ?_⟩
  have w' := wr_test (fun d S' e => ?_) w
  · simpa only [evE] using w'
  · simp only [evE] at e
    obtain ⟨_, _, _, e⟩ := bind_ok_of e
    obtain ⟨_, _, _, e⟩ := bind_ok_of e
    exact eqoD_bl e
/-! ### isinstance(x, C) -/
theorem lk_of {α β : Type} [BEq α] [LawfulBEq α] {a : α} {b : β} : ∀ {l : List (α × β)}, (a, b) ∈ l → ∃ v, l.lookup a = some v
  | (x, y) :: l, h => by
    rw [List.lookup_cons]
    cases e : a == x with
    | true => exact ⟨y, rfl⟩
    | false =>
      rcases List.mem_cons.mp h with q | q
      · injection q with q1 q2
        subst q1
        simp at e
      · exact lk_of q
theorem c_isc (x : XOk T k N sc ws X W) {c : Str} {a : E} {ea : Expr} {p p2 p3 : Pos} (hi : glB sc "isinstance" = true) (hg : glB sc c = true) (hf : fitE N sc ws a ea = true) (ha : SE W T k X a ea) :
    SE W T k X (.isc c a) (.Call (.Name "isinstance" p) [ea, .Name c p2] [] p3) := by
  obtain ⟨g1, g2⟩ := gl_of x hi
  obtain ⟨n1, n2⟩ := gl_of x hg
  cases hk : (ctxOf T k).isg c with
  | false => exact se_mk (no_PE (no_RE fun σ S => by simp only [evE, hk, gd_f]))
  | true =>
    have hk' := hk
    rw [ctx_isg] at hk'
    obtain ⟨⟨⟨b0, c0⟩, v1⟩, hm0, hc0⟩ := List.any_eq_true.mp hk'
    have hcc : c0 = c := of_decide_eq_true hc0
    rw [hcc] at hm0
    obtain ⟨v0, e0⟩ := lk_of hm0
    have m1 := (x.wld.isl b0 c v0 e0).gc
    have pg : PE X (.Name c p2) (tC (.ref (He.ga X.K c))) := pe_glob n1 m1 rfl n2
    have pa : PA X [ea, .Name c p2] _ := pa_cons ha.1 (pa_cons pg pa_nil rfl) (star_of hf)
    refine se_mk (PE.mono (pe_callB call_isi g1 (x.wld.blt .isi) (by decide +kernel) pa (by decide +kernel) g2 (by rw [star_of hf]) rfl) fun σ H Q ⟨Z, m, S, σd, cf, w⟩ => ?_)
    simp only [evE, hk, gd_t] at w
    refine ⟨Z, m, S, σd, cf, WR.bind w fun d S1 m1 H1 v st rs r w1 => ?_⟩
    unfold iscD at w1
    split at w1
    · rename_i b ks ds es
      rw [ctx_isc] at w1
      split at w1
      · rename_i kk e2
        obtain ⟨q, dx, vs, rfl, h1, _, _⟩ := selfOf_rel rs r es
        have io := x.wld.isl b c kk e2
        exact ⟨_, _, _, _, kk, rfl, .own _, .base (.ins h1 io.cl io.ha io.hn io.ht io.hm), io.kt, WR.here w1 rs (.bl _)⟩
      · exact w1.elim
    · exact w1.elim
end
end Ev

namespace Ev
open PySem L2
variable {EX : XK} {W : WX}
section
variable {T : Prg} {k : Nat} {N : List Str} {sc ws : Scope} {X : Cx}
theorem xok_blk (x : XOk T k N sc ws X W) {scope : Scope} (s : Shared) (H : Hp) (C : Addr) (cl : List (Str × Addr)) (fp : List Addr) : XOk T k N (relS scope sc) scope (X.blk s H scope (compEnvC scope cl C X.env) fp) W0 where
  wld := x.wld
  room := x.room
  po := PassesOwn.never
  tk := fun u s' ⟨_, _, _, _, _, _, _, _, _, _, _, _, _, _, _, _, z⟩ => z.elim
  calm := x.calm
  nN := x.nN
  nd := x.nd
  sc := by
    show relS scope X.env.scope = relS scope sc
    rw [x.sc]
  fn := fun y h => by
    show (scope.names.lookup y == some NameKind.cell) = true
    rw [h]
    rfl
theorem PTs.mono {X : Cx} {e : List Expr} {t t' : TT} (h : PTs X e t) (k : ∀ σ H Q, t' σ H Q → t σ H Q) : PTs X e t' := ⟨fun pins s σ H Q I q => h.run pins s σ H Q I (k σ H Q q)⟩
theorem rt_true {K : PySem.W.Frag} {σ : St} {H : Hp} {Q : Bool → Hp → Prop} (h : RT W K (evE (ctxOf T k) (.cbl true)) σ H Q) : tYes σ H Q := by
  obtain ⟨Z, m, S, σd, c, w⟩ := h
  simp only [evE, R.bind_ok] at w
  exact WR.here (b := true) w c.s rfl
/-- a comprehension's source -/
def SI (W : WX) (T : Prg) (k : Nat) (X : Cx) (it : It) (tg eit : Expr) : Prop := ∃ wi, PI X tg eit wi ∧
  (∀ {g : D → Sto → R D}, GEnd g → ∀ {elt cond : E} {t : Tg} {σ : St} {H : Hp} {Q : VK}, RE W X.K (fun σ S => (evE (ctxOf T k) (.lc elt t it cond) σ S).bind g) σ H Q → tLc wi (RGw X.K t) (RT W0 X.K (evE (ctxOf T k) cond)) (RE W0 X.K (evE (ctxOf T k) elt)) t.slots σ H Q)
theorem si_seq (x : XOk T k N sc ws X W) {e : E} {tg ee : Expr} (h : PE X ee (RE W X.K (evE (ctxOf T k) e))) : SI W T k X (.seq e) tg ee := by
  refine ⟨_, pi_seq h, fun {g} hg {elt cond t σ H Q} q => ?_⟩
  obtain ⟨Z, m, S, σd, c, w⟩ := q
  simp only [evE, R.bind_assoc] at w
  refine ⟨Z, m, S, σd, c, WR.bind w fun d S1 m1 H1 v st rs r w1 => ?_⟩
  split at w1
  · rename_i xs ex
    exact jw_of (R := fun J H1 => ∀ L, H1 L = none → ∃ W : Nat → Nat → Hp → Prop, (∃ m, W 0 m (upd H1 L (.lst []))) ∧ ∀ i m H, W i m H →
      (J.stop i H ∧ Q (.ref L) H) ∨ (J.go i H ∧ ∃ Nx : Hp → Prop, (∀ H', Nx H' → ∃ m', m' < m ∧ W (i + 1) m' H') ∧ ∀ x H', J.yld i H x H' → RGw X.K t x (wipe σ t.slots) H' fun σ2 H2 => wipe σ2 t.slots = wipe σ t.slots ∧ RT W0 X.K (evE (ctxOf T k) cond) σ2 H2 fun b H3 =>
        if b = true then RE W0 X.K (evE (ctxOf T k) elt) σ2 H3 fun y H4 => ∃ acc, H4 L = some (.lst acc) ∧ acc.length < sizeLine ∧ Nx (upd H4 L (.lst (acc ++ [y]))) else Nx H3)) rs r ex fun J jw => lc_go jw hg (c.step st rs) r w1
  · exact w1.elim
theorem rngOk_of {i : Int} (h : rngOk i = true) : -(2 ^ 62) ≤ i ∧ i < 2 ^ 62 := by
  unfold rngOk at h
  simpa using h
theorem si_rng1 (x : XOk T k N sc ws X W) {e : E} {tg ee : Expr} {p p2 : Pos} (hg : glB sc "range" = true) (hf : fitE N sc ws e ee = true) (h : PE X ee (RE W X.K (evE (ctxOf T k) e))) : SI W T k X (.rng1 e) tg (.Call (.Name "range" p) [ee] [] p2) := by
  refine ⟨_, pi_range1 (gl_of x hg).1 x.wld.rng (pa_cons h pa_nil (star_of hf)) (star_of hf), fun {g} hg {elt cond t σ H Q} q => ?_⟩
  obtain ⟨Z, m, S, σd, c, w⟩ := q
  simp only [evE, R.bind_assoc] at w
  refine ⟨Z, m, S, σd, c, WR.bind w fun d S1 m1 H1 v st rs r w1 => ?_⟩
  split at w1
  · split at w1
    · rename_i j hj
      cases r
      obtain ⟨h1, h2⟩ := rngOk_of hj
      exact ⟨j, rfl, h1, h2, lc_rg hg (c.step st rs) w1⟩
    · exact w1.elim
  · exact w1.elim
theorem si_rng2 (x : XOk T k N sc ws X W) {e f : E} {tg ee ef : Expr} {p p2 : Pos} (hg : glB sc "range" = true) (hf : fitE N sc ws e ee = true) (hf2 : fitE N sc ws f ef = true) (h : PE X ee (RE W X.K (evE (ctxOf T k) e))) (h2 : PE X ef (RE W X.K (evE (ctxOf T k) f))) : SI W T k X (.rng2 e f) tg (.Call (.Name "range" p) [ee, ef] [] p2) := by
  refine ⟨_, pi_range2 (gl_of x hg).1 x.wld.rng (pa_cons h (pa_cons h2 pa_nil (star_of hf2)) (star_of hf)) (by rw [star_of hf, star_of hf2]; rfl) (star_of hf2), fun {g} hg {elt cond t σ H Q} q => ?_⟩
  obtain ⟨Z, m, S, σd, c, w⟩ := q
  simp only [evE, R.bind_assoc] at w
  refine ⟨Z, m, S, σd, c, WR.bind w fun d S1 m1 H1 v st rs r w1 => ?_⟩
  refine ⟨Z, m1, S1, σd, c.step st rs, WR.bind w1 fun d2 S2 m2 H2 v2 st2 rs2 r2 w2 => ?_⟩
  split at w2
  · split at w2
    · rename_i i j hj
      rw [Bool.and_eq_true] at hj
      cases r; cases r2
      obtain ⟨h1, h2⟩ := rngOk_of hj.1
      obtain ⟨h3, h4⟩ := rngOk_of hj.2
      exact ⟨i, j, rfl, ⟨h1, h2, h3, h4⟩, lc_rg hg ((c.step st rs).step st2 rs2) w2⟩
    · exact w2.elim
  · exact w2.elim
structure LcP (W : WX) (T : Prg) (k : Nat) (X : Cx) (elt : E) (tg : Tg) (it : It) (cond : E) (eelt etg eit : Expr) (ifs : List Expr) (scope : Scope) (own : List (Str × Nat)) : Prop where
  si : SI W T k X it etg eit
  ok : BlkOk X.N X.env.scope scope own
  slots : own.map (·.2) = tg.slots
  hg : ∀ (s : Shared) (H : Hp) (C : Addr) (cl : List (Str × Addr)) (fp : List Addr), PG (X.blk s H scope (compEnvC scope cl C X.env) fp) etg (RGw X.K tg)
  ht : ∀ (s : Shared) (H : Hp) (C : Addr) (cl : List (Str × Addr)) (fp : List Addr), PTs (X.blk s H scope (compEnvC scope cl C X.env) fp) ifs (RT W0 X.K (evE (ctxOf T k) cond))
  he : ∀ (s : Shared) (H : Hp) (C : Addr) (cl : List (Str × Addr)) (fp : List Addr), PE (X.blk s H scope (compEnvC scope cl C X.env) fp) eelt (RE W0 X.K (evE (ctxOf T k) elt))
  hs : ∀ x, foldedSetIterable eit X.env x = pure x
theorem c_lc (x : XOk T k N sc ws X W) {elt cond : E} {tg : Tg} {it : It} {eelt etg eit : Expr} {ifs : List Expr} {scope : Scope} {own : List (Str × Nat)} {p : Pos} (L : LcP W T k X elt tg it cond eelt etg eit ifs scope own) : SE W T k X (.lc elt tg it cond) (.ListComp eelt [⟨etg, eit, ifs, 0⟩] scope p) := by
  obtain ⟨wi, h1, h2⟩ := L.si
  refine se_mk (PE.mono (pe_lc x.calm (by rw [x.nN]; exact x.nd) h1 L.ok L.hg L.ht L.he L.hs) fun σ H Q q => ?_)
  rw [L.slots]
  refine h2 gend_ok ?_
  simp only [R.bind_pure]
  exact q
theorem c_lcT (x : XOk T k N sc ws X W) {elt cond : E} {tg : Tg} {it : It} {eelt etg eit : Expr} {ifs : List Expr} {scope : Scope} {own : List (Str × Nat)} {p : Pos} (L : LcP W T k X elt tg it cond eelt etg eit ifs scope own) : SE W T k X (.thw (.lc elt tg it cond)) (.ListComp eelt [⟨etg, eit, ifs, 0⟩] scope p) := by
  obtain ⟨wi, h1, h2⟩ := L.si
  refine ⟨PE.mono (pe_lc x.calm (by rw [x.nN]; exact x.nd) h1 L.ok L.hg L.ht L.he L.hs) fun σ H Q q => ?_, fun q => by cases q⟩
  rw [L.slots]
  refine h2 gend_thaw ?_
  obtain ⟨Z, m, S, σd, c, w⟩ := q
  refine ⟨Z, m, S, σd, c, ?_⟩
  rw [evE.eq_def] at w
  exact w
theorem c_frz {a : E} {e : Expr} (h : SE W T k X a e) : SE W T k X (.frz a) e := by
  refine ⟨PE.mono h.1 fun σ H Q ⟨Z, m, S, σd, c, w⟩ => ?_, fun q => by cases q⟩
  simp only [evE] at w
  exact ⟨Z, m, S, σd, c, WR.bind w fun d S1 m1 H1 v st rs r w1 => frz_D rs r w1⟩
theorem c_trk {a : E} {e : Expr} (h : SE W T k X a e) : SE W T k X (.trk a) e := by
  refine ⟨PE.mono h.1 fun σ H Q ⟨Z, m, S, σd, c, w⟩ => ?_, fun q => by cases q⟩
  simp only [evE] at w
  exact ⟨Z, m, S, σd, c, w⟩
theorem PSE (x : XOk T k N sc ws X W) {ir : E} {e : Expr} (h : SE W T k X ir e) : PE X e (RE W X.K (evE (ctxOf T k) ir)) := h.1
end
/-! ### every expression that fits is read by the evaluator -/
section
variable {T : Prg} {k : Nat}
mutual
theorem snd_E : ∀ (ir : E) {N : List Str} {sc ws : Scope} {X : Cx} {e : Expr} {W : WX}, XOk T k N sc ws X W → fitE N sc ws ir e = true → SE W T k X ir e
  | .var i, N, sc, ws, X, e, W, x, h => by
    cases e <;> simp only [fitE, Bool.false_eq_true] at h
    exact c_var x (by simpa only [fitE] using h)
  | .glob y, N, sc, ws, X, e, W, x, h => by
    cases e <;> simp only [fitE, Bool.false_eq_true] at h
    exact c_glob x (by simpa only [fitE] using h)
  | .ty n, N, sc, ws, X, e, W, x, h => by
    cases e <;> simp only [fitE, Bool.false_eq_true] at h
    exact c_ty x (by simpa only [fitE] using h)
  | .cint i, N, sc, ws, X, e, W, x, h => by
    cases e <;> try (simp only [fitE, Bool.false_eq_true] at h; done)
    rename_i cc kk pp
    cases cc <;> simp only [fitE, Bool.false_eq_true, decide_eq_true_eq] at h
    subst h
    refine se_mk (PE.mono pe_int fun σ H Q ⟨Z, m, S, σd, c, w⟩ => ?_)
    simp only [evE] at w
    exact WR.here w c.s (.int _)
  | .cstr i, N, sc, ws, X, e, W, x, h => by
    cases e <;> try (simp only [fitE, Bool.false_eq_true] at h; done)
    rename_i cc kk pp
    cases cc <;> simp only [fitE, Bool.false_eq_true, decide_eq_true_eq] at h
    subst h
    refine se_mk (PE.mono pe_str fun σ H Q ⟨Z, m, S, σd, c, w⟩ => ?_)
    simp only [evE] at w
    exact WR.here w c.s (.str _)
  | .cbl i, N, sc, ws, X, e, W, x, h => by
    cases e <;> try (simp only [fitE, Bool.false_eq_true] at h; done)
    rename_i cc kk pp
    cases cc <;> simp only [fitE, Bool.false_eq_true, decide_eq_true_eq] at h
    subst h
    refine se_mk (PE.mono pe_bl fun σ H Q ⟨Z, m, S, σd, c, w⟩ => ?_)
    simp only [evE] at w
    exact WR.here w c.s (.bl _)
  | .cnon, N, sc, ws, X, e, W, x, h => by
    cases e <;> try (simp only [fitE, Bool.false_eq_true] at h; done)
    rename_i cc kk pp
    cases cc <;> simp only [fitE, Bool.false_eq_true] at h
    refine se_mk (PE.mono pe_non fun σ H Q ⟨Z, m, S, σd, c, w⟩ => ?_)
    simp only [evE] at w
    exact WR.here w c.s .non
  | .bin op a b, N, sc, ws, X, e, W, x, h => by
    cases e <;> simp only [fitE, Bool.false_eq_true, Bool.and_eq_true] at h
    exact c_bin x h.1.1 (snd_E a x h.1.2) (snd_E b x h.2)
  | .neg a, N, sc, ws, X, e, W, x, h => by
    cases e <;> try (simp only [fitE, Bool.false_eq_true] at h; done)
    rename_i o _ _
    cases o <;> simp only [fitE, Bool.false_eq_true] at h
    exact c_neg x (snd_E a x h)
  | .not a, N, sc, ws, X, e, W, x, h => by
    cases e <;> try (simp only [fitE, Bool.false_eq_true] at h; done)
    rename_i o _ _
    cases o <;> simp only [fitE, Bool.false_eq_true] at h
    exact c_not x (snd_E a x h)
  | .cmp op a b, N, sc, ws, X, e, W, x, h => by
    cases e <;> try (simp only [fitE, Bool.false_eq_true] at h; done)
    rename_i l os bs p
    rcases os with _ | ⟨o, _ | ⟨o2, os⟩⟩ <;> rcases bs with _ | ⟨b1, _ | ⟨b2, bs⟩⟩ <;> simp only [fitE, Bool.false_eq_true, Bool.and_eq_true, Bool.not_eq_true'] at h
    exact c_cmp x h.1.1.1 h.2 (snd_E a x h.1.1.2) (snd_E b x h.1.2)
  | .chain op op2 a b c, N, sc, ws, X, e, W, x, h => by
    cases e <;> try (simp only [fitE, Bool.false_eq_true] at h; done)
    rename_i l os bs p
    rcases os with _ | ⟨o, _ | ⟨o2, _ | ⟨o3, os⟩⟩⟩ <;> rcases bs with _ | ⟨b1, _ | ⟨b2, _ | ⟨b3, bs⟩⟩⟩ <;> simp only [fitE, Bool.false_eq_true, Bool.and_eq_true, Bool.not_eq_true'] at h
    exact c_chain x h.1.1.1.1.1 h.1.1.1.1.2 h.2 (snd_E a x h.1.1.1.2) (snd_E b x h.1.1.2) (snd_E c x h.1.2)
  | .and1 a, N, sc, ws, X, e, W, x, h => by
    cases e <;> try (simp only [fitE, Bool.false_eq_true] at h; done)
    rename_i o es p
    cases o <;> rcases es with _ | ⟨e1, _ | ⟨e2, es⟩⟩ <;> simp only [fitE, Bool.false_eq_true] at h
    exact c_and1 x (snd_E a x h)
  | .and2 a b, N, sc, ws, X, e, W, x, h => by
    cases e <;> try (simp only [fitE, Bool.false_eq_true] at h; done)
    rename_i o es p
    cases o <;> rcases es with _ | ⟨e1, _ | ⟨e2, es⟩⟩ <;> simp only [fitE, Bool.false_eq_true, Bool.and_eq_true] at h
    exact c_and2 x h.1.2 (snd_E a x h.1.1) (snd_E b x h.2)
  | .or1 a, N, sc, ws, X, e, W, x, h => by
    cases e <;> try (simp only [fitE, Bool.false_eq_true] at h; done)
    rename_i o es p
    cases o <;> rcases es with _ | ⟨e1, _ | ⟨e2, es⟩⟩ <;> simp only [fitE, Bool.false_eq_true] at h
    exact c_or1 x (snd_E a x h)
  | .or2 a b, N, sc, ws, X, e, W, x, h => by
    cases e <;> try (simp only [fitE, Bool.false_eq_true] at h; done)
    rename_i o es p
    cases o <;> rcases es with _ | ⟨e1, _ | ⟨e2, es⟩⟩ <;> simp only [fitE, Bool.false_eq_true, Bool.and_eq_true] at h
    exact c_or2 x h.1.2 (snd_E a x h.1.1) (snd_E b x h.2)
  | .ife t a b, N, sc, ws, X, e, W, x, h => by
    cases e <;> simp only [fitE, Bool.false_eq_true, Bool.and_eq_true] at h
    exact c_ife x ((snd_E t x h.1.1.2).2 h.1.1.1).1 (snd_E a x h.1.2) (snd_E b x h.2)
  | .tup es, N, sc, ws, X, e, W, x, h => by
    cases e <;> simp only [fitE, Bool.false_eq_true] at h
    exact c_tup x (snd_Es es x h)
  | .lst es, N, sc, ws, X, e, W, x, h => by
    cases e <;> simp only [fitE, Bool.false_eq_true] at h
    exact c_lst x (snd_Es es x h)
  | .lstM es, N, sc, ws, X, e, W, x, h => by
    cases e <;> simp only [fitE, Bool.false_eq_true] at h
    exact c_lstM x (snd_Es es x h)
  | .ix a i, N, sc, ws, X, e, W, x, h => by
    cases e <;> simp only [fitE, Bool.false_eq_true, Bool.and_eq_true] at h
    exact c_ix x h.2 (snd_E a x h.1.1) (snd_E i x h.1.2)
  | .sl a lo hi, N, sc, ws, X, e, W, x, h => by
    cases e <;> try (simp only [fitE, Bool.false_eq_true] at h; done)
    rename_i v s p
    cases s <;> try (simp only [fitE, Bool.false_eq_true] at h; done)
    rename_i l u st p2
    cases st <;> simp only [fitE, Bool.false_eq_true, Bool.and_eq_true] at h
    refine c_sl x (snd_E a x h.1.1) (po_E ?_) (po_E ?_)
    · cases l with
      | none => exact h.1.2
      | some e =>
        have h := h.1.2
        simp only [Bool.and_eq_true, Bool.not_eq_true'] at h
        exact ⟨h.1, (snd_E lo x h.2).1⟩
    · cases u with
      | none => exact h.2
      | some e =>
        have h := h.2
        simp only [Bool.and_eq_true, Bool.not_eq_true'] at h
        exact ⟨h.1, (snd_E hi x h.2).1⟩
  | .nop, N, sc, ws, X, e, W, x, h => by simp [fitE] at h
  | .call y0 f es, N, sc, ws, X, e, W, x, h => by
    cases e <;> try (simp only [fitE, Bool.false_eq_true] at h; done)
    rename_i fn args kws p
    cases fn <;> try (simp only [fitE, Bool.false_eq_true] at h; done)
    rename_i y p1
    rcases kws with _ | ⟨k1, ks⟩ <;> rcases args with _ | ⟨e1, ees⟩ <;> try (simp only [fitE, Bool.false_eq_true] at h; done)
    · cases es with
      | nil =>
        simp only [fitE, Bool.and_eq_true, decide_eq_true_eq] at h
        obtain ⟨rfl, h1⟩ := h
        exact c_call0 x h1
      | cons _ _ => simp only [fitE, Bool.false_eq_true] at h
    · simp only [fitE, Bool.and_eq_true, decide_eq_true_eq] at h
      obtain ⟨⟨rfl, h1⟩, h2⟩ := h
      exact c_call x h1 h2 (snd_Es es x h2)
  | .blt f es, N, sc, ws, X, e, W, x, h => by
    cases e <;> try (simp only [fitE, Bool.false_eq_true] at h; done)
    rename_i fn args kws p
    cases fn <;> try (simp only [fitE, Bool.false_eq_true] at h; done)
    rename_i y p1
    rcases args with _ | ⟨e1, ees⟩ <;> rcases kws with _ | ⟨k1, ks⟩ <;> simp only [fitE, Bool.false_eq_true, Bool.and_eq_true, decide_eq_true_eq] at h
    obtain ⟨⟨rfl, h1⟩, h2⟩ := h
    exact c_blt x h1 h2 (snd_Es es x h2)
  | .bltM f es, N, sc, ws, X, e, W, x, h => by
    cases e <;> try (simp only [fitE, Bool.false_eq_true] at h; done)
    rename_i fn args kws p
    cases fn <;> try (simp only [fitE, Bool.false_eq_true] at h; done)
    rename_i y p1
    rcases args with _ | ⟨e1, ees⟩ <;> rcases kws with _ | ⟨k1, ks⟩ <;> simp only [fitE, Bool.false_eq_true, Bool.and_eq_true, decide_eq_true_eq] at h
    obtain ⟨⟨⟨rfl, h1⟩, h2⟩, rfl⟩ := h
    exact c_bltM x h1 h2 (snd_Es es x h2)
  | .meth mt a es, N, sc, ws, X, e, W, x, h => by
    cases e <;> try (simp only [fitE, Bool.false_eq_true] at h; done)
    rename_i fn args kws p
    cases fn <;> try (simp only [fitE, Bool.false_eq_true] at h; done)
    rename_i y nm p1
    rcases args with _ | ⟨e1, ees⟩ <;> rcases kws with _ | ⟨k1, ks⟩ <;> simp only [fitE, Bool.false_eq_true, Bool.and_eq_true, decide_eq_true_eq] at h
    obtain ⟨⟨⟨⟨⟨rfl, h1⟩, h2⟩, h3⟩, h4⟩, h5⟩ := h
    exact c_meth x h1 h4 h5 (snd_E a x h2) h3 (snd_Es es x h3)
  | .lc elt tg it cond, N, sc, ws, X, e, W, x, h => by
    cases e <;> try (simp only [fitE, Bool.false_eq_true] at h; done)
    rename_i eelt gens scope p
    rcases gens with _ | ⟨⟨etg, eit, ifs, asy⟩, _ | ⟨g2, gs⟩⟩ <;> simp only [fitE, Bool.false_eq_true, Bool.and_eq_true, decide_eq_true_eq] at h
    obtain ⟨⟨⟨⟨⟨⟨rfl, h1⟩, h2⟩, h3⟩, h4⟩, h5⟩, h6⟩ := h
    refine c_lc x (own := ownOf tg etg) ⟨?_, by rw [x.nN, x.sc]; exact blkOk_by h2, h1, fun s H C cl fp => pg_tgW (xok_blk x s H C cl fp) h3, fun s H C cl fp => ?_, fun s H C cl fp => (snd_E elt (xok_blk x s H C cl fp) h6).1, foldedI_of h4⟩
    · exact snd_It it x h4
    · rcases ifs with _ | ⟨c, _ | ⟨c2, cs⟩⟩
      · have : cond = .cbl true := by
          simp only at h5
          split at h5
          · rfl
          · cases h5
        subst this
        exact PTs.mono pts_nil fun σ H Q q => rt_true q
      · simp only [Bool.and_eq_true] at h5
        exact pts_one ((snd_E cond (xok_blk x s H C cl fp) h5.2).2 h5.1).1
      · simp at h5
  | .binM a b, N, sc, ws, X, e, W, x, h => by
    cases e <;> try (simp only [fitE, Bool.false_eq_true] at h; done)
    rename_i l o r p
    cases o <;> simp only [fitE, Bool.false_eq_true, Bool.and_eq_true] at h
    exact c_binM x (snd_E a x h.1) (snd_E b x h.2)
  | .rev a, N, sc, ws, X, e, W, x, h => by
    cases e <;> simp only [fitE, Bool.false_eq_true, Bool.and_eq_true] at h
    exact c_rev x h.1.1 h.1.2 (snd_E a x h.2)
  | .trk a, N, sc, ws, X, e, W, x, h => by
    simp only [fitE] at h
    exact c_trk (snd_E a x h)
  | .frz a, N, sc, ws, X, e, W, x, h => by
    simp only [fitE] at h
    exact c_frz (snd_E a x h)
  | .fld a f, N, sc, ws, X, e, W, x, h => by
    cases e <;> simp only [fitE, Bool.false_eq_true, Bool.and_eq_true, decide_eq_true_eq] at h
    obtain ⟨⟨rfl, h1⟩, h2⟩ := h
    exact c_fld x h1 (snd_E a x h2)
  | .prop a f, N, sc, ws, X, e, W, x, h => by
    cases e <;> simp only [fitE, Bool.false_eq_true, Bool.and_eq_true, decide_eq_true_eq] at h
    obtain ⟨⟨rfl, h1⟩, h2⟩ := h
    exact c_prop x h1 (snd_E a x h2)
  | .mc m v a es, N, sc, ws, X, e, W, x, h => by
    cases e <;> try (simp only [fitE, Bool.false_eq_true] at h; done)
    rename_i fn args kws p
    cases fn <;> try (simp only [fitE, Bool.false_eq_true] at h; done)
    rename_i y nm p1
    rcases kws with _ | ⟨k1, ks⟩ <;> simp only [fitE, Bool.false_eq_true, Bool.and_eq_true, decide_eq_true_eq] at h
    obtain ⟨⟨⟨⟨⟨rfl, h1⟩, h2⟩, h3⟩, h4⟩, h5⟩ := h
    exact c_mc x h1 h4 h5 (snd_E a x h2) h3 (snd_Es es x h3)
  | .o1 w a, N, sc, ws, X, e, W, x, h => by
    cases w
    · cases e <;> try (simp only [fitE, Bool.false_eq_true] at h; done)
      rename_i fn args kws p
      cases fn <;> try (simp only [fitE, Bool.false_eq_true] at h; done)
      rename_i y p1
      rcases args with _ | ⟨e1, _ | ⟨e2, ees⟩⟩ <;> rcases kws with _ | ⟨k1, ks⟩ <;> simp only [fitE, Bool.false_eq_true, Bool.and_eq_true, decide_eq_true_eq] at h
      obtain ⟨⟨rfl, h1⟩, h2⟩ := h
      exact c_o1b x (.inl ⟨rfl, rfl⟩) h1 h2 (snd_E a x h2)
    · cases e <;> try (simp only [fitE, Bool.false_eq_true] at h; done)
      rename_i fn args kws p
      cases fn <;> try (simp only [fitE, Bool.false_eq_true] at h; done)
      rename_i y p1
      rcases args with _ | ⟨e1, _ | ⟨e2, ees⟩⟩ <;> rcases kws with _ | ⟨k1, ks⟩ <;> simp only [fitE, Bool.false_eq_true, Bool.and_eq_true, decide_eq_true_eq] at h
      obtain ⟨⟨rfl, h1⟩, h2⟩ := h
      exact c_o1b x (.inr ⟨rfl, rfl⟩) h1 h2 (snd_E a x h2)
    · cases e <;> try (simp only [fitE, Bool.false_eq_true] at h; done)
      rename_i o _ _
      cases o <;> simp only [fitE, Bool.false_eq_true] at h
      exact c_o1u x (.inl ⟨rfl, rfl⟩) (snd_E a x h)
    · cases e <;> try (simp only [fitE, Bool.false_eq_true] at h; done)
      rename_i o _ _
      cases o <;> simp only [fitE, Bool.false_eq_true] at h
      exact c_o1u x (.inr ⟨rfl, rfl⟩) (snd_E a x h)
  | .o2 w a b, N, sc, ws, X, e, W, x, h => by
    cases e <;> try (simp only [fitE, Bool.false_eq_true] at h; done)
    rename_i l os bs p
    rcases os with _ | ⟨o, _ | ⟨o2, os⟩⟩ <;> rcases bs with _ | ⟨b1, _ | ⟨b2, bs⟩⟩ <;> simp only [fitE, Bool.false_eq_true, Bool.and_eq_true, Bool.not_eq_true'] at h
    exact c_o2 x h.1.1.1 h.2 (snd_E a x h.1.1.2) (snd_E b x h.1.2)
  | .oe a b, N, sc, ws, X, e, W, x, h => by
    cases e <;> try (simp only [fitE, Bool.false_eq_true] at h; done)
    rename_i l os bs p
    rcases os with _ | ⟨o, _ | ⟨o2, os⟩⟩ <;> rcases bs with _ | ⟨b1, _ | ⟨b2, bs⟩⟩ <;> simp only [fitE, Bool.false_eq_true, Bool.and_eq_true, Bool.not_eq_true', decide_eq_true_eq] at h
    obtain ⟨⟨⟨rfl, h1⟩, h2⟩, h3⟩ := h
    exact c_oe x h3 (snd_E a x h1) (snd_E b x h2)
  | .isc c a, N, sc, ws, X, e, W, x, h => by
    cases e <;> try (simp only [fitE, Bool.false_eq_true] at h; done)
    rename_i fn args kws p
    cases fn <;> try (simp only [fitE, Bool.false_eq_true] at h; done)
    rename_i y p1
    rcases args with _ | ⟨e1, _ | ⟨e2, _ | ⟨e3, ees⟩⟩⟩ <;> rcases kws with _ | ⟨k1, ks⟩ <;> try (simp only [fitE, Bool.false_eq_true] at h; done)
    cases e2 <;> simp only [fitE, Bool.false_eq_true, Bool.and_eq_true, decide_eq_true_eq] at h
    obtain ⟨⟨⟨⟨rfl, h1⟩, rfl⟩, h2⟩, h3⟩ := h
    exact c_isc x h1 h2 h3 (snd_E a x h3)
  | .thw (.lc elt tg it cond), N, sc, ws, X, e, W, x, h => by
    cases e <;> try (simp only [fitE, Bool.and_false, Bool.false_eq_true] at h; done)
    rename_i eelt gens scope p
    rcases gens with _ | ⟨⟨etg, eit, ifs, asy⟩, _ | ⟨g2, gs⟩⟩ <;> simp only [fitE, Bool.false_eq_true, Bool.and_false, Bool.and_eq_true, decide_eq_true_eq] at h
    obtain ⟨h0, ⟨⟨⟨⟨⟨⟨rfl, h1⟩, h2⟩, h3⟩, h4⟩, h5⟩, h6⟩⟩ := h
    refine c_lcT x (own := ownOf tg etg) ⟨?_, by rw [x.nN, x.sc]; exact blkOk_by h2, h1, fun s H C cl fp => pg_tgW (xok_blk x s H C cl fp) h3, fun s H C cl fp => ?_, fun s H C cl fp => (snd_E elt (xok_blk x s H C cl fp) h6).1, foldedI_of h4⟩
    · exact snd_It it x h4
    · rcases ifs with _ | ⟨c, _ | ⟨c2, cs⟩⟩
      · have : cond = .cbl true := by
          simp only at h5
          split at h5
          · rfl
          · cases h5
        subst this
        exact PTs.mono pts_nil fun σ H Q q => rt_true q
      · simp only [Bool.and_eq_true] at h5
        exact pts_one ((snd_E cond (xok_blk x s H C cl fp) h5.2).2 h5.1).1
      · simp at h5
  | .thw (.var _), N, sc, ws, X, e, W, x, h => by simp [fitE, E.isLc] at h
  | .thw (.glob _), N, sc, ws, X, e, W, x, h => by simp [fitE, E.isLc] at h
  | .thw (.ty _), N, sc, ws, X, e, W, x, h => by simp [fitE, E.isLc] at h
  | .thw (.cint _), N, sc, ws, X, e, W, x, h => by simp [fitE, E.isLc] at h
  | .thw (.cstr _), N, sc, ws, X, e, W, x, h => by simp [fitE, E.isLc] at h
  | .thw (.cbl _), N, sc, ws, X, e, W, x, h => by simp [fitE, E.isLc] at h
  | .thw (.cnon), N, sc, ws, X, e, W, x, h => by simp [fitE, E.isLc] at h
  | .thw (.bin _ _ _), N, sc, ws, X, e, W, x, h => by simp [fitE, E.isLc] at h
  | .thw (.neg _), N, sc, ws, X, e, W, x, h => by simp [fitE, E.isLc] at h
  | .thw (.not _), N, sc, ws, X, e, W, x, h => by simp [fitE, E.isLc] at h
  | .thw (.cmp _ _ _), N, sc, ws, X, e, W, x, h => by simp [fitE, E.isLc] at h
  | .thw (.chain _ _ _ _ _), N, sc, ws, X, e, W, x, h => by simp [fitE, E.isLc] at h
  | .thw (.and1 _), N, sc, ws, X, e, W, x, h => by simp [fitE, E.isLc] at h
  | .thw (.and2 _ _), N, sc, ws, X, e, W, x, h => by simp [fitE, E.isLc] at h
  | .thw (.or1 _), N, sc, ws, X, e, W, x, h => by simp [fitE, E.isLc] at h
  | .thw (.or2 _ _), N, sc, ws, X, e, W, x, h => by simp [fitE, E.isLc] at h
  | .thw (.ife _ _ _), N, sc, ws, X, e, W, x, h => by simp [fitE, E.isLc] at h
  | .thw (.tup _), N, sc, ws, X, e, W, x, h => by simp [fitE, E.isLc] at h
  | .thw (.lst _), N, sc, ws, X, e, W, x, h => by simp [fitE, E.isLc] at h
  | .thw (.lstM _), N, sc, ws, X, e, W, x, h => by simp [fitE, E.isLc] at h
  | .thw (.ix _ _), N, sc, ws, X, e, W, x, h => by simp [fitE, E.isLc] at h
  | .thw (.sl _ _ _), N, sc, ws, X, e, W, x, h => by simp [fitE, E.isLc] at h
  | .thw (.nop), N, sc, ws, X, e, W, x, h => by simp [fitE, E.isLc] at h
  | .thw (.call _ _ _), N, sc, ws, X, e, W, x, h => by simp [fitE, E.isLc] at h
  | .thw (.blt _ _), N, sc, ws, X, e, W, x, h => by simp [fitE, E.isLc] at h
  | .thw (.bltM _ _), N, sc, ws, X, e, W, x, h => by simp [fitE, E.isLc] at h
  | .thw (.meth _ _ _), N, sc, ws, X, e, W, x, h => by simp [fitE, E.isLc] at h
  | .thw (.frz _), N, sc, ws, X, e, W, x, h => by simp [fitE, E.isLc] at h
  | .thw (.binM _ _), N, sc, ws, X, e, W, x, h => by simp [fitE, E.isLc] at h
  | .thw (.rev _), N, sc, ws, X, e, W, x, h => by simp [fitE, E.isLc] at h
  | .thw (.fld _ _), N, sc, ws, X, e, W, x, h => by simp [fitE, E.isLc] at h
  | .thw (.prop _ _), N, sc, ws, X, e, W, x, h => by simp [fitE, E.isLc] at h
  | .thw (.mc _ _ _ _), N, sc, ws, X, e, W, x, h => by simp [fitE, E.isLc] at h
  | .thw (.o1 _ _), N, sc, ws, X, e, W, x, h => by simp [fitE, E.isLc] at h
  | .thw (.o2 _ _ _), N, sc, ws, X, e, W, x, h => by simp [fitE, E.isLc] at h
  | .thw (.kc _ _), N, sc, ws, X, e, W, x, h => by simp [fitE, E.isLc] at h
  | .thw (.oe _ _), N, sc, ws, X, e, W, x, h => by simp [fitE, E.isLc] at h
  | .thw (.isc _ _), N, sc, ws, X, e, W, x, h => by simp [fitE, E.isLc] at h
  | .thw (.trk _), N, sc, ws, X, e, W, x, h => by simp [fitE, E.isLc] at h
  | .thw (.thw _), N, sc, ws, X, e, W, x, h => by simp [fitE, E.isLc] at h
  | .kc c f, N, sc, ws, X, e, W, x, h => by
    cases e <;> try (simp only [fitE, Bool.false_eq_true] at h; done)
    rename_i v nm p
    cases v <;> simp only [fitE, Bool.false_eq_true, Bool.and_eq_true, decide_eq_true_eq] at h
    obtain ⟨⟨rfl, rfl⟩, h3⟩ := h
    exact c_kc x h3
theorem snd_Es : ∀ (irs : Es) {N : List Str} {sc ws : Scope} {X : Cx} {es : List Expr} {W : WX}, XOk T k N sc ws X W → fitEs N sc ws irs es = true → PA X es (RA W X.K (evEs (ctxOf T k) irs))
  | .nil, N, sc, ws, X, es, W, x, h => by
    cases es <;> simp only [fitEs, Bool.false_eq_true] at h
    refine PA.mono pa_nil fun σ H Q ⟨Z, m, S, σd, c, w⟩ => ?_
    simp only [evEs] at w
    exact WR.here w c.s .nil
  | .cons ir irs, N, sc, ws, X, es, W, x, h => by
    cases es <;> simp only [fitEs, Bool.false_eq_true, Bool.and_eq_true] at h
    exact pa_mono_cons h.1 (snd_E ir x h.1).1 (snd_Es irs x h.2)
theorem snd_It : ∀ (it : It) {N : List Str} {sc ws : Scope} {X : Cx} {tg e : Expr} {W : WX}, XOk T k N sc ws X W → fitIt N sc ws it e = true → SI W T k X it tg e
  | .seq a, N, sc, ws, X, tg, e, W, x, h => by
    simp only [fitIt] at h
    exact si_seq x (snd_E a x h).1
  | .rng1 a, N, sc, ws, X, tg, e, W, x, h => by
    cases e <;> try (simp only [fitIt, Bool.false_eq_true] at h; done)
    rename_i fn args kws p
    cases fn <;> try (simp only [fitIt, Bool.false_eq_true] at h; done)
    rename_i y p1
    rcases args with _ | ⟨e1, _ | ⟨e2, ees⟩⟩ <;> rcases kws with _ | ⟨k1, ks⟩ <;> simp only [fitIt, Bool.false_eq_true, Bool.and_eq_true, decide_eq_true_eq] at h
    obtain ⟨⟨rfl, h1⟩, h2⟩ := h
    exact si_rng1 x h1 h2 (snd_E a x h2).1
  | .rng2 a b, N, sc, ws, X, tg, e, W, x, h => by
    cases e <;> try (simp only [fitIt, Bool.false_eq_true] at h; done)
    rename_i fn args kws p
    cases fn <;> try (simp only [fitIt, Bool.false_eq_true] at h; done)
    rename_i y p1
    rcases args with _ | ⟨e1, _ | ⟨e2, _ | ⟨e3, ees⟩⟩⟩ <;> rcases kws with _ | ⟨k1, ks⟩ <;> simp only [fitIt, Bool.false_eq_true, Bool.and_eq_true, decide_eq_true_eq] at h
    obtain ⟨⟨⟨rfl, h1⟩, h2⟩, h3⟩ := h
    exact si_rng2 x h1 h2 h3 (snd_E a x h2).1 (snd_E b x h3).1
end
end
end Ev

namespace Ev
open PySem L2
/-! ### C(e, ..), C an exception class with an __init__ of its own, raised where nothing is handled -/
theorem mkN {X : Cx} {pins : List (Addr × Obj)} {σ : St} {H1 H2 : Hp} {Q : XK} {hp hp2 h2 : Heap} {g1 g2 : Array GenState} {d1 d2 : Drawn} {t1 t2 : Nat} {os1 os2 : OsState} {a C d : Addr} {fs : List (Str × V)}
    (ra : Raises X (.ref C)) (I1 : Inv X pins σ H1 ⟨hp, g1, d1, t1, os1⟩) (ha : hp.objs.size ≤ a) (kp : ∀ b o, hp.get? b = some o → hp2.get? b = some o)
    (un : Un (frs X.stack) [] (upd H1 a (exo a C none)) H2 hp2 h2) (hok : HOk X.prog X.w H2 h2) (ho : os2 = os1) (hb : PyProof.Rows.AllBare g2)
    (ea : H2 a = some (exo a C (some d))) (ed : H2 d = some (exd d fs)) (hd1 : H1 d = none) (q : Q (.ref C) (some d) (upd (del H2 a) d (.xd fs))) :
    L2N.MkP X pins σ Q (.ref a) ⟨h2, g2, d2, t2, os2⟩ := by
  obtain ⟨t0, G, J, kG, ge, hoe, na⟩ := mk_end0 (d2 := d2) (t2 := t2) I1 ha kp un hok ho hb ea ed hd1
  have hz : L2N.Zn (.ref C) (some d) ({ cls := .ref C, dict := some d, data := .fields #[.ref t0, .none, .none, .none, .bool false, .none] } : Obj) := ⟨rfl, rfl, fun vs e => by
    have e' : (Data.fields #[.ref t0, .none, .none, .none, .bool false, .none] : Data) = .fields vs := e
    injection e' with e'
    rw [← e']
    rfl⟩
  refine ⟨a, _, _, ⟨G, g2, d2, t2, os2⟩, _, .ref C, some d, rfl, J, kG, ge, hoe, hz, rfl, rfl, na, rfl, hb, ra, q⟩
section
variable {X : Cx} {e : Expr} {es : List Expr} {ta : TA} {p pos : Pos}
theorem pmkN {CX : CXT} {x : Str} {C fI : Addr} {k : Nat} {fd : FuncData} {ps : List Str} {sp : Sp} (T : OexC X.K C)
    (iC : PySem.W.findIn X.K (.ref C) "__init__" = some (some (.ref fI))) (tI : PySem.W.typeIn X.K (.ref fI) = some (.type "function"))
    (F1 : FnOk X.prog X.w X.K X.mg X.base CX k fI fd ps sp) (hr : Room (k + 1) X.A) (hb : Binds X.K fd ps []) (hx : Passes CX X (fun _ _ _ => False)) (hg : Gl X x) (hm : X.mg x = some (.ref C)) (ha : PA X (e :: es) ta)
    (hdb : (x == ("__debug__" : Str)) = false) (he : starEach (e :: es) X.env = (false, eval e X.env) :: starEach es X.env) (hpl : (backTo pos (starEach es X.env)).any (·.1) = false) :
    L2N.PMk X (.Call (.Name x p) (e :: es) [] pos) (tMkO C sp [] ta) := by
  intro pins s σ H Q I h
  obtain ⟨nm, qn, Na, bs, bm, sn, sub, ab, col, dd, k0, k1, k2, k3, k5, hC, hbm⟩ := T.cls
  have fin : ∀ us s1, (∃ vs H1, Inv X pins σ H1 s1 ∧ Vals vs us ∧ (vs.length ≤ 1000 ∧ ∀ a, H1 a = none → sp (.ref a :: (vs ++ [])) (upd H1 a (exo a C none))
      (fun v H2 => v = .non ∧ ∃ (d : Addr) (fs : List (Str × V)), H2 a = some (exo a C (some d)) ∧ H2 d = some (exd d fs) ∧ H1 d = none ∧ Q (.ref C) (some d) (upd (del H2 a) d (.xd fs))) (fun _ _ _ => False))) →
      X.K.In s1.heap ∧ wpAny (model X.prog X.w) X.A (call (.ref C) us) (L2N.MkP X pins σ Q) X.xe s1 := by
    rintro us s1 ⟨vs, H1, I1, r1, hz, q1⟩
    refine ⟨I1.kIn, ?_⟩
    obtain ⟨hp, g, dr, tk, os⟩ := s1
    have an : H1 (hp.objs.size + 1) = none := I1.hok.fresh (Nat.le_succ _)
    have hq := q1 (hp.objs.size + 1) an
    rw [List.append_nil] at hq
    have kk : ∀ b o, hp.get? b = some o → ((hp.push (PySem.W.kdv_tup us)).push (PySem.HandSPX.excO C hp.objs.size)).get? b = some o := fun b o z =>
      Heap.get?_push_of_some _ (Heap.get?_push_of_some _ z)
    have hget : ((hp.push (PySem.W.kdv_tup us)).push (PySem.HandSPX.excO C hp.objs.size)).get? (hp.objs.size + 1) = some (PySem.HandSPX.excO C hp.objs.size) := by
      heap_get
    have I2 := I1.laid (t' := tk) (a := hp.objs.size + 1) (o := exo (hp.objs.size + 1) C none) (h' := (hp.push (PySem.W.kdv_tup us)).push (PySem.HandSPX.excO C hp.objs.size)) kk (Nat.le_succ _) (exo_ok hget)
    have r2 : Vals (V.ref (hp.objs.size + 1) :: vs) (Value.ref (hp.objs.size + 1) :: us) := .cons rfl r1
    have hl : (Value.ref (hp.objs.size + 1) :: us ++ []).length = ps.length := by
      have z := r2.length
      rw [F1.len _ _ _ _ hq] at z
      rw [List.append_nil]
      exact z.symm
    have hus : us.length ≤ sizeLine := by
      have := sizeLine_eq
      have := Paired.length r1
      omega
    have bb := hb _ (Value.ref (hp.objs.size + 1) :: us) I2.kIn hl
    rw [List.append_nil] at bb
    refine wpAny_call (PySem.HandSPX.call_own PySem.F.excBase_ValueError (fun Y => PySem.HandSPX.refsVE_contains Y bm hbm) (I1.kIn _ _ hC) (PySem.W.looks_findIn I1.kIn iC) (fun self => PySem.W.bind_fn I1.kIn self tI) hus ?_)
    have run := F1.run _ X.stack _ _ ⟨Value.ref (hp.objs.size + 1) :: us, []⟩ (Value.ref (hp.objs.size + 1) :: us) _ _ (fun _ _ _ => False) (hr.make C us []) (I2.env0.make C us []) bb r2 hq
    refine codeAny_mono run fun r s' hq' => ?_
    rcases r with er | fl
    · exact hx pins σ _ _ er s' I2 hq'
    · cases fl with
      | ret u =>
        obtain ⟨v, H2, os2, bare2, un2, hok2, rv, ev, d, fs, ea, ed, hd1, q2⟩ := hq'
        subst ev
        obtain ⟨h2, g2, d2, t2, os'⟩ := s'
        exact ⟨rv, mkN (raises_own T.exC T.tyC) I1 (Nat.le_succ _) kk un2 hok2 os2 bare2 ea ed hd1 q2⟩
      | next => exact hq'.elim
      | brk => exact hq'.elim
      | cont => exact hq'.elim
  refine wpAny_Call_Name_kw (ld_glob I hg hm ?_ hdb)
  exact PySem.W.callWith_K (h₀ := X.base) I.ok.mod.kin T.kC (thn (ha.run pos pins s σ H _ I h) fun us s1 hh => fin us s1 hh) he hpl
end
end Ev

namespace Ev
open PySem L2
/-! ### the suite of an except clause -/
theorem Cf.forget {K : PySem.W.Frag} {Z m : List Addr} {S : Sto} {H : Hp} {σd : Sg} {σ : St} (c : Cf K Z m S H σd σ) (i : Nat) (o : Option V) : Cf K Z m S H (σd.set i none) (σ.set i o) := by
  refine ⟨c.s, by simp [c.len], fun j d e => ?_⟩
  by_cases h : i = j
  · subst h
    by_cases hl : i < σd.length
    · rw [List.getElem?_set_self hl] at e; cases e
    · rw [List.getElem?_eq_none (by simpa using hl)] at e; cases e
  · rw [List.getElem?_set_ne h] at e ⊢
    exact c.get j d e
/-- what holds of the handled exception: its class is named c, its fields are fs -/
structure Hd (T : Prg) (K : PySem.W.Frag) (Z m : List Addr) (S : Sto) (H : Hp) (cls : Value) (d : Option Addr) (c : Str) (fs : List (Str × D)) : Prop where
  cls : cls = .ref (He.ga K c)
  xf : XF K Z m S H fs d
  exc : ∃ o, T.exc.lookup c = some o
theorem Hd.step {T : Prg} {K : PySem.W.Frag} {Z m m' : List Addr} {S S' : Sto} {H H' : Hp} {cls : Value} {d : Option Addr} {c : Str} {fs : List (Str × D)} (h : Hd T K Z m S H cls d c fs) (st : Step m S H m' S' H') : Hd T K Z m' S' H' cls d c fs := ⟨h.cls, h.xf.mono st, h.exc⟩
def RH (T : Prg) (K : PySem.W.Frag) (i : Nat) (a : Addr) (cls : Value) (d : Option Addr) (f : Str → List (Str × D) → Sg → Sto → R D) : TE := fun σ H Q =>
  ∃ Z m S σd c fs, Cf K Z m S H σd σ ∧ (i < σ.length → σ[i]? = some (some (.ref a))) ∧ Hd T K Z m S H cls d c fs ∧ WR (fun _ _ _ => False) K Z (RelD K Z) m S H Q (f c fs σd S)
def RHs (T : Prg) (K : PySem.W.Frag) (i : Nat) (a : Addr) (cls : Value) (d : Option Addr) (f : Str → List (Str × D) → Sg → Sto → R (List D)) : TA := fun σ H Q =>
  ∃ Z m S σd c fs, Cf K Z m S H σd σ ∧ (i < σ.length → σ[i]? = some (some (.ref a))) ∧ Hd T K Z m S H cls d c fs ∧ WR (fun _ _ _ => False) K Z (RelDs K Z) m S H Q (f c fs σd S)
section
variable {T : Prg} {k : Nat} {N : List Str} {sc : Scope} {X : Cx} {W : WX} {i : Nat} {n : Str} {a : Addr} {oe : Obj} {cls : Value} {d : Option Addr} {pn : List (Addr × Obj)}
/-- the exception's name in the suite -/
structure Nm (X : Cx) (N : List Str) (sc : Scope) (i : Nat) (n : Str) : Prop where
  at_ : N[i]? = some n
  vis : visB sc n = true
  nd : (n == ("__debug__" : Str)) = false
  nc : (n == ("__classdict__" : Str)) = false
theorem pe_nm (x : XOk T k N sc sc X W) (hn : Nm X N sc i n) {p : Pos} : PE (X.suite a ((a, oe) :: pn)) (.Name n p) (fun σ H Q => ∃ v, σ[i]? = some (some v) ∧ Q v H) :=
  PE.mono (pe_var (X := X.suite a ((a, oe) :: pn)) (i := i) (by show X.N[i]? = _; rw [x.nN]; exact hn.at_) (by show Vis X.env.scope n; rw [x.sc]; exact visB_of hn.vis) hn.nd hn.nc) fun σ H Q ⟨v, h1, h2⟩ => ⟨v, h1, h2⟩
theorem h_fld (x : XOk T k N sc sc X W) (hn : Nm X N sc i n) (hz : L2N.Zn cls d oe) (hf : ∃ vs, oe.data = .fields vs) {f : Str} {p p2 : Pos} :
    PE (X.suite a ((a, oe) :: pn)) (.Attribute (.Name n p) f p2) (RH T X.K i a cls d fun c fs => evH (ctxOf T k) c fs (.fld f)) := by
  refine ⟨fun pins s σ H Q I ⟨Z, m, S, σd, c, fs, cf, hi0, hd, w⟩ => ?_⟩
  have hi := hi0 (by rw [I.len]; show i < X.N.length; rw [x.nN]; exact (List.getElem?_eq_some_iff.mp hn.at_).1)
  simp only [evH] at w
  obtain ⟨o, ho⟩ := hd.exc
  cases hk : (ctxOf T k).fok c f with
  | false => rw [hk] at w; exact w.elim
  | true =>
    rw [hk, gd_t] at w
    cases o with
    | none => simp [Ctx.fok, ctx_exc, ho] at hk
    | some ps =>
      simp only [Ctx.fok, ctx_exc, ho, decide_eq_true_eq] at hk
      have hno := (x.wld.raz c ps ho).2 f hk
      cases el : fs.lookup f with
      | none => rw [el] at w; exact w.elim
      | some y =>
        rw [el, ofOpt_some] at w
        have hx := hd.xf
        cases hx with
        | no => simp at el
        | @«at» dd _ vs h1 n1 z1 r1 =>
          obtain ⟨v, lv, rv⟩ := r1.get el
          exact (pe_xf (C := He.ga X.K c) (x.wld.cls c _ ho).xfC hno hz.zc hf (pe_nm x hn) (by rfl)).run pins s σ H Q I ⟨_, hi, rfl, hd.cls, dd, vs, v, rfl, h1, lv, WR.here w cf.s rv⟩
theorem h_kin (x : XOk T k N sc sc X W) (hn : Nm X N sc i n) (hk2 : 2 ≤ k) (hz : L2N.Zn cls d oe) (hf : ∃ vs, oe.data = .fields vs) {f : Str} {p p2 p3 : Pos} (hg : glB sc f = true) :
    PE (X.suite a ((a, oe) :: pn)) (.Call (.Name f p) [.Name n p2] [] p3) (RH T X.K i a cls d fun c fs => evH (ctxOf T k) c fs (.kinds f)) := by
  obtain ⟨g1, g2⟩ := gl_of x hg
  refine ⟨fun pins s σ H Q I ⟨Z, m, S, σd, c, fs, cf, hi0, hd, w⟩ => ?_⟩
  have hi := hi0 (by rw [I.len]; show i < X.N.length; rw [x.nN]; exact (List.getElem?_eq_some_iff.mp hn.at_).1)
  simp only [evH, ctx_kin] at w
  split at w
  · rename_i hq
    obtain ⟨rfl, hl⟩ := hq
    obtain ⟨o, ho⟩ := hd.exc
    obtain ⟨fa, fd, qs, m1, kp, b, kin⟩ := x.wld.kin c o ho
    obtain ⟨len, run⟩ := kin a d
    have hpa : PA (X.suite a ((a, oe) :: pn)) [.Name n p2] (tCons (fun σ H Q => ∃ v, σ[i]? = some (some v) ∧ Q v H) tNil) := pa_cons (pe_nm x hn) pa_nil
    refine wpAny_Call_Name_kw (ld_glob (X := X.suite a ((a, oe) :: pn)) I g1 m1 ?_ g2)
    refine PySem.W.callWith_K (h₀ := X.base) I.ok.mod.kin kp (thn (hpa.run p3 pins s σ H (fun vs H1 => vs = [V.ref a] ∧ H = H1) I ⟨_, hi, rfl, rfl⟩) fun us s1 ⟨vs, H1, I1, r, ev, eH⟩ => ⟨I1.kIn, ?_⟩) rfl rfl
    subst ev eH
    have spk : spKin X.K a d (T.kin.2.filter fun y => decide ((c, y) ∈ T.sub)) [V.ref a] H Q (fun _ _ _ => False) := by
      refine ⟨rfl, fun dd e => by have hx := hd.xf; subst e; cases hx with | «at» h1 n1 z1 r1 => exact ⟨_, h1⟩, fun l H' ke hl0 hl1 => ?_⟩
      have st : Step m S H m S H' := ⟨⟨[], by simp⟩, fun b o e n => ⟨ke b o e, n⟩⟩
      have rs : RelS X.K Z m S H' := ⟨cf.s.len, cf.s.nd, fun b hb => by
          obtain ⟨o, e⟩ := cf.s.has b hb
          exact ⟨o, ke b o e⟩, fun z hz => by
          obtain ⟨⟨o, e⟩, n⟩ := cf.s.hid z hz
          exact ⟨⟨o, ke z o e⟩, n⟩, fun j b xs h1 h2 hl => by
          obtain ⟨vs, h3, r3⟩ := cf.s.cel j b xs h1 h2 hl
          exact ⟨vs, ke b _ h3, r3.mono st⟩⟩
      have rl : ∀ ls : List Str, RelDs X.K Z m S H' (ls.map D.str) (ls.map V.str) := fun ls => by
        induction ls with
        | nil => exact .nil
        | cons b c ih => exact .cons (.str b) ih
      exact w m H' (.ref l) st rs (.lv hl1 (own_fresh cf.s hl0) (hid_fresh cf.s hl0) (rl _))
    have hl' : us.length = qs.length := by rw [← r.length]; exact len _ _ _ _ spk
    have bb := b s1 us I1.kIn (by rw [List.append_nil]; exact hl')
    rw [List.append_nil] at bb
    obtain ⟨pg, pf, pl, ps, pc⟩ := I1.pin (a, oe) (List.mem_append_left _ List.mem_cons_self)
    have hpin : L2H.PinOk X.stack H s1 (a, oe) := ⟨pg, pf, fun hm => (List.mem_cons.mp (I1.stkSub a hm)).elim pl ps, pc⟩
    obtain ⟨vs0, hv0⟩ := hf
    have hot : L2H.Hot1 (X.A.mark (some (.ref a))) (a, oe) := ⟨rfl, vs0, hv0, hz.2.2 vs0 hv0⟩
    have r2 : L2H.RoomH 2 X.A := L2H.roomH_of (x.room.mono hk2)
    have room : L2H.RoomH 1 (X.A.mark (some (.ref a))) := ⟨by have := r2.dp; show X.A.depth + 3 * 1 + 5 < _; omega, by have := r2.un; show X.A.units + 16 * 1 + 200 < _; omega⟩
    have zz : L2N.Zn (.ref (He.ga X.K c)) d oe := by rw [← hd.cls]; exact hz
    refine wpAny_call (codeAny_mono (run (X.A.mark (some (.ref a))) X.stack s1 H ⟨us, []⟩ us [V.ref a] Q (fun _ _ _ => False) oe room hot zz hpin I1.env0 bb r spk) fun r' s' hq => ?_)
    rcases r' with e | fl
    · obtain ⟨_, _, _, _, _, _, _, _, _, _, _, _, z⟩ := hq
      exact z.elim
    · cases fl with
      | ret u => exact I1.after hq
      | next => exact hq.elim
      | brk => exact hq.elim
      | cont => exact hq.elim
  · exact w.elim
theorem h_var (x : XOk T k N sc sc X W) {j : Nat} {y : Str} {p : Pos} (h1 : N[j]? = some y) (h2 : visB sc y = true) (h3 : (y == ("__debug__" : Str)) = false) (h4 : (y == ("__classdict__" : Str)) = false) :
    PE (X.suite a ((a, oe) :: pn)) (.Name y p) (RH T X.K i a cls d fun c fs => evH (ctxOf T k) c fs (.var j)) := by
  refine PE.mono (pe_var (X := X.suite a ((a, oe) :: pn)) (i := j) (by show X.N[j]? = _; rw [x.nN]; exact h1) (by show Vis X.env.scope y; rw [x.sc]; exact visB_of h2) h3 h4) fun σ H Q ⟨Z, m, S, σd, c, fs, cf, hi, hd, w⟩ => ?_
  simp only [evH] at w
  split at w
  · rename_i e _
    obtain ⟨v, e2, r⟩ := cf.get j _ ‹_›
    exact ⟨v, e2, WR.here w cf.s r⟩
  · exact w.elim
theorem pa_h {h : HE} {hs : HEs} {e : Expr} {es : List Expr} (he : PE (X.suite a ((a, oe) :: pn)) e (RH T X.K i a cls d fun c fs => evH (ctxOf T k) c fs h)) (hs' : PA (X.suite a ((a, oe) :: pn)) es (RHs T X.K i a cls d fun c fs => evHs (ctxOf T k) c fs hs))
    (st : starEach (e :: es) X.env = (false, eval e X.env) :: starEach es X.env) : PA (X.suite a ((a, oe) :: pn)) (e :: es) (RHs T X.K i a cls d fun c fs => evHs (ctxOf T k) c fs (.cons h hs)) := by
  refine PA.mono (pa_cons he hs' st) fun σ H Q ⟨Z, m, S, σd, c, fs, cf, hi, hd, w⟩ => ?_
  simp only [evHs] at w
  refine ⟨Z, m, S, σd, c, fs, cf, hi, hd, WR.bind w fun x1 S1 m1 H1 v st rs r w1 => ?_⟩
  refine ⟨Z, m1, S1, σd, c, fs, cf.step st rs, hi, hd.step st, WR.bind w1 fun ds S2 m2 H2 vs st2 rs2 r2 w2 => ?_⟩
  exact WR.here w2 rs2 (.cons (r.mono st2) r2)
theorem k_fit (x : XOk T k N sc sc X W) (hn : Nm X N sc i n) (hk2 : 2 ≤ k) (hz : L2N.Zn cls d oe) (hf : ∃ vs, oe.data = .fields vs) {f : Str} {e : Expr} (hh : fitKn sc n f e = true) : PE (X.suite a ((a, oe) :: pn)) e (RH T X.K i a cls d fun c fs => evH (ctxOf T k) c fs (.kinds f)) := by
  unfold fitKn at hh
  split at hh
  · simp only [Bool.and_eq_true, decide_eq_true_eq] at hh
    obtain ⟨⟨rfl, h2⟩, rfl⟩ := hh
    exact h_kin x hn hk2 hz hf h2
  · cases hh
theorem f_fit (x : XOk T k N sc sc X W) (hn : Nm X N sc i n) (hz : L2N.Zn cls d oe) (hf : ∃ vs, oe.data = .fields vs) {f : Str} {e : Expr} (hh : fitFl n f e = true) : PE (X.suite a ((a, oe) :: pn)) e (RH T X.K i a cls d fun c fs => evH (ctxOf T k) c fs (.fld f)) := by
  unfold fitFl at hh
  split at hh
  · simp only [Bool.and_eq_true, decide_eq_true_eq] at hh
    obtain ⟨rfl, rfl⟩ := hh
    exact h_fld x hn hz hf
  · cases hh
theorem star_H {h : HE} {e : Expr} {es : List Expr} {env : Env} (hh : fitH N sc n h e = true) : starEach (e :: es) env = (false, eval e env) :: starEach es env := by
  cases e <;> first | rfl | (exfalso; cases h <;> simp only [fitH, fitKn, fitFl, Bool.false_eq_true] at hh; done)
mutual
theorem snd_H (x : XOk T k N sc sc X W) (hn : Nm X N sc i n) (hk2 : 2 ≤ k) (hz : L2N.Zn cls d oe) (hf : ∃ vs, oe.data = .fields vs) : ∀ (h : HE) {e : Expr}, fitH N sc n h e = true → PE (X.suite a ((a, oe) :: pn)) e (RH T X.K i a cls d fun c fs => evH (ctxOf T k) c fs h)
  | .kinds f, e, hh => by
    simp only [fitH] at hh
    exact k_fit x hn hk2 hz hf hh
  | .fld f, e, hh => by
    simp only [fitH] at hh
    exact f_fit x hn hz hf hh
  | .var j, e, hh => by
    cases e <;> simp only [fitH, Bool.false_eq_true, Bool.and_eq_true, decide_eq_true_eq, Bool.not_eq_true'] at hh
    obtain ⟨⟨⟨h1, h2⟩, h3⟩, h4⟩ := hh
    exact h_var x h1 h2 h3 h4
  | .cint j, e, hh => by
    cases e <;> try (simp only [fitH, Bool.false_eq_true] at hh; done)
    rename_i cc kk pp
    cases cc <;> simp only [fitH, Bool.false_eq_true, decide_eq_true_eq] at hh
    subst hh
    refine PE.mono pe_int fun σ H Q ⟨Z, m, S, σd, c, fs, cf, hi, hd, w⟩ => ?_
    simp only [evH] at w
    exact WR.here w cf.s (.int _)
  | .cstr j, e, hh => by
    cases e <;> try (simp only [fitH, Bool.false_eq_true] at hh; done)
    rename_i cc kk pp
    cases cc <;> simp only [fitH, Bool.false_eq_true, decide_eq_true_eq] at hh
    subst hh
    refine PE.mono pe_str fun σ H Q ⟨Z, m, S, σd, c, fs, cf, hi, hd, w⟩ => ?_
    simp only [evH] at w
    exact WR.here w cf.s (.str _)
  | .cbl j, e, hh => by
    cases e <;> try (simp only [fitH, Bool.false_eq_true] at hh; done)
    rename_i cc kk pp
    cases cc <;> simp only [fitH, Bool.false_eq_true, decide_eq_true_eq] at hh
    subst hh
    refine PE.mono pe_bl fun σ H Q ⟨Z, m, S, σd, c, fs, cf, hi, hd, w⟩ => ?_
    simp only [evH] at w
    exact WR.here w cf.s (.bl _)
  | .cnon, e, hh => by
    cases e <;> try (simp only [fitH, Bool.false_eq_true] at hh; done)
    rename_i cc kk pp
    cases cc <;> simp only [fitH, Bool.false_eq_true] at hh
    refine PE.mono pe_non fun σ H Q ⟨Z, m, S, σd, c, fs, cf, hi, hd, w⟩ => ?_
    simp only [evH] at w
    exact WR.here w cf.s .non
  | .lst hs, e, hh => by
    cases e <;> simp only [fitH, Bool.false_eq_true] at hh
    refine PE.mono (pe_lst (snd_Hs x hn hk2 hz hf hs hh)) fun σ H Q ⟨Z, m, S, σd, c, fs, cf, hi, hd, w⟩ => ?_
    simp only [evH] at w
    refine ⟨Z, m, S, σd, c, fs, cf, hi, hd, WR.bind w fun ds S1 m1 H1 vs st rs r w1 => ?_⟩
    split at w1
    · rename_i hl
      exact ⟨by rw [← r.length]; exact lim_le hl, fun l hl => WR.newL w1 rs r hl⟩
    · exact w1.elim
  | .tup hs, e, hh => by
    cases e <;> simp only [fitH, Bool.false_eq_true] at hh
    refine PE.mono (pe_tup (snd_Hs x hn hk2 hz hf hs hh)) fun σ H Q ⟨Z, m, S, σd, c, fs, cf, hi, hd, w⟩ => ?_
    simp only [evH] at w
    refine ⟨Z, m, S, σd, c, fs, cf, hi, hd, WR.bind w fun ds S1 m1 H1 vs st rs r w1 => ?_⟩
    split at w1
    · rename_i hl
      exact ⟨by rw [← r.length]; exact lim_le hl, fun l hl => WR.newT w1 rs r hl⟩
    · exact w1.elim
theorem snd_Hs (x : XOk T k N sc sc X W) (hn : Nm X N sc i n) (hk2 : 2 ≤ k) (hz : L2N.Zn cls d oe) (hf : ∃ vs, oe.data = .fields vs) : ∀ (hs : HEs) {es : List Expr}, fitHs N sc n hs es = true → PA (X.suite a ((a, oe) :: pn)) es (RHs T X.K i a cls d fun c fs => evHs (ctxOf T k) c fs hs)
  | .nil, es, hh => by
    cases es <;> simp only [fitHs, Bool.false_eq_true] at hh
    refine PA.mono pa_nil fun σ H Q ⟨Z, m, S, σd, c, fs, cf, hi, hd, w⟩ => ?_
    simp only [evHs] at w
    exact WR.here w cf.s .nil
  | .cons h hs, es, hh => by
    cases es with
    | nil => simp only [fitHs, Bool.false_eq_true] at hh
    | cons e es =>
      simp only [fitHs, Bool.and_eq_true] at hh
      exact pa_h (snd_H x hn hk2 hz hf h hh.1) (snd_Hs x hn hk2 hz hf hs hh.2) (star_H hh.1)
end
end
end Ev

/-! a try with several clauses, each with a name of its own -/
namespace Ev
open PySem PySem.Spec PyProof.Rows L2 L2N
abbrev Cla := Value × Nat × (Addr → Value → Option Addr → TS)
/-- D, but the slot i is emptied -/
def gone (i : Nat) (D : Ends) : Ends := { nx := fun τ G => D.nx (τ.set i none) G, rt := D.rt, bk := fun τ G => D.bk (τ.set i none) G, ct := fun τ G => D.ct (τ.set i none) G }
def wClas (K : PySem.W.Frag) (Wout : WX) (D : Ends) : List Cla → WX
  | [] => Wout
  | (c, i, ts) :: r => fun cls d σ H => ∃ b, PySem.W.exmOne K cls c = some b ∧ (b = true → ∀ a, H a = none → ts a cls d (gone i D) (σ.set i (some (.ref a))) H) ∧ (b = false → wClas K Wout D r cls d σ H)
inductive ClasOk (X : Cx) : List ExceptHandler → List Cla → Prop
  | nil : ClasOk X [] []
  | cons {x n : Str} {i : Nat} {c : Value} {ts : Addr → Value → Option Addr → TS} {b₀ : Stmt} {suite : List Stmt} {np pos' : Pos} {hds : List ExceptHandler} {l : List Cla} (hc : Names X x c) (hi : X.N[i]? = some n) (hln : X.env.kindOf n = some .local)
      (hsu : ∀ (a : Addr) (oe : Obj) (cls : Value) (d : Option Addr) (pn : List (Addr × Obj)), L2N.Zn cls d oe → (∃ vs, oe.data = .fields vs) → PSs (X.suite a ((a, oe) :: pn)) (b₀ :: suite) (ts a cls d)) (r : ClasOk X hds l) :
      ClasOk X (.ExceptHandler (some (.Name x np)) (some n) (b₀ :: suite) pos' :: hds) ((c, i, ts) :: l)
section
variable {X : Cx} {body : List Stmt} {h₀ : ExceptHandler} {hds : List ExceptHandler} {l : List Cla} {pos : Pos} {tb : WX → TS} {Wout : WX}
theorem ps_clauses (hs : X.stack = X.env :: X.outer) (hf : X.env.frame = some X.env.locals) (hN : X.N.Nodup) (tk : L2N.Takes X Wout)
    (hb : ∀ (W : WX) (pn : List (Addr × Obj)) (xe : Value → Shared → Prop), L2N.Takes (X.tr pn xe) W → PassesOwn (model X.prog X.w) X.A X.env xe → PSs (X.tr pn xe) body (tb W))
    (hh : ClasOk X (h₀ :: hds) l) : PS X (.Try body (h₀ :: hds) [] [] pos) (fun D σ H => tb (wClas X.K Wout D l) D σ H) := by
  refine ⟨fun pins s σ H D I h => ?_⟩
  have ok := I.ok
  have frA : X.A.frames = some (X.env :: X.outer) := by rw [ok.frames, hs]
  refine wpAny_Try_except ?_
  have bodyRun := (hb (wClas X.K Wout D l) (X.pn ++ pins) (fun e t₁ => wpAny (model X.prog X.w) X.A (noteFrame e X.env) (fun _ t₂ => wpAny (model X.prog X.w) X.A (setFlight e none) (fun _ t₃ =>
    wpAny (model X.prog X.w) X.A (handleBy e X.env (h₀ :: hds)) (SP X pins D) X.xe t₃) X.xe t₂) X.xe t₁) (fun u s' xx => ?_) PassesOwn.looking).run [] s σ H D (I.toTry _) h
  refine wpAny_mono bodyRun (fun f t1 ht => ?_) (fun e t1 z => z)
  · -- no exception came
    cases f with
    | next =>
      obtain ⟨τ, G, J', q⟩ := ht
      exact wpAny_execs_nil ⟨τ, G, J'.ofTry ok, q⟩
    | brk =>
      obtain ⟨τ, G, J', q⟩ := ht
      exact ⟨τ, G, J'.ofTry ok, q⟩
    | cont =>
      obtain ⟨τ, G, J', q⟩ := ht
      exact ⟨τ, G, J'.ofTry ok, q⟩
    | ret u =>
      obtain ⟨v, τ, G, J', r, q⟩ := ht
      exact ⟨v, τ, G, J'.ofTry ok, r, q⟩
  · -- one came
    obtain ⟨a, B, sI, pins', τ, G, cls, d, rfl, J', nb, up, sky, na, os, ag, w⟩ := xx
    have J : Inv X pins τ G sI := J'.ofTry ok
    have sky2 : Sky B (X.env :: X.outer) a (L2N.Zn cls d) X.env.locals s'.heap := by rw [← hs]; exact sky
    show wpAny (model X.prog X.w) X.A (noteFrame (.ref a) X.env) _ _ _
    refine L2N.Sky.land L2N.Zn.steady frA hf sky2 fun g3 fl3 up3 => ?_
    have J3 : Inv X pins τ G { s' with heap := g3 } := J.landed nb fl3.1 (up.trans up3) os ag
    obtain ⟨oe3, vs3, at3, z3, dt3⟩ := fl3.there
    have notIn : a ∉ frs (X.env :: X.outer) := fun hm => by
      obtain ⟨_, o', e', hnf⟩ := fl3.2.2.1.mem hm
      rw [at3] at e'
      cases e'
      exact hnf _ dt3
    have nL : a ≠ X.env.locals := fun z => notIn (List.mem_filterMap.mpr ⟨X.env, List.mem_cons_self, by rw [hf, z]⟩)
    have nF : a ∉ X.fs := fun hm => by
      obtain ⟨e, he, q⟩ := List.mem_filterMap.mp hm
      exact notIn (List.mem_filterMap.mpr ⟨e, List.mem_cons_of_mem _ he, q⟩)
    have S3 := J3.suite at3 dt3 na nL nF
    have LT : PySem.W.Looks (model X.prog X.w) g3 (typeOf (.ref a)) cls := fun A Q E s k q => wpAny_typeOf_ref (k _ _ at3) (by rw [z3.1]; exact q)
    have go : ∀ {hds' : List ExceptHandler} {l' : List Cla}, ClasOk X hds' l' → wClas X.K Wout D l' cls d τ G →
        wpAny (model X.prog X.w) X.A (handleBy (.ref a) X.env hds') (SP X pins D) X.xe { s' with heap := g3 } := by
      intro hds' l' hk
      induction hk with
      | nil =>
        intro w
        refine wpAny_handleBy_nil ?_
        obtain ⟨k1, k2, k3, oe, vs, Tt, oT, ts', at4, z4, dt4, p1, hr⟩ := id fl3
        unfold PySem.passOn
        refine wpAny_bind (wpAny_field at4 dt4 p1 ?_)
        rw [if_neg (show ¬ ((Value.ref Tt == Value.none) = true) from by simp)]
        have out : wpAny (model X.prog X.w) X.A (setFlight (.ref a) X.env.frame) (fun _ t4 => wpAny (model X.prog X.w) X.A (throw (.ref a) : Sem Flow) (SP X pins D) X.xe t4) X.xe { s' with heap := g3 } := by
          rw [hf]
          refine HandSPX.setFlight_upZ fl3 fun g4 hg4 up4 => wpAny_throw (tk _ _ ?_)
          exact ⟨a, B, sI, pins, τ, G, cls, d, rfl, J, nb, (up.trans up3).trans up4, .inr (.inr (by rw [hs]; exact hg4)), na, os, ag, w⟩
        first
          | exact wpAny_bind (wpAny_pure (wpAny_bind out))
          | exact wpAny_bind out
      | @cons x n i c ts b₀ suite np pos' hds2 l2 hc hi hln hsu r ih =>
        intro w
        obtain ⟨b, hb1, hyes, hno⟩ := w
        refine wpAny_handleBy_cons (codeAny_handlers_test ?_) (by intro q; cases q)
        have LM := PySem.W.exm_one (M := model X.prog X.w) (J3.kIn) LT hb1
        have test : ∀ {Q : Value → Shared → Prop} {E : Value → Shared → Prop}, Q c { s' with heap := g3 } → wpAny (model X.prog X.w) (X.A.mark (some (.ref a))) (eval (.Name x np) X.env) Q E { s' with heap := g3 } := fun {Q E} q => by
          obtain ⟨hg, hdbg, hm | ⟨hm, hv, hnn⟩⟩ := hc
          · exact ld_glob (X := X.suite a ((a, oe3) :: (X.pn ++ pins))) S3 hg hm q hdbg
          · exact ld_blt (X := X.suite a ((a, oe3) :: (X.pn ++ pins))) S3 hg hm hv q hnn hdbg
        refine test (LM.here ?_)
        cases b with
        | false =>
          show wpAny _ X.A (handleBy (.ref a) X.env hds2) _ _ _
          exact ih (hno rfl)
        | true =>
          refine codeAny_handlers_suite_as ?_
          refine HandSPX.lands_againZ fl3 fun g4 fl4 up4 => ?_
          have J4 : Inv X pins τ G { s' with heap := g4 } := J.landed nb fl4.1 ((up.trans up3).trans up4) os ag
          obtain ⟨oe4, vs4, at4, z4, dt4⟩ := fl4.there
          have S4 := J4.suite at4 dt4 na nL nF
          refine store_ok (X := X.suite a ((a, oe4) :: (X.pn ++ pins))) (v := .ref a) S4 hN hi (.inl hln) rfl (fun t5 S5 => ?_) (.inr hln)
          refine wpAny_mono ((hsu a oe4 cls d (X.pn ++ pins) z4 ⟨_, dt4⟩).run [] t5 _ G _ S5 (hyes rfl a na)) (fun f t6 ht => ?_) (fun _ _ z => False.elim z)
          have away : ∀ {τ6 : L2.St} {G6 : Hp} {Q : Shared → Prop}, Inv (X.suite a ((a, oe4) :: (X.pn ++ pins))) [] τ6 G6 t6 → (∀ t7, Inv X pins (τ6.set i none) G6 t7 → Q t7) →
              wpAny (model X.prog X.w) X.A (do bindName X.env n .none; unbindBehindTheSuite X.env n pos') (fun _ t7 => Q t7) X.xe t6 := fun {τ6 G6 Q} S6 hq => gone_ok (S6.unsuite ok) hN hi hln hq
          cases f with
          | next =>
            obtain ⟨τ6, G6, S6, q6⟩ := ht
            exact away S6 fun t7 J7 => ⟨_, _, J7, q6⟩
          | brk =>
            obtain ⟨τ6, G6, S6, q6⟩ := ht
            exact away S6 fun t7 J7 => ⟨_, _, J7, q6⟩
          | cont =>
            obtain ⟨τ6, G6, S6, q6⟩ := ht
            exact away S6 fun t7 J7 => ⟨_, _, J7, q6⟩
          | ret u =>
            obtain ⟨v6, τ6, G6, S6, r6, q6⟩ := ht
            exact away S6 fun t7 J7 => ⟨_, _, _, J7, r6, q6⟩
    exact go hh w
end
end Ev

namespace Ev
open PySem L2
variable {EX : XK} {W : WX}
/-! ### statements -/
inductive FlV where | nx (σ : St) | rt (v : V) | bk (σ : St) | ct (σ : St) | ex (σ : St) (cls : Value) (d : Option Addr)
def relF (K : PySem.W.Frag) (Z : List Addr) : Rel Fl FlV := fun m S H a b => match a, b with
  | .nx σd, .nx σ => Cf K Z m S H σd σ
  | .rt d, .rt v => RelD K Z m S H d v
  | .bk σd, .bk σ => Cf K Z m S H σd σ
  | .ct σd, .ct σ => Cf K Z m S H σd σ
  | .ex σd c fs, .ex σ cls d => Cf K Z m S H σd σ ∧ cls = .ref (He.ga K c) ∧ XF K Z m S H fs d
  | _, _ => False
def endOf (D : Ends) (W : WX) : FlV → Hp → Prop
  | .nx σ, H => D.nx σ H
  | .rt v, H => D.rt v H
  | .bk σ, H => D.bk σ H
  | .ct σ, H => D.ct σ H
  | .ex σ cls d, H => W cls d σ H
def RS (W : WX) (K : PySem.W.Frag) (f : Sg → Sto → R Fl) : TS := fun D σ H => ∃ Z m S σd, Cf K Z m S H σd σ ∧ WR (fun c d H => W c d σ H) K Z (relF K Z) m S H (endOf D W) (f σd S)
/-- a block: what is raised in it is an end of its own -/
def RB (W : WX) (K : PySem.W.Frag) (f : Sg → Sto → R Fl) : TS := fun D σ H => ∃ Z m S σd, Cf K Z m S H σd σ ∧ WR (fun _ _ _ => False) K Z (relF K Z) m S H (endOf D W) (f σd S)
def NoEx {α : Type} (r : R α) : Prop := ∀ c fs S, r ≠ .ex c fs S
theorem WR.any {α β : Type} {K : PySem.W.Frag} {Z m : List Addr} {S : Sto} {H : Hp} {rel : Rel α β} {Q : β → Hp → Prop} {r : R α} {E1 : XK} (n : NoEx r) (w : WR EX K Z rel m S H Q r) : WR E1 K Z rel m S H Q r := by
  cases r with
  | ok a S1 => exact w
  | ex c fs S1 => exact absurd rfl (n c fs S1)
  | stuck => exact w
theorem WR.bindN {α β γ δ : Type} {K : PySem.W.Frag} {Z m : List Addr} {S : Sto} {H : Hp} {rel : Rel α β} {rel' : Rel γ δ} {Q : δ → Hp → Prop} {Q1 : β → Hp → Prop} {x : R α} {f : α → Sto → R γ} {E1 : XK} (n : NoEx x) (h : WR EX K Z rel' m S H Q (x.bind f))
    (k : ∀ a S1 m1 H1 b, Step m S H m1 S1 H1 → RelS K Z m1 S1 H1 → rel m1 S1 H1 a b → WR EX K Z rel' m1 S1 H1 Q (f a S1) → Q1 b H1) : WR E1 K Z rel m S H Q1 x := WR.any n (WR.bind h k)
theorem evSs_no {Γ : Ctx} : ∀ (ss : Ss) (σ : Sg) (S : Sto), NoEx (evSs Γ ss σ S)
  | .nil, σ, S => fun c fs S' e => by simp only [evSs] at e; cases e
  | .cons s ss, σ, S => fun c fs S' e => by
    simp only [evSs] at e
    cases h : evS Γ s σ S with
    | ok a S1 =>
      rw [h, R.bindC_ok] at e
      cases a <;> simp only [seqK] at e <;> try (cases e; done)
      exact evSs_no ss _ _ c fs S' e
    | ex _ _ _ => rw [h, R.bindC_ex] at e; cases e
    | stuck => rw [h, R.bindC_stuck] at e; cases e
section
variable {T : Prg} {k : Nat} {N : List Str} {sc : Scope} {X : Cx}
theorem hr_nx {K : PySem.W.Frag} {Z m : List Addr} {S : Sto} {H : Hp} {D : Ends} {σd : Sg} {σ : St} (w : WR EX K Z (relF K Z) m S H (endOf D W) (.ok (.nx σd) S)) (rs : RelS K Z m S H) (c : Cf K Z m S H σd σ) : D.nx σ H := WR.here (b := FlV.nx σ) w rs c
theorem hr_bk {K : PySem.W.Frag} {Z m : List Addr} {S : Sto} {H : Hp} {D : Ends} {σd : Sg} {σ : St} (w : WR EX K Z (relF K Z) m S H (endOf D W) (.ok (.bk σd) S)) (rs : RelS K Z m S H) (c : Cf K Z m S H σd σ) : D.bk σ H := WR.here (b := FlV.bk σ) w rs c
theorem hr_ct {K : PySem.W.Frag} {Z m : List Addr} {S : Sto} {H : Hp} {D : Ends} {σd : Sg} {σ : St} (w : WR EX K Z (relF K Z) m S H (endOf D W) (.ok (.ct σd) S)) (rs : RelS K Z m S H) (c : Cf K Z m S H σd σ) : D.ct σ H := WR.here (b := FlV.ct σ) w rs c
theorem hr_rt {K : PySem.W.Frag} {Z m : List Addr} {S : Sto} {H : Hp} {D : Ends} {d : Ev.D} {v : V} (w : WR EX K Z (relF K Z) m S H (endOf D W) (.ok (.rt d) S)) (rs : RelS K Z m S H) (c : RelD K Z m S H d v) : D.rt v H := WR.here (b := FlV.rt v) w rs c
theorem hr_ex {K : PySem.W.Frag} {Z m : List Addr} {S : Sto} {H : Hp} {D : Ends} {σd : Sg} {σ : St} {c : Str} {fs : List (Str × Ev.D)} {cls : Value} {d : Option Addr} (w : WR EX K Z (relF K Z) m S H (endOf D W) (.ok (.ex σd c fs) S)) (rs : RelS K Z m S H) (r : Cf K Z m S H σd σ ∧ cls = .ref (He.ga K c) ∧ XF K Z m S H fs d) : W cls d σ H := WR.here (b := FlV.ex σ cls d) w rs r
/-- a statement, then the rest: an exception keeps the slots -/
theorem WR.bindC {K : PySem.W.Frag} {Z m : List Addr} {S : Sto} {H : Hp} {D : Ends} {σd : Sg} {σ : St} {x : R Fl} {g : Fl → Sto → R Fl} {Q1 : FlV → Hp → Prop} (c : Cf K Z m S H σd σ) (h : WR EX K Z (relF K Z) m S H (endOf D W) (x.bindC σd g))
    (k : ∀ a S1 m1 H1 b, Step m S H m1 S1 H1 → RelS K Z m1 S1 H1 → relF K Z m1 S1 H1 a b → WR EX K Z (relF K Z) m1 S1 H1 (endOf D W) (g a S1) → Q1 b H1) : WR (fun c d H => W c d σ H) K Z (relF K Z) m S H Q1 x := by
  cases x with
  | ok a S1 => exact fun m1 H1 b st rs r => k a S1 m1 H1 b st rs r (WR.step h st)
  | ex e fs S1 => exact fun m1 H1 d st rs r => h m1 H1 (.ex σ (.ref (He.ga K e)) d) st rs ⟨c.step st rs, rfl, r⟩
  | stuck => exact h
theorem ps_seq {f g : Sg → Sto → R Fl} {K : PySem.W.Frag} {D : Ends} {σ : St} {H : Hp} (h : RB W K (fun σ S => (f σ S).bindC σ (seqK g)) D σ H) : tSeq (RS W K f) (RB W K g) D σ H := by
  obtain ⟨Z, m, S, σd, c, w⟩ := h
  refine ⟨Z, m, S, σd, c, WR.bindC c w fun r S1 m1 H1 b st rs rel w1 => ?_⟩
  cases r <;> cases b <;> try exact rel.elim
  · exact ⟨Z, m1, S1, _, rel, w1⟩
  · exact hr_rt (D := D) w1 rs rel
  · exact hr_bk (D := D) w1 rs rel
  · exact hr_ct (D := D) w1 rs rel
  · exact hr_ex (D := D) w1 rs rel
/-- one turn of a loop's body -/
theorem for_body {K : PySem.W.Frag} {Z m : List Addr} {S : Sto} {H : Hp} {D : Ends} {σ1 : Sg} {σ' : St} {body : Sg → Sto → R Fl} {next : Sg → Sto → R Fl} {Nx : St → Hp → Prop} (c : Cf K Z m S H σ1 σ') (nb : ∀ σ S, NoEx (body σ S))
    (w : WR EX K Z (relF K Z) m S H (endOf D W) ((body σ1 S).bind (loopK next)))
    (hN : ∀ m1 S1 H1 σ2 σ, Step m S H m1 S1 H1 → Cf K Z m1 S1 H1 σ2 σ → WR EX K Z (relF K Z) m1 S1 H1 (endOf D W) (next σ2 S1) → Nx σ H1) : RB W K body { D with nx := Nx, ct := Nx, bk := D.nx } σ' H := by
  refine ⟨Z, m, S, σ1, c, WR.bindN (nb _ _) w fun r S1 m1 H1 b st rs rel w1 => ?_⟩
  cases r <;> cases b <;> try exact rel.elim
  · exact hN m1 S1 H1 _ _ st rel w1
  · exact hr_rt (D := D) w1 rs rel
  · exact hr_nx (D := D) w1 rs rel
  · exact hN m1 S1 H1 _ _ st rel w1
  · exact hr_ex (D := D) w1 rs rel
theorem for_go {K : PySem.W.Frag} {d : D} {v : V} {J : L2.It} (jw : JW K d v J) {D : Ends} {tg : Tg} {body : Sg → Sto → R Fl} {Z m : List Addr} {S : Sto} {H : Hp} {σd : Sg} {σ : St} {n : Nat} (nb : ∀ σ S, NoEx (body σ S))
    (c : Cf K Z m S H σd σ) (r : RelD K Z m S H d v) (w : WR EX K Z (relF K Z) m S H (endOf D W) (forGo d tg body n 0 σd S)) :
    ∃ L : Nat → Nat → St → Hp → Prop, (∃ m, L 0 m σ H) ∧ ∀ i m σ H, L i m σ H →
      (J.stop i H ∧ D.nx σ H) ∨ (J.go i H ∧ ∃ N : St → Hp → Prop, (∀ σ' H', N σ' H' → ∃ m', m' < m ∧ L (i + 1) m' σ' H') ∧ ∀ x H', J.yld i H x H' → RG K tg x σ H' fun σ2 H2 => RB W K body { D with nx := N, ct := N, bk := D.nx } σ2 H2) := by
  refine ⟨fun i n σ H => ∃ m S σd, Cf K Z m S H σd σ ∧ RelD K Z m S H d v ∧ WR EX K Z (relF K Z) m S H (endOf D W) (forGo d tg body n i σd S), ⟨n, m, S, σd, c, r, w⟩, ?_⟩
  rintro i n σ H ⟨m, S, σd, c, r, w⟩
  cases n with
  | zero => exact w.elim
  | succ n =>
    unfold forGo at w
    split at w
    · exact w.elim
    · rename_i xs ex
      split at w
      · rename_i e0
        exact .inl ⟨jw.stop _ m S H xs i c.s r ex e0, hr_nx w c.s c⟩
      · rename_i x e0
        refine .inr ⟨jw.go _ m S H xs i x c.s r ex e0, fun σ H => ∃ m S σd, Cf K Z m S H σd σ ∧ RelD K Z m S H d v ∧ WR EX K Z (relF K Z) m S H (endOf D W) (forGo d tg body n (i + 1) σd S), fun σ' H' q => ⟨n, Nat.lt_succ_self n, q⟩, fun y H' hy => ?_⟩
        obtain ⟨rfl, ry⟩ := jw.yld _ m S H xs i x y H' c.s r ex e0 hy
        split at w
        · exact w.elim
        · rename_i σ1 e1
          exact ⟨Z, m, S, σd, x, c, ry, σ1, e1, fun σ' c' => for_body c' nb w fun m1 S1 H1 σ2 σ st c1 w1 => ⟨m1, S1, σ2, c1, r.mono st, w1⟩⟩
theorem for_rg {K : PySem.W.Frag} {lo : Int} {D : Ends} {tg : Tg} {body : Sg → Sto → R Fl} {Z m : List Addr} {S : Sto} {H : Hp} {σd : Sg} {σ : St} {n : Nat} (nb : ∀ σ S, NoEx (body σ S))
    (c : Cf K Z m S H σd σ) (w : WR EX K Z (relF K Z) m S H (endOf D W) (forRg tg body lo n 0 σd S)) :
    ∃ L : Nat → Nat → St → Hp → Prop, (∃ m, L 0 m σ H) ∧ ∀ i m σ H, L i m σ H →
      ((Itr lo n).stop i H ∧ D.nx σ H) ∨ ((Itr lo n).go i H ∧ ∃ N : St → Hp → Prop, (∀ σ' H', N σ' H' → ∃ m', m' < m ∧ L (i + 1) m' σ' H') ∧ ∀ x H', (Itr lo n).yld i H x H' → RG K tg x σ H' fun σ2 H2 => RB W K body { D with nx := N, ct := N, bk := D.nx } σ2 H2) := by
  refine ⟨fun i k σ H => i + k = n ∧ ∃ m S σd, Cf K Z m S H σd σ ∧ WR EX K Z (relF K Z) m S H (endOf D W) (forRg tg body lo k i σd S), ⟨n, by omega, m, S, σd, c, w⟩, ?_⟩
  rintro i k σ H ⟨hk, m, S, σd, c, w⟩
  cases k with
  | zero => exact .inl ⟨by show n ≤ i; omega, hr_nx w c.s c⟩
  | succ k =>
    unfold forRg at w
    refine .inr ⟨by show i < n; omega, fun σ H => i + 1 + k = n ∧ ∃ m S σd, Cf K Z m S H σd σ ∧ WR EX K Z (relF K Z) m S H (endOf D W) (forRg tg body lo k (i + 1) σd S), fun σ' H' q => ⟨k, Nat.lt_succ_self k, q⟩, fun y H' hy => ?_⟩
    obtain ⟨rfl, rfl⟩ := hy
    split at w
    · exact w.elim
    · rename_i σ1 e1
      exact ⟨Z, m, S, σd, _, c, .int _, σ1, e1, fun σ' c' => for_body c' nb w fun m1 S1 H1 σ2 σ st c1 w1 => ⟨by omega, m1, S1, σ2, c1, w1⟩⟩
theorem whGo_no {cond : Sg → Sto → R Ev.D} {body : Sg → Sto → R Fl} (nb : ∀ σ S, NoEx (body σ S)) : ∀ (n : Nat) (σ : Sg) (S : Sto), NoEx (whGo cond body n σ S)
  | 0, σ, S => fun c fs S' e => by simp only [whGo] at e; cases e
  | n + 1, σ, S => fun c fs S' e => by
    simp only [whGo] at e
    cases h : cond σ S with
    | ex _ _ _ => rw [h] at e; cases e
    | stuck => rw [h] at e; cases e
    | ok d S1 =>
      rw [h, R.nox_ok, R.bind_ok] at e
      cases ht : tr d S1 with
      | ex _ _ _ => unfold tr at ht; split at ht <;> cases ht
      | stuck => rw [ht] at e; cases e
      | ok b S2 =>
        rw [ht, R.bind_ok] at e
        cases b with
        | false => cases e
        | true =>
          simp only at e
          cases hb : body σ S2 with
          | ex c1 f1 S3 => exact absurd hb (nb σ S2 c1 f1 S3)
          | stuck => rw [hb] at e; cases e
          | ok fl S3 =>
            rw [hb, R.bind_ok] at e
            cases fl <;> simp only [loopK] at e <;> first | (cases e; done) | exact whGo_no nb n _ _ c fs S' e
theorem wh_go {K : PySem.W.Frag} {D : Ends} {cond : Sg → Sto → R Ev.D} {body : Sg → Sto → R Fl} {σ : St} {H : Hp} {n : Nat} (nb : ∀ σ S, NoEx (body σ S)) (h : RS W K (whGo cond body n) D σ H) : tWhile (RT W K cond) (RB W K body) D σ H := by
  obtain ⟨Z, m, S, σd, c, w⟩ := h
  refine ⟨fun n σ H => ∃ m S σd, Cf K Z m S H σd σ ∧ WR (fun _ _ _ => False) K Z (relF K Z) m S H (endOf D W) (whGo cond body n σd S), ⟨n, m, S, σd, c, WR.any (whGo_no nb n σd S) w⟩, ?_⟩
  rintro n σ H ⟨m, S, σd, c, w⟩
  cases n with
  | zero => exact w.elim
  | succ n =>
    unfold whGo at w
    refine ⟨Z, m, S, σd, c, ?_⟩
    cases hc : cond σd S with
    | ex _ _ _ => rw [hc] at w; exact w.elim
    | stuck => rw [hc] at w; exact w.elim
    | ok d0 S0 =>
      rw [hc, R.nox_ok] at w
      have ntr : NoEx ((R.ok d0 S0).bind tr) := fun c1 f1 S1 e => by
        rw [R.bind_ok] at e
        unfold tr at e
        split at e <;> cases e
      refine WR.bindN ntr w fun b S1 m1 H1 b' st rs eb w1 => ?_
      have eb : b = b' := eb
      subst eb
      cases b with
      | false =>
        rw [if_neg Bool.false_ne_true]
        exact hr_nx w1 rs (c.step st rs)
      | true =>
        rw [if_pos rfl]
        refine ⟨fun σ H => ∃ m S σd, Cf K Z m S H σd σ ∧ WR (fun _ _ _ => False) K Z (relF K Z) m S H (endOf D W) (whGo cond body n σd S), fun σ' H' q => ⟨n, Nat.lt_succ_self n, q⟩, ?_⟩
        exact for_body (c.step st rs) nb w1 fun m2 S2 H2 σ2 σ st2 c2 w2 => ⟨m2, S2, σ2, c2, w2⟩
/-- a for's source -/
def FI (W : WX) (T : Prg) (k : Nat) (X : Cx) (it : It) (tg eit : Expr) : Prop := ∃ wi, PI X tg eit wi ∧
  (∀ {t : Tg} {b : Ss} {D : Ends} {σ : St} {H : Hp}, RS W X.K (evS (ctxOf T k) (.for_ t it b)) D σ H → tFor wi (RG X.K t) (RB W X.K (evSs (ctxOf T k) b)) D σ H)
theorem fi_seq (x : XOk T k N sc sc X W) {e : E} {tg ee : Expr} (h : PE X ee (RE W X.K (evE (ctxOf T k) e))) : FI W T k X (.seq e) tg ee := by
  refine ⟨_, pi_seq h, fun {t b D σ H} q => ?_⟩
  obtain ⟨Z, m, S, σd, c, w⟩ := q
  simp only [evS] at w
  refine ⟨Z, m, S, σd, c, WR.bind w fun d S1 m1 H1 v st rs r w1 => ?_⟩
  split at w1
  · rename_i xs ex
    exact jw_of (R := fun J H => ∃ L : Nat → Nat → St → Hp → Prop, (∃ m, L 0 m σ H) ∧ ∀ i m σ H, L i m σ H →
      (J.stop i H ∧ D.nx σ H) ∨ (J.go i H ∧ ∃ N : St → Hp → Prop, (∀ σ' H', N σ' H' → ∃ m', m' < m ∧ L (i + 1) m' σ' H') ∧ ∀ x H', J.yld i H x H' → RG X.K t x σ H' fun σ2 H2 => RB W X.K (evSs (ctxOf T k) b) { D with nx := N, ct := N, bk := D.nx } σ2 H2)) rs r ex fun J jw => for_go jw (evSs_no b) (c.step st rs) r w1
  · exact w1.elim
theorem fi_rng1 (x : XOk T k N sc sc X W) {e : E} {tg ee : Expr} {p p2 : Pos} (hg : glB sc "range" = true) (hf : fitE N sc sc e ee = true) (h : PE X ee (RE W X.K (evE (ctxOf T k) e))) : FI W T k X (.rng1 e) tg (.Call (.Name "range" p) [ee] [] p2) := by
  refine ⟨_, pi_range1 (gl_of x hg).1 x.wld.rng (pa_cons h pa_nil (star_of hf)) (star_of hf), fun {t b D σ H} q => ?_⟩
  obtain ⟨Z, m, S, σd, c, w⟩ := q
  simp only [evS] at w
  refine ⟨Z, m, S, σd, c, WR.bind w fun d S1 m1 H1 v st rs r w1 => ?_⟩
  split at w1
  · split at w1
    · rename_i j hj
      cases r
      obtain ⟨h1, h2⟩ := rngOk_of hj
      exact ⟨j, rfl, h1, h2, for_rg (evSs_no b) (c.step st rs) w1⟩
    · exact w1.elim
  · exact w1.elim
theorem fi_rng2 (x : XOk T k N sc sc X W) {e f : E} {tg ee ef : Expr} {p p2 : Pos} (hg : glB sc "range" = true) (hf : fitE N sc sc e ee = true) (hf2 : fitE N sc sc f ef = true) (h : PE X ee (RE W X.K (evE (ctxOf T k) e))) (h2 : PE X ef (RE W X.K (evE (ctxOf T k) f))) : FI W T k X (.rng2 e f) tg (.Call (.Name "range" p) [ee, ef] [] p2) := by
  refine ⟨_, pi_range2 (gl_of x hg).1 x.wld.rng (pa_cons h (pa_cons h2 pa_nil (star_of hf2)) (star_of hf)) (by rw [star_of hf, star_of hf2]; rfl) (star_of hf2), fun {t b D σ H} q => ?_⟩
  obtain ⟨Z, m, S, σd, c, w⟩ := q
  simp only [evS] at w
  refine ⟨Z, m, S, σd, c, WR.bind w fun d S1 m1 H1 v st rs r w1 => ?_⟩
  refine ⟨Z, m1, S1, σd, c.step st rs, WR.bind w1 fun d2 S2 m2 H2 v2 st2 rs2 r2 w2 => ?_⟩
  split at w2
  · split at w2
    · rename_i i j hj
      rw [Bool.and_eq_true] at hj
      cases r; cases r2
      obtain ⟨h1, h2⟩ := rngOk_of hj.1
      obtain ⟨h3, h4⟩ := rngOk_of hj.2
      exact ⟨i, j, rfl, ⟨h1, h2, h3, h4⟩, for_rg (evSs_no b) ((c.step st rs).step st2 rs2) w2⟩
    · exact w2.elim
  · exact w2.elim
theorem snd_FI (x : XOk T k N sc sc X W) {it : It} {tg e : Expr} (h : fitIt N sc sc it e = true) : FI W T k X it tg e := by
  cases it with
  | seq a =>
    simp only [fitIt] at h
    exact fi_seq x (snd_E a x h).1
  | rng1 a =>
    cases e <;> try (simp only [fitIt, Bool.false_eq_true] at h; done)
    rename_i fn args kws p
    cases fn <;> try (simp only [fitIt, Bool.false_eq_true] at h; done)
    rename_i y p1
    rcases args with _ | ⟨e1, _ | ⟨e2, ees⟩⟩ <;> rcases kws with _ | ⟨k1, ks⟩ <;> simp only [fitIt, Bool.false_eq_true, Bool.and_eq_true, decide_eq_true_eq] at h
    obtain ⟨⟨rfl, h1⟩, h2⟩ := h
    exact fi_rng1 x h1 h2 (snd_E a x h2).1
  | rng2 a b =>
    cases e <;> try (simp only [fitIt, Bool.false_eq_true] at h; done)
    rename_i fn args kws p
    cases fn <;> try (simp only [fitIt, Bool.false_eq_true] at h; done)
    rename_i y p1
    rcases args with _ | ⟨e1, _ | ⟨e2, _ | ⟨e3, ees⟩⟩⟩ <;> rcases kws with _ | ⟨k1, ks⟩ <;> simp only [fitIt, Bool.false_eq_true, Bool.and_eq_true, decide_eq_true_eq] at h
    obtain ⟨⟨⟨rfl, h1⟩, h2⟩, h3⟩ := h
    exact fi_rng2 x h1 h2 h3 (snd_E a x h2).1 (snd_E b x h3).1
/-- the store of a value at a target -/
theorem ts_asg {e : E} {tg : Tg} {K : PySem.W.Frag} {D : Ends} {σ : St} {H : Hp} (h : RS W K (evS (ctxOf T k) (.asg tg e)) D σ H) : tAsg (RE W K (evE (ctxOf T k) e)) (RG K tg) D σ H := by
  obtain ⟨Z, m, S, σd, c, w⟩ := h
  simp only [evS] at w
  refine ⟨Z, m, S, σd, c, WR.bind w fun d S1 m1 H1 v st rs r w1 => ?_⟩
  split at w1
  · rename_i σ1 e1
    exact ⟨Z, m1, S1, σd, d, c.step st rs, r, σ1, e1, fun σ' c' => hr_nx w1 rs c'⟩
  · exact w1.elim
theorem rg_nm {K : PySem.W.Frag} {i : Nat} {v : V} {σ : St} {H : Hp} {Q : St → Hp → Prop} (h : RG K (.nm i) v σ H Q) : gName i v σ H Q := by
  obtain ⟨Z, m, S, σd, d, c, r, σd', e, q⟩ := h
  simp only [setTg, Option.some.injEq] at e
  subst e
  exact q _ (c.set r)
theorem tlc_mono {wi : TI} {g : TG} {tt : TT} {te : TE} {vs : List Nat} {σ : St} {H : Hp} {Q Q' : VK} (hm : ∀ R R' : L2.It → Hp → Prop, (∀ J H, R J H → R' J H) → wi σ H R → wi σ H R') (hq : ∀ v H, Q v H → Q' v H) (h : tLc wi g tt te vs σ H Q) : tLc wi g tt te vs σ H Q' := by
  refine hm _ _ (fun J H1 r D hD => ?_) h
  obtain ⟨W, w0, turn⟩ := r D hD
  refine ⟨W, w0, fun i m H w => ?_⟩
  rcases turn i m H w with ⟨a, b⟩ | q
  · exact .inl ⟨a, hq _ _ b⟩
  · exact .inr q
theorem sa1 {i : Nat} {e : E} {N : List Str} {sc : Scope} {X : Cx} {st : Stmt} (x : XOk T k N sc sc X W) (h : fitS N sc (.asg (.nm i) e) st = true) : PS X st (RS W X.K (evS (ctxOf T k) (.asg (.nm i) e))) := by
    cases st <;> simp only [fitS, Bool.false_eq_true] at h
    rename_i tgs v q
    rcases tgs with _ | ⟨t1, _ | ⟨t2, ts⟩⟩ <;> simp only [fitAsg, Bool.false_eq_true] at h
    cases t1 <;> simp only [fitAsg1, Bool.false_eq_true] at h
    rename_i y p
    simp only [Bool.and_eq_true, decide_eq_true_eq, Bool.or_eq_true] at h
    obtain ⟨⟨⟨h1, h2⟩, h3⟩, h4⟩ := h
    obtain ⟨l1, l2⟩ := stB_of x h3
    have hN : X.N.Nodup := by rw [x.nN]; exact x.nd
    have hi : X.N[i]? = some y := by rw [x.nN]; exact h2
    have plain : swapsWith v (some (.Name y p)) q.line X.env = pure false → PS X (.Assign [.Name y p] v q) (RS W X.K (evS (ctxOf T k) (.asg (.nm i) e))) := fun hs =>
      PS.mono (ps_set hN hi l1 (snd_E e x h1).1 hs l2) fun D σ H r => by
        obtain ⟨Z, m, S, σd, c, w⟩ := r
        simp only [evS] at w
        refine ⟨Z, m, S, σd, c, WR.bind w fun d S1 m1 H1 v st rs r w1 => ?_⟩
        simp only [setTg] at w1
        exact hr_nx w1 rs ((c.step st rs).set r)
    rcases h4 with h4 | h4
    · exact plain (swaps_of h4)
    · cases v <;> simp only [fitLc, Bool.false_eq_true] at h4
      rename_i eelt gens scope vp
      rcases gens with _ | ⟨g1, _ | ⟨g2, gs⟩⟩ <;> simp only [Bool.false_eq_true] at h4
      cases e <;> simp only [Bool.false_eq_true] at h4
      · rename_i elt tg it cond
        split at h4
        · rename_i hloc
          rw [Bool.and_eq_true, Bool.not_eq_true'] at h4
          obtain ⟨etg, eit, ifs, asy⟩ := g1
          simp only [fitE, Bool.and_eq_true, decide_eq_true_eq] at h1
          obtain ⟨⟨⟨⟨⟨⟨rfl, g1⟩, g2⟩, g3⟩, g4⟩, g5⟩, g6⟩ := h1
          obtain ⟨wi, s1, s2⟩ := snd_It (T := T) (k := k) it (tg := etg) x g4
          have hloc' : X.env.scope.names.lookup y = some .local := by rw [x.sc]; exact hloc
          refine PS.mono (ps_setLc (i := i) (own := ownOf tg etg) (wi := wi) (g := RGw X.K tg) (tt := RT W0 X.K (evE (ctxOf T k) cond)) (te := RE W0 X.K (evE (ctxOf T k) elt)) x.calm hN hi hloc' ?_ s1 (by rw [x.nN, x.sc]; exact blkOk_by g2) (fun s H C cl fp => pg_tgW (xok_blk x s H C cl fp) g3) (fun s H C cl fp => ?_) (fun s H C cl fp => (snd_E elt (xok_blk x s H C cl fp) g6).1) (foldedI_of g4)) fun D σ H r => ?_
          · rw [Bool.and_eq_true, decide_eq_true_eq] at h4
            exact sw_true (by rw [x.sc]; exact h4.1.1) hloc' h4.1.2 h4.2
          · rcases ifs with _ | ⟨c, _ | ⟨c2, cs⟩⟩
            · have : cond = .cbl true := by
                simp only at g5
                split at g5
                · rfl
                · cases g5
              subst this
              exact PTs.mono pts_nil fun σ H Q q => rt_true q
            · simp only [Bool.and_eq_true] at g5
              exact pts_one ((snd_E cond (xok_blk x s H C cl fp) g5.2).2 g5.1).1
            · simp at g5
          · rw [g1]
            obtain ⟨Z, m, S, σd, c, w⟩ := r
            refine s2 gend_ok (Q := fun x H1 => gName i x σ H1 D.nx) ⟨Z, m, S, σd, c, ?_⟩
            simp only [R.bind_pure]
            rw [evS] at w
            refine WR.bind w fun d S1 m1 H1 v st rs r w1 => ?_
            simp only [setTg] at w1
            exact hr_nx w1 rs ((c.step st rs).set r)
        · rename_i hnl
          refine plain ?_
          have hk : (X.env.kindOf y == some NameKind.local) = false := by
            have : X.env.kindOf y = sc.names.lookup y := by rw [← x.sc]; rfl
            rw [this]
            cases hq : sc.names.lookup y with
            | none => rfl
            | some kd => cases kd <;> first | rfl | exact (hnl hq).elim
          unfold swapsWith
          simp only [hk, Bool.and_false, Bool.false_and]
theorem sa2 {is : List Nat} {e : E} {N : List Str} {sc : Scope} {X : Cx} {st : Stmt} (x : XOk T k N sc sc X W) (h : fitS N sc (.asg (.tp is) e) st = true) : PS X st (RS W X.K (evS (ctxOf T k) (.asg (.tp is) e))) := by
    cases st <;> simp only [fitS, Bool.false_eq_true] at h
    rename_i tgs v q
    rcases tgs with _ | ⟨t1, _ | ⟨t2, ts⟩⟩ <;> simp only [fitAsg, Bool.false_eq_true] at h
    cases t1 <;> simp only [fitAsg1, Bool.false_eq_true] at h
    rename_i es kk p
    simp only [Bool.and_eq_true, Bool.not_eq_true'] at h
    obtain ⟨⟨⟨h1, h2⟩, h3⟩, h4⟩ := h
    refine PS.mono (ps_asg (snd_E e x h1).1 (pg_tg (tg := .tp is) x (by simpa only [fitTg] using h4)) (by unfold swapsWithSole; exact swaps_of h2) ?_ rfl) fun D σ H r => ts_asg r
    cases v <;> first | rfl | (simp [isTup] at h3; done)
theorem sa3 {o i e : E} {N : List Str} {sc : Scope} {X : Cx} {st : Stmt} (x : XOk T k N sc sc X W) (h : fitS N sc (.seti o i e) st = true) : PS X st (RS W X.K (evS (ctxOf T k) (.seti o i e))) := by
    cases st <;> simp only [fitS, Bool.false_eq_true] at h
    rename_i tgs v q
    rcases tgs with _ | ⟨t1, _ | ⟨t2, ts⟩⟩ <;> simp only [fitSet, Bool.false_eq_true] at h
    cases t1 <;> simp only [fitSet1, Bool.false_eq_true] at h
    rename_i eo ei p
    simp only [Bool.and_eq_true] at h
    obtain ⟨⟨⟨⟨h1, h2⟩, h3⟩, h4⟩, h5⟩ := h
    refine PS.mono (ps_asg (snd_E e x h1).1 (pg_sub (snd_E o x h3).1 (snd_E i x h4).1 set_D (fun v => ?_)) (by unfold swapsWithSole; exact swaps_of h2) ?_ rfl) fun D σ H r => ?_
    · cases ei <;> first | rfl | (simp [notSl] at h5; done)
    · cases v <;> rfl
    · obtain ⟨Z, m, S, σd, c, w⟩ := r
      simp only [evS] at w
      refine ⟨Z, m, S, σd, c, WR.bind w fun d S1 m1 H1 v st rs r w1 => ?_⟩
      refine ⟨Z, m1, S1, σd, c.step st rs, WR.bind w1 fun d2 S2 m2 H2 v2 st2 rs2 r2 w2 => ?_⟩
      refine ⟨Z, m2, S2, σd, (c.step st rs).step st2 rs2, WR.bind w2 fun d3 S3 m3 H3 v3 st3 rs3 r3 w3 => ?_⟩
      refine ⟨_, Z, m3, S3, d2, d3, d, rs3, r2.mono st3, r3, r.mono (st2.trans st3), WR.bind w3 fun u S4 m4 H4 u' st4 rs4 _ w4 => ?_⟩
      exact hr_nx w4 rs4 ((((c.step st rs).step st2 rs2).step st3 rs3).step st4 rs4)
/-! o.f = e -/
theorem put_zip {α : Type} (f : Str) (v : α) : ∀ {ks : List Str} {vs : List α}, ks.length = vs.length → (putKs f ks).length = (putDs f v ks vs).length
  | [], [], _ => rfl
  | k :: ks, x :: xs, h => by
    unfold putKs putDs
    by_cases e : k = f
    · rw [if_pos e, if_pos e]; simpa using h
    · rw [if_neg e, if_neg e]
      simp only [List.length_cons, Nat.add_right_cancel_iff] at h ⊢
      exact put_zip f v h
theorem put_F (f : Str) (v : V) : ∀ {ks : List Str} {vs : List V}, ks.length = vs.length → putF f v (ks.zip vs) = (putKs f ks).zip (putDs f v ks vs)
  | [], [], _ => rfl
  | k :: ks, x :: xs, h => by
    rw [List.zip_cons_cons]
    unfold putF putKs putDs
    by_cases e : k = f
    · rw [if_pos e, if_pos e, if_pos e]; rfl
    · rw [if_neg e, if_neg e, if_neg e, List.zip_cons_cons, put_F f v (by simpa using h)]
theorem put_rel {K : PySem.W.Frag} {Z m : List Addr} {S : Sto} {H : Hp} {f : Str} {d : D} {v : V} (r : RelD K Z m S H d v) : ∀ {ks : List Str} {ds : List D} {vs : List V}, ks.length = ds.length → RelDs K Z m S H ds vs → RelDs K Z m S H (putDs f d ks ds) (putDs f v ks vs)
  | [], _, _, _, .nil => .cons r .nil
  | k :: ks, _, _, hl, .cons h t => by
    unfold putDs
    by_cases e : k = f
    · rw [if_pos e, if_pos e]; exact .cons r t
    · rw [if_neg e, if_neg e]; exact .cons h (put_rel r (by simpa using hl) t)
theorem sa3f {o e : E} {f : Str} {N : List Str} {sc : Scope} {X : Cx} {st : Stmt} (x : XOk T k N sc sc X W) (h : fitS N sc (.setf o f e) st = true) : PS X st (RS W X.K (evS (ctxOf T k) (.setf o f e))) := by
    cases st <;> simp only [fitS, Bool.false_eq_true] at h
    rename_i tgs v q
    rcases tgs with _ | ⟨t1, _ | ⟨t2, ts⟩⟩ <;> simp only [fitSetf, Bool.false_eq_true] at h
    cases t1 <;> simp only [fitSetf1, Bool.false_eq_true] at h
    rename_i eo nm p
    simp only [Bool.and_eq_true, decide_eq_true_eq] at h
    obtain ⟨⟨⟨rfl, h1⟩, h2⟩, h3⟩ := h
    refine PS.mono (ps_fld (snd_E o x h3).1 (snd_E e x h1).1 (swaps_of h2)) fun D σ H r => ?_
    obtain ⟨Z, m, S, σd, c, w⟩ := r
    simp only [evS] at w
    refine ⟨Z, m, S, σd, c, WR.bind w fun d S1 m1 H1 v st rs r w1 => ?_⟩
    refine ⟨Z, m1, S1, σd, c.step st rs, WR.bind w1 fun d2 S2 m2 H2 v2 st2 rs2 r2 w2 => ?_⟩
    have cf := (c.step st rs).step st2 rs2
    have r := r.mono st2
    unfold setfD at w2
    split at w2
    · split at w2
      · rename_i n _ cl ks ds hx
        cases r2 with
        | ref hm =>
          obtain ⟨dx, vs, e1, l1, r1⟩ := rs2.obi hm hx
          rw [ctx_fk] at w2
          cases hk : T.fk cl nm with
          | false => rw [hk] at w2; exact w2.elim
          | true =>
            rw [hk, gd_t] at w2
            split at w2
            · rename_i hlt
              rw [R.bind_ok] at w2
              obtain ⟨l, hl, hf⟩ := fk_of hk
              obtain ⟨c1, c2⟩ := x.wld.clo cl l hl
              have hlv : ks.length = vs.length := by rw [l1]; exact r1.length
              refine ⟨_, _, dx, _, rfl, e1, c1, c2 nm hf, ?_, ?_⟩
              · rw [List.length_zip]; omega
              · rw [put_F nm _ hlv]
                have st3 : Step m2 S2 H2 m2 (S2.set n (.ins cl (putKs nm ks) (putDs nm d ks ds))) (upd H2 _ (.ins (He.ga X.K cl) dx ((putKs nm ks).zip (putDs nm v ks vs)))) := step_put hx rfl hm
                have rs3 := rels_put rs2 hx rfl hm (RelO.ins (c := cl) (dx := dx) (put_zip nm d l1) (put_rel r l1 r1))
                exact hr_nx (WR.step w2 st3) rs3 (cf.step st3 rs3)
            · exact w2.elim
      · exact w2.elim
    · exact w2.elim
theorem sa4 {e : E} {N : List Str} {sc : Scope} {X : Cx} {st : Stmt} (x : XOk T k N sc sc X W) (h : fitS N sc (.expr e) st = true) : PS X st (RS W X.K (evS (ctxOf T k) (.expr e))) := by
    cases st <;> simp only [fitS, Bool.false_eq_true, Bool.and_eq_true] at h
    refine PS.mono (ps_expr (snd_E e x h.1).1 (swaps_of h.2)) fun D σ H r => ?_
    obtain ⟨Z, m, S, σd, c, w⟩ := r
    simp only [evS] at w
    exact ⟨Z, m, S, σd, c, WR.bind w fun d S1 m1 H1 v st rs r w1 => hr_nx w1 rs (c.step st rs)⟩
theorem sa5 {e : E} {N : List Str} {sc : Scope} {X : Cx} {st : Stmt} (x : XOk T k N sc sc X W) (h : fitS N sc (.ret e) st = true) : PS X st (RS W X.K (evS (ctxOf T k) (.ret e))) := by
    cases st <;> try (simp only [fitS, Bool.false_eq_true] at h; done)
    rename_i v p
    cases v <;> simp only [fitS, Bool.false_eq_true] at h
    refine PS.mono (ps_ret (snd_E e x h).1) fun D σ H r => ?_
    obtain ⟨Z, m, S, σd, c, w⟩ := r
    simp only [evS] at w
    exact ⟨Z, m, S, σd, c, WR.bind w fun d S1 m1 H1 v st rs r w1 => hr_rt w1 rs r⟩
theorem sa6  {N : List Str} {sc : Scope} {X : Cx} {st : Stmt} (x : XOk T k N sc sc X W) (h : fitS N sc (.retN) st = true) : PS X st (RS W X.K (evS (ctxOf T k) (.retN))) := by
    cases st <;> try (simp only [fitS, Bool.false_eq_true] at h; done)
    rename_i v p
    cases v <;> simp only [fitS, Bool.false_eq_true] at h
    refine PS.mono ps_retN fun D σ H r => ?_
    obtain ⟨Z, m, S, σd, c, w⟩ := r
    simp only [evS] at w
    exact hr_rt w c.s (show RelD _ _ _ _ _ _ _ from .non)
theorem sa7  {N : List Str} {sc : Scope} {X : Cx} {st : Stmt} (x : XOk T k N sc sc X W) (h : fitS N sc (.pass) st = true) : PS X st (RS W X.K (evS (ctxOf T k) (.pass))) := by
    cases st <;> simp only [fitS, Bool.false_eq_true] at h
    refine PS.mono ps_pass fun D σ H r => ?_
    obtain ⟨Z, m, S, σd, c, w⟩ := r
    simp only [evS] at w
    exact hr_nx w c.s c
theorem sa8  {N : List Str} {sc : Scope} {X : Cx} {st : Stmt} (x : XOk T k N sc sc X W) (h : fitS N sc (.brk) st = true) : PS X st (RS W X.K (evS (ctxOf T k) (.brk))) := by
    cases st <;> simp only [fitS, Bool.false_eq_true] at h
    refine PS.mono ps_break fun D σ H r => ?_
    obtain ⟨Z, m, S, σd, c, w⟩ := r
    simp only [evS] at w
    exact hr_bk w c.s c
theorem sa9  {N : List Str} {sc : Scope} {X : Cx} {st : Stmt} (x : XOk T k N sc sc X W) (h : fitS N sc (.ctn) st = true) : PS X st (RS W X.K (evS (ctxOf T k) (.ctn))) := by
    cases st <;> simp only [fitS, Bool.false_eq_true] at h
    refine PS.mono ps_continue fun D σ H r => ?_
    obtain ⟨Z, m, S, σd, c, w⟩ := r
    simp only [evS] at w
    exact hr_ct w c.s c
theorem sa10  {N : List Str} {sc : Scope} {X : Cx} {st : Stmt} (x : XOk T k N sc sc X W) (h : fitS N sc (.never) st = true) : PS X st (RS W X.K (evS (ctxOf T k) (.never))) := PS.mono ps_never fun D σ H r => by
    obtain ⟨Z, m, S, σd, c, w⟩ := r
    simp only [evS] at w
    exact w.elim
/-! ### raise -/
theorem no_PS {X : Cx} {st : Stmt} {t : TS} (h : ∀ D σ H, ¬ t D σ H) : PS X st t := ⟨fun _ _ σ H D _ q => (h D σ H q).elim⟩
theorem sz0 {y : Str} {N : List Str} {sc : Scope} {X : Cx} {st : Stmt} (x : XOk T k N sc sc X W) (h : fitS N sc (.raise0 y) st = true) : PS X st (RS W X.K (evS (ctxOf T k) (.raise0 y))) := by
  cases el : T.exc.lookup y with
  | none => exact no_PS fun D σ H ⟨Z, m, S, σd, c, w⟩ => by simp only [evS, raise0D, ctx_exc, el] at w; exact w
  | some o =>
    cases o with
    | some ps => exact no_PS fun D σ H ⟨Z, m, S, σd, c, w⟩ => by simp only [evS, raise0D, ctx_exc, el] at w; exact w
    | none =>
      obtain ⟨f1, f2, f3, f4⟩ := He.exc_ok (x.wld.ra0 y el)
      cases st <;> try (simp only [fitS, Bool.false_eq_true] at h; done)
      rename_i ex ca p
      cases ex <;> cases ca <;> simp only [fitS, Bool.false_eq_true] at h
      rename_i e
      unfold fitR0 at h
      split at h
      · simp only [Bool.and_eq_true, decide_eq_true_eq] at h
        obtain ⟨rfl, h2⟩ := h
        obtain ⟨g1, g2⟩ := gl_of x h2
        refine PS.mono (L2N.ps_raise x.calm x.tk (L2N.pmk_own PySem.F.excBase_ValueError f1 (x.wld.cls _ _ el).mgC f2 (raises_own f3 f4) g1 g2)) fun D σ H ⟨Z, m, S, σd, c, w⟩ => ?_
        simp only [evS, raise0D, ctx_exc, el] at w
        exact w m H none Step.refl c.s .no
      · cases h
theorem RelFs.app {K : PySem.W.Frag} {Z m : List Addr} {S : Sto} {H : Hp} : ∀ {a b : List (Str × Ev.D)} {u v : List (Str × V)}, RelFs K Z m S H a u → RelFs K Z m S H b v → RelFs K Z m S H (a ++ b) (u ++ v)
  | _, _, _, _, .nil, r => r
  | _, _, _, _, .cons h t, r => .cons h (RelFs.app t r)
theorem RelFs.rev {K : PySem.W.Frag} {Z m : List Addr} {S : Sto} {H : Hp} : ∀ {a : List (Str × Ev.D)} {u : List (Str × V)}, RelFs K Z m S H a u → RelFs K Z m S H a.reverse u.reverse
  | _, _, .nil => .nil
  | _, _, .cons h t => by
    rw [List.reverse_cons, List.reverse_cons]
    exact (RelFs.rev t).app (.cons h .nil)
theorem RelDs.zip {K : PySem.W.Frag} {Z m : List Addr} {S : Sto} {H : Hp} : ∀ (ns : List Str) {ds : List Ev.D} {vs : List V}, RelDs K Z m S H ds vs → RelFs K Z m S H (ns.zip ds) (ns.zip vs)
  | [], _, _, _ => by simp only [List.zip_nil_left]; exact .nil
  | _ :: _, _, _, .nil => by simp only [List.zip_nil_right]; exact .nil
  | n :: ns, _, _, .cons h t => .cons h (RelDs.zip ns t)
theorem args_V {K : PySem.W.Frag} {Z m : List Addr} {S : Sto} {H : Hp} : ∀ {ps : List (Str × Bool)} {ds : List Ev.D} {vs : List V}, RelDs K Z m S H ds vs → argsX ps ds = true → argsV ps vs = true
  | [], _, _, .nil, _ => rfl
  | [], _, _, .cons _ _, e => by simp [argsX] at e
  | (_, b) :: _, _, _, .nil, e => by cases b <;> simp [argsX] at e
  | (_, false) :: ps, _, _, .cons h t, e => by
    simp only [argsX] at e
    simp only [argsV]
    exact args_V t e
  | (_, true) :: ps, _, _, .cons (d := d) h t, e => by
    cases d <;> simp only [argsX, Bool.false_eq_true, Bool.and_eq_true] at e
    cases h
    simp only [argsV, Bool.and_eq_true]
    exact ⟨e.1, args_V t e.2⟩
theorem passF {X : Cx} : Passes (L2N.CX X.prog X.w) X (fun _ _ _ => False) := fun _ _ _ _ _ _ _ ⟨_, _, _, _, _, _, _, _, _, _, _, _, z⟩ => z.elim
theorem sz1 {y : Str} {es : Es} {N : List Str} {sc : Scope} {X : Cx} {st : Stmt} (x : XOk T k N sc sc X W) (h : fitS N sc (.raise_ y es) st = true) : PS X st (RS W X.K (evS (ctxOf T k) (.raise_ y es))) := by
  have dead : (ctxOf T k).rok y = false → PS X st (RS W X.K (evS (ctxOf T k) (.raise_ y es))) := fun q => no_PS fun D σ H ⟨Z, m, S, σd, c, w⟩ => by simp only [evS, q, gd_f] at w; exact w
  cases el : T.exc.lookup y with
  | none => exact dead (by simp only [Ctx.rok, ctx_exc, el])
  | some o =>
    cases o with
    | none => exact dead (by simp only [Ctx.rok, ctx_exc, el])
    | some ps =>
      by_cases hk : 2 ≤ k
      · obtain ⟨⟨oex, fI, fd, qs, i1, i2, F1, hb⟩, _⟩ := x.wld.raz y ps el
        cases st <;> try (simp only [fitS, Bool.false_eq_true] at h; done)
        rename_i ex ca p
        cases ex <;> cases ca <;> simp only [fitS, Bool.false_eq_true] at h
        rename_i e
        unfold fitRz at h
        split at h
        · rename_i z pz e0 ees pe
          simp only [Bool.and_eq_true, decide_eq_true_eq] at h
          obtain ⟨⟨rfl, h2⟩, hf⟩ := h
          obtain ⟨g1, g2⟩ := gl_of x h2
          have hA := snd_Es (T := T) (k := k) es x hf
          obtain ⟨ir, irs, rfl⟩ : ∃ ir irs, es = .cons ir irs := by
            cases es with
            | nil => simp [fitEs] at hf
            | cons a b => exact ⟨a, b, rfl⟩
          simp only [fitEs, Bool.and_eq_true] at hf
          refine PS.mono (L2N.ps_raise x.calm x.tk (pmkN oex i1 i2 F1 (x.room.mono hk) hb passF g1 (x.wld.cls _ _ el).mgC hA g2 (star_of hf.1) (stars_of hf.2).1)) fun D σ H ⟨Z, m, S, σd, c, w⟩ => ?_
          have rk : (ctxOf T k).rok z = true := by simp only [Ctx.rok, ctx_exc, el, ctx_lev]; exact decide_eq_true hk
          simp only [evS, rk, gd_t] at w
          refine ⟨Z, m, S, σd, c, WR.bind w fun ds S1 m1 H1 vs st rs r w1 => ?_⟩
          simp only [raiseD, ctx_exc, el] at w1
          split at w1
          · rename_i ha
            refine ⟨by rw [← r.length]; exact ha.2, fun a na => ⟨a, vs, by rw [List.append_nil], args_V r ha.1, upd_same, fun d hd nda => ?_⟩⟩
            have hd1 : H1 d = none := by rw [upd_ne nda] at hd; exact hd
            refine ⟨rfl, d, _, upd_same, by rw [upd_ne nda, upd_same], hd1, ?_⟩
            have eH : upd (del (upd (upd (upd H1 a (exo a (He.ga X.K z) none)) d (exd d ((ps.map (·.1)).zip vs).reverse)) a (exo a (He.ga X.K z) (some d))) a) d (.xd ((ps.map (·.1)).zip vs).reverse) = upd H1 d (.xd ((ps.map (·.1)).zip vs).reverse) := by
              funext b
              by_cases h1 : b = d
              · subst h1; rw [upd_same, upd_same]
              · rw [upd_ne h1, upd_ne h1]
                by_cases h2 : b = a
                · subst h2; rw [del_same, na]
                · rw [del_ne h2, upd_ne h2, upd_ne h1, upd_ne h2]
            rw [eH]
            exact w1 m1 _ (some d) (step_new rs hd1) (rels_new rs hd1) (.at upd_same (own_fresh rs hd1) (hid_fresh rs hd1) ((RelDs.zip _ (r.mono (step_new rs hd1))).rev))
          · exact w1.elim
        · cases h
      · exact dead (by simp only [Ctx.rok, ctx_exc, el, ctx_lev]; exact decide_eq_false hk)
theorem sz2 {b : Ss} {c : Str} {i : Nat} {hx : HE} {N : List Str} {sc : Scope} {X : Cx} {st : Stmt} (x : XOk T k N sc sc X W) (xs : XSt X)
    (hb : ∀ {X' : Cx} {W' : WX} {sts : List Stmt}, XOk T k N sc sc X' W' → XSt X' → fitSs N sc b sts = true → PSs X' sts (RB W' X'.K (evSs (ctxOf T k) b)))
    (h : fitS N sc (.try_ b c i hx) st = true) : PS X st (RS W X.K (evS (ctxOf T k) (.try_ b c i hx))) := by
  cases ht : (ctxOf T k).tok c with
  | false => exact no_PS fun D σ H ⟨Z, m, S, σd, cf, w⟩ => by simp only [evS, ht, gd_f] at w; exact w
  | true =>
    have ht' := ht
    simp only [Ctx.tok, ctx_exc, ctx_lev, Bool.and_eq_true, decide_eq_true_eq] at ht'
    obtain ⟨hc, hk2⟩ := ht'
    obtain ⟨o, ho⟩ := Option.isSome_iff_exists.mp hc
    cases st <;> try (simp only [fitS, Bool.false_eq_true] at h; done)
    rename_i eb hds oe fe p
    rcases hds with _ | ⟨hd, _ | ⟨hd2, hds⟩⟩ <;> rcases oe with _ | ⟨o1, os⟩ <;> rcases fe with _ | ⟨f1, fs⟩ <;> simp only [fitS, Bool.false_eq_true, Bool.and_eq_true] at h
    obtain ⟨hbf, hh⟩ := h
    unfold fitHd at hh
    split at hh
    · rename_i y py n e pr ph
      simp only [Bool.and_eq_true, decide_eq_true_eq, Bool.not_eq_true'] at hh
      obtain ⟨⟨⟨⟨⟨⟨⟨rfl, h2⟩, h3⟩, h4⟩, h5⟩, h6⟩, h7⟩, h8⟩ := hh
      obtain ⟨g1, g2⟩ := gl_of x h2
      have hn : Nm X N sc i n := ⟨h3, h5, h6, h7⟩
      have hloc : X.env.kindOf n = some .local := by
        show X.env.scope.names.lookup n = _
        rw [x.sc]
        unfold locB at h4
        split at h4
        · assumption
        · cases h4
      refine PS.mono (L2N.ps_try_as (i := i) (tb := fun W' => RB W' X.K (evSs (ctxOf T k) b)) (ts := fun a cls d D σ H => RH T X.K i a cls d (fun c fs => evH (ctxOf T k) c fs hx) σ H D.rt) (Wout := W) (c := .ref (He.ga X.K y)) xs.stk xs.frm (by rw [x.nN]; exact x.nd) (by rw [x.nN]; exact h3) hloc ⟨g1, g2, .inl (x.wld.cls y o ho).mgC⟩ x.tk
        (fun W' pn xe tk po => hb ⟨x.wld, x.room, po, tk, x.calm, x.nN, x.nd, x.sc, x.fn⟩ ⟨xs.stk, xs.frm⟩ hbf)
        (fun a oe cls d pn hz hf => pss_one (ps_ret (snd_H x hn hk2 hz hf hx h8)))) fun D σ H ⟨Z, m, S, σd, cf, w⟩ => ?_
      simp only [evS, ht, gd_t] at w
      refine ⟨Z, m, S, σd, cf, WR.bindN (evSs_no _ _ _) w fun r S1 m1 H1 bb st rs rel w1 => ?_⟩
      cases r <;> cases bb <;> try exact rel.elim
      · exact hr_nx (D := D) w1 rs rel
      · exact hr_rt (D := D) w1 rs rel
      · exact hr_bk (D := D) w1 rs rel
      · exact hr_ct (D := D) w1 rs rel
      · rename_i σd' c' fs' σ' cls d
        obtain ⟨cf', rfl, xf⟩ := rel
        simp only [tryK, ctx_exc] at w1
        split at w1
        · rename_i hs
          obtain ⟨o', ho'⟩ := Option.isSome_iff_exists.mp hs
          refine ⟨_, x.wld.sub c' y o' o ho' ho, fun hbt a na => ?_, fun hbf => ?_⟩
          · simp only [ctx_sub, hbt] at w1
            refine ⟨Z, m1, S1, σd'.set i none, c', fs', cf'.forget i _, fun hl => List.getElem?_set_self (by simpa using hl), ⟨rfl, xf, o', ho'⟩, ?_⟩
            cases he : evH (ctxOf T k) c' fs' hx (σd'.set i none) S1 with
            | ex _ _ _ => rw [he] at w1; exact w1.elim
            | stuck => rw [he] at w1; exact w1.elim
            | ok y2 S2 =>
              rw [he, R.nox_ok, R.bind_ok] at w1
              have g : WR (fun _ _ _ => False) X.K Z (RelD X.K Z) m1 S1 H1 D.rt (R.ok y2 S2) := fun m2 H2 v st2 rs2 r2 => w1 m2 H2 (.rt v) st2 rs2 r2
              rw [← he] at g
              exact g
          · simp only [ctx_sub, hbf] at w1
            exact hr_ex (D := D) w1 rs ⟨cf', rfl, xf⟩
        · exact w1.elim
    · cases hh
/-- a clause's suite -/
def claOf (T : Prg) (k : Nat) (K : PySem.W.Frag) (p : Str × Nat × HE) : Cla := (.ref (He.ga K p.1), p.2.1, fun a cls d D σ H => RH T K p.2.1 a cls d (fun c fs => evH (ctxOf T k) c fs p.2.2) σ H D.rt)
theorem cla_one (x : XOk T k N sc sc X W) {c : Str} {i : Nat} {hx : HE} {hd : ExceptHandler} {hds : List ExceptHandler} {l : List Cla} (ht : (ctxOf T k).tok c = true) (hh : fitHd N sc c i hx hd = true) (r : ClasOk X hds l) : ClasOk X (hd :: hds) (claOf T k X.K (c, i, hx) :: l) := by
  simp only [Ctx.tok, ctx_exc, ctx_lev, Bool.and_eq_true, decide_eq_true_eq] at ht
  obtain ⟨hc, hk2⟩ := ht
  obtain ⟨o, ho⟩ := Option.isSome_iff_exists.mp hc
  unfold fitHd at hh
  split at hh
  · rename_i y py n e pr ph
    simp only [Bool.and_eq_true, decide_eq_true_eq, Bool.not_eq_true'] at hh
    obtain ⟨⟨⟨⟨⟨⟨⟨rfl, h2⟩, h3⟩, h4⟩, h5⟩, h6⟩, h7⟩, h8⟩ := hh
    obtain ⟨g1, g2⟩ := gl_of x h2
    have hn : Nm X N sc i n := ⟨h3, h5, h6, h7⟩
    have hloc : X.env.kindOf n = some .local := by
      show X.env.scope.names.lookup n = _
      rw [x.sc]
      unfold locB at h4
      split at h4
      · assumption
      · cases h4
    exact .cons ⟨g1, g2, .inl (x.wld.cls y o ho).mgC⟩ (by rw [x.nN]; exact h3) hloc (fun a oe cls d pn hz hf => pss_one (ps_ret (snd_H x hn hk2 hz hf hx h8))) r
  · cases hh
theorem cla_all (x : XOk T k N sc sc X W) : ∀ {cs : List (Str × Nat × HE)} {hds : List ExceptHandler}, (cs.all fun p => (ctxOf T k).tok p.1) = true → fitHds N sc cs hds = true → ClasOk X hds (cs.map (claOf T k X.K))
  | [], _, _, h => by simp [fitHds] at h
  | (c, i, hx) :: cs, [], _, h => by cases cs <;> simp [fitHds] at h
  | [(c, i, hx)], [hd], ht, h => by
    simp only [fitHds] at h
    simp only [List.all_cons, List.all_nil, Bool.and_true] at ht
    exact cla_one x ht h .nil
  | [(c, i, hx)], hd :: hd2 :: hds, ht, h => by simp [fitHds] at h
  | (c, i, hx) :: c2 :: cs, hd :: hds, ht, h => by
    simp only [fitHds, Bool.and_eq_true] at h
    rw [List.all_cons, Bool.and_eq_true] at ht
    exact cla_one x ht.1 h.1 (cla_all x ht.2 h.2)
theorem hsel_ok (x : XOk T k N sc sc X W) {Z m : List Addr} {S : Sto} {H : Hp} {D : Ends} {σd : Sg} {σ : St} {c' : Str} {fs : List (Str × Ev.D)} {d : Option Addr} {o' : Option (List (Str × Bool))} (ho' : T.exc.lookup c' = some o') (rs : RelS X.K Z m S H) (cf : Cf X.K Z m S H σd σ)
    (xf : XF X.K Z m S H fs d) : ∀ {cs : List (Str × Nat × HE)}, (cs.all fun p => (ctxOf T k).tok p.1) = true → WR EX X.K Z (relF X.K Z) m S H (endOf D W) (hsel (ctxOf T k) c' fs cs σd S) → wClas X.K W D (cs.map (claOf T k X.K)) (.ref (He.ga X.K c')) d σ H
  | [], _, w => hr_ex (D := D) w rs ⟨cf, rfl, xf⟩
  | (c, i, hx) :: cs, ht, w => by
    rw [List.all_cons, Bool.and_eq_true] at ht
    have ht1 := ht.1
    simp only [Ctx.tok, ctx_exc, ctx_lev, Bool.and_eq_true, decide_eq_true_eq] at ht1
    obtain ⟨o, ho⟩ := Option.isSome_iff_exists.mp ht1.1
    refine ⟨_, x.wld.sub c' c o' o ho' ho, fun hbt a na => ?_, fun hbf => ?_⟩
    · simp only [hsel, ctx_sub, hbt] at w
      refine ⟨Z, m, S, σd.set i none, c', fs, cf.forget i _, fun hl => List.getElem?_set_self (by simpa using hl), ⟨rfl, xf, o', ho'⟩, ?_⟩
      cases he : evH (ctxOf T k) c' fs hx (σd.set i none) S with
      | ex _ _ _ => rw [he] at w; exact w.elim
      | stuck => rw [he] at w; exact w.elim
      | ok y2 S2 =>
        rw [he, R.nox_ok, R.bind_ok] at w
        have g : WR (fun _ _ _ => False) X.K Z (RelD X.K Z) m S H D.rt (R.ok y2 S2) := fun m2 H2 v st2 rs2 r2 => w m2 H2 (.rt v) st2 rs2 r2
        rw [← he] at g
        exact g
    · simp only [hsel, ctx_sub, hbf] at w
      exact hsel_ok x ho' rs cf xf ht.2 w
theorem szm {b : Ss} {cs : List (Str × Nat × HE)} {N : List Str} {sc : Scope} {X : Cx} {st : Stmt} (x : XOk T k N sc sc X W) (xs : XSt X)
    (hb : ∀ {X' : Cx} {W' : WX} {sts : List Stmt}, XOk T k N sc sc X' W' → XSt X' → fitSs N sc b sts = true → PSs X' sts (RB W' X'.K (evSs (ctxOf T k) b)))
    (h : fitS N sc (.trym b cs) st = true) : PS X st (RS W X.K (evS (ctxOf T k) (.trym b cs))) := by
  cases ht : cs.all fun p => (ctxOf T k).tok p.1 with
  | false => exact no_PS fun D σ H ⟨Z, m, S, σd, cf, w⟩ => by simp only [evS, ht, gd_f] at w; exact w
  | true =>
    cases st <;> try (simp only [fitS, Bool.false_eq_true] at h; done)
    rename_i eb hds oe fe p
    rcases oe with _ | ⟨o1, os⟩ <;> rcases fe with _ | ⟨f1, fs⟩ <;> simp only [fitS, Bool.false_eq_true, Bool.and_eq_true] at h
    obtain ⟨hbf, hh⟩ := h
    have call := cla_all x ht hh
    rcases hds with _ | ⟨hd, hds⟩
    · rcases cs with _ | ⟨⟨c1, i1, h1⟩, _ | ⟨c2, cs⟩⟩ <;> simp [fitHds] at hh
    refine PS.mono (ps_clauses (tb := fun W' => RB W' X.K (evSs (ctxOf T k) b)) (Wout := W) xs.stk xs.frm (by rw [x.nN]; exact x.nd) x.tk
      (fun W' pn xe tk po => hb ⟨x.wld, x.room, po, tk, x.calm, x.nN, x.nd, x.sc, x.fn⟩ ⟨xs.stk, xs.frm⟩ hbf) call) fun D σ H ⟨Z, m, S, σd, cf, w⟩ => ?_
    simp only [evS, ht, gd_t] at w
    refine ⟨Z, m, S, σd, cf, WR.bindN (evSs_no _ _ _) w fun r S1 m1 H1 bb st rs rel w1 => ?_⟩
    cases r <;> cases bb <;> try exact rel.elim
    · exact hr_nx (D := D) w1 rs rel
    · exact hr_rt (D := D) w1 rs rel
    · exact hr_bk (D := D) w1 rs rel
    · exact hr_ct (D := D) w1 rs rel
    · rename_i σd' c' fs' σ' cls d
      obtain ⟨cf', rfl, xf⟩ := rel
      simp only [trymK, ctx_exc] at w1
      split at w1
      · rename_i hs
        obtain ⟨o', ho'⟩ := Option.isSome_iff_exists.mp hs
        exact hsel_ok x ho' rs cf' xf ht w1
      · exact w1.elim
mutual
theorem snd_S : ∀ (ir : Ev.S) {N : List Str} {sc : Scope} {X : Cx} {st : Stmt} {W : WX}, XOk T k N sc sc X W → XSt X → fitS N sc ir st = true → PS X st (RS W X.K (evS (ctxOf T k) ir))
  | .asg (.nm i) e, N, sc, X, st, W, x, xs, h => sa1 x h
  | .asg (.tp is) e, N, sc, X, st, W, x, xs, h => sa2 x h
  | .seti o i e, N, sc, X, st, W, x, xs, h => sa3 x h
  | .setf o f e, N, sc, X, st, W, x, xs, h => sa3f x h
  | .expr e, N, sc, X, st, W, x, xs, h => sa4 x h
  | .ret e, N, sc, X, st, W, x, xs, h => sa5 x h
  | .retN, N, sc, X, st, W, x, xs, h => sa6 x h
  | .ifs t a b, N, sc, X, st, W, x, xs, h => by
    cases st <;> simp only [fitS, Bool.false_eq_true, Bool.and_eq_true] at h
    refine PS.mono (ps_if ((snd_E t x h.1.1.2).2 h.1.1.1).1 (snd_Ss a x xs h.1.2) (snd_Ss b x xs h.2)) fun D σ H r => ?_
    obtain ⟨Z, m, S, σd, c, w⟩ := r
    simp only [evS] at w
    refine ⟨Z, m, S, σd, c, WR.bind w fun d S1 m1 H1 v st rs r w1 => ?_⟩
    have r : d = v := r
    subst r
    cases d with
    | true => rw [if_pos rfl]; exact ⟨Z, m1, S1, σd, c.step st rs, WR.any (evSs_no _ _ _) w1⟩
    | false => rw [if_neg Bool.false_ne_true]; exact ⟨Z, m1, S1, σd, c.step st rs, WR.any (evSs_no _ _ _) w1⟩
  | .for_ tg it b, N, sc, X, st, W, x, xs, h => by
    cases st <;> try (simp only [fitS, Bool.false_eq_true] at h; done)
    rename_i etg eit eb els p
    cases els <;> simp only [fitS, Bool.false_eq_true, Bool.and_eq_true] at h
    obtain ⟨wi, s1, s2⟩ := snd_FI (T := T) (k := k) (tg := etg) x h.1.2
    exact PS.mono (ps_for x.po x.calm s1 (pg_tg x h.1.1) (snd_Ss b x xs h.2) (foldedI_of h.1.2)) fun D σ H r => s2 r
  | .whl t b, N, sc, X, st, W, x, xs, h => by
    cases st <;> try (simp only [fitS, Bool.false_eq_true] at h; done)
    rename_i et eb els p
    cases els <;> simp only [fitS, Bool.false_eq_true, Bool.and_eq_true] at h
    refine PS.mono (ps_while x.po ((snd_E t x h.1.2).2 h.1.1).1 (snd_Ss b x xs h.2)) fun D σ H r => wh_go (n := T.w) (evSs_no b) ?_
    exact (show RS W X.K (evS (ctxOf T k) (.whl t b)) D σ H from r)
  | .raise0 y, N, sc, X, st, W, x, xs, h => sz0 x h
  | .try_ b c i hx, N, sc, X, st, W, x, xs, h => sz2 x xs (fun x' xs' h' => snd_Ss b x' xs' h') h
  | .trym b cs, N, sc, X, st, W, x, xs, h => szm x xs (fun x' xs' h' => snd_Ss b x' xs' h') h
  | .raise_ y es, N, sc, X, st, W, x, xs, h => sz1 x h
  | .pass, N, sc, X, st, W, x, xs, h => sa7 x h
  | .brk, N, sc, X, st, W, x, xs, h => sa8 x h
  | .ctn, N, sc, X, st, W, x, xs, h => sa9 x h
  | .never, N, sc, X, st, W, x, xs, h => sa10 x h
theorem snd_Ss : ∀ (irs : Ss) {N : List Str} {sc : Scope} {X : Cx} {sts : List Stmt} {W : WX}, XOk T k N sc sc X W → XSt X → fitSs N sc irs sts = true → PSs X sts (RB W X.K (evSs (ctxOf T k) irs))
  | .nil, N, sc, X, sts, W, x, xs, h => by
    cases sts <;> simp only [fitSs, Bool.false_eq_true] at h
    refine PSs.mono pss_nil fun D σ H r => ?_
    obtain ⟨Z, m, S, σd, c, w⟩ := r
    simp only [evSs] at w
    exact hr_nx w c.s c
  | .cons s ss, N, sc, X, sts, W, x, xs, h => by
    cases sts <;> simp only [fitSs, Bool.false_eq_true, Bool.and_eq_true] at h
    exact PSs.mono (pss_cons (snd_S s x xs h.1) (snd_Ss ss x xs h.2)) fun D σ H r => ps_seq (by simpa only [RB, evSs] using r)
end
end
end Ev

namespace Ev
open PySem L2
variable {EX : XK} {W : WX}
/-! ### every def of the text keeps its evaluator's promise -/
/-- how a def's parameters are bound -/
def BindF (K : PySem.W.Frag) (F : Fn) (fd : FuncData) : Prop := match F.star with
  | false => Binds K fd F.ps []
  | true => ∃ ps pv, F.ps = ps ++ [pv] ∧ ∀ us rest : List Value, us.length = ps.length → bindArgs fd ⟨us ++ rest, []⟩ = (newTuple rest >>= fun t => pure (ps.zip us ++ [(pv, t)]))
structure Good (K : PySem.W.Frag) (mg : Str → Option Value) (F : Fn) (d : He.DefD) (fa : Addr) : Prop where
  fn : ∃ fd, FunD K d.name d.qual d.params d.body d.scope [] [] fa fd ∧ BindF K F fd
  glo : F.own = none → mg F.base = some (.ref fa)
  sc : FnScope F.ns F.ps d.scope
  fit : fitSs F.ns d.scope F.body d.body = true
section
variable {T : Prg} {P : Program} {w : World} {K : PySem.W.Frag} {mg : Str → Option Value} {base : Heap}
theorem start_cf {Z m : List Addr} {S : Sto} {H : Hp} {ds : List D} {vs : List V} (rs : RelS K Z m S H) (r : RelDs K Z m S H ds vs) (N : List Str) : Cf K Z m S H (ds.map some ++ List.replicate (N.length - ds.length) none) (L2.start N vs) := by
  have hl := r.length
  refine ⟨rs, ?_, fun i d e => ?_⟩
  · unfold L2.start
    simp [hl]
  · have hi : i < ds.length := by
      by_cases hi : i < ds.length
      · exact hi
      · rw [List.getElem?_append_right (by simpa using hi), List.getElem?_replicate] at e
        split at e <;> cases e
    rw [List.getElem?_append_left (by simpa using hi), List.getElem?_map] at e
    cases q : ds[i]? with
    | none => rw [q] at e; cases e
    | some d2 =>
      rw [q] at e
      cases e
      obtain ⟨v, h1, h2⟩ := r.get q
      refine ⟨v, ?_, h2⟩
      unfold L2.start
      rw [List.getElem?_append_left (by simp; omega), List.getElem?_map, h1]
      rfl
/-- the promise of a def's body -/
def spB (T : Prg) (k : Nat) (K : PySem.W.Frag) (F : Fn) : Sp := fun vs H Q E => ∃ Z m S as, RelS K Z m S H ∧ RelDs K Z m S H as vs ∧ as.length = F.ps.length ∧ WR E K Z (RelD K Z) m S H Q ((evSs (ctxOf T k) F.body (as.map some ++ List.replicate (F.ns.length - as.length) none) S).bind retK)
theorem body_good {k : Nat} (W : WldF T k P w K mg base) {F : Fn} {d : He.DefD} {f : Addr} {cdv : Value} {A : Around} {outer : List Env} {s : Shared} {H : Hp} {vs : List V} {Q : VK} {E : XK} (sc : FnScope F.ns F.ps d.scope) (fit : fitSs F.ns d.scope F.body d.body = true)
    (hr : Room k (A.deeper (PyProof.Rows.envOfC d.qual d.scope s.heap.objs.size f cdv))) (h : spB T k K F vs H Q E) :
    ∃ t, PSs (cxOf (L2N.CX P w) P w K mg base F.ns d.qual d.scope f cdv A outer s H E) d.body t ∧ t { nx := fun _ H' => Q .non H', rt := Q } (start F.ns vs) H := by
  have x : XOk T k F.ns d.scope d.scope (cxOf (L2N.CX P w) P w K mg base F.ns d.qual d.scope f cdv A outer s H E) (fun cls dd _ H => E cls dd H) :=
    ⟨W, hr, passes_of rfl, L2N.takes_of rfl rfl rfl rfl, rfl, rfl, sc.nd, rfl, fun _ _ => rfl⟩
  refine ⟨_, snd_Ss F.body x ⟨rfl, rfl⟩ fit, ?_⟩
  obtain ⟨Z, m, S, ds, rs, r, _, w⟩ := h
  refine ⟨Z, m, S, _, start_cf rs r F.ns, WR.bindN (evSs_no _ _ _) w fun fl S1 m1 H1 b st rs1 rel w1 => ?_⟩
  cases fl <;> cases b <;> try exact rel.elim
  · exact WR.here (rel := RelD K Z) (Q := Q) (a := D.non) (b := V.non) w1 rs1 .non
  · exact WR.here (rel := RelD K Z) (Q := Q) w1 rs1 rel
  · exact w1.elim
  · exact w1.elim
  · obtain ⟨_, rfl, xf⟩ := rel
    exact w1 m1 H1 _ Step.refl rs1 xf
theorem fn_body {k : Nat} (W : WldF T k P w K mg base) {F : Fn} {d : He.DefD} {fa : Addr} {fd : FuncData} (sc : FnScope F.ns F.ps d.scope) (fit : fitSs F.ns d.scope F.body d.body = true) (FD : FunD K d.name d.qual d.params d.body d.scope [] [] fa fd) :
    FnOk P w K mg base (L2N.CX P w) (k + 1) fa fd F.ps (spB T k K F) :=
  FD.ok sc (fun vs H Q E ⟨Z, m, S, ds, rs, r, hl, w⟩ => by rw [← r.length]; exact hl) fun cdv A outer s H vs Q E hr h => body_good W sc fit hr h
theorem spR_B {k : Nat} {f : Str} {F : Fn} (hf : T.fns.lookup f = some F) (hs : F.star = false) : ∀ vs H Q E, spR K (callN T (k + 1) F.base f) vs H Q E → spB T k K F vs H Q E := fun vs H Q E ⟨Z, m, S, ds, rs, r, w⟩ => by
  simp only [callN, hf, if_true, argsD, hs] at w
  split at w
  · rename_i as e
    split at e
    · rename_i hl
      cases e
      exact ⟨Z, m, S, _, rs, r, hl, w⟩
    · cases e
  · exact w.elim
theorem fn_good {k : Nat} (W : WldF T k P w K mg base) {f : Str} {F : Fn} {d : He.DefD} {fa : Addr} {fd : FuncData} (hf : T.fns.lookup f = some F) (hs : F.star = false) (G : Good K mg F d fa) (FD : FunD K d.name d.qual d.params d.body d.scope [] [] fa fd) :
    FnOk P w K mg base (L2N.CX P w) (k + 1) fa fd F.ps (spR K (callN T (k + 1) F.base f)) := FnOk.imp (fn_body W G.sc G.fit FD) (spR_B hf hs)
theorem cxUpN {P : Program} {w : World} : StX.CXUp (L2N.CX P w) := by
  rintro outer s H s2 H2 E e s' un kp ho ⟨a, B, H', cls, d, ea, fl, hok, ub, na, os, ag, he⟩
  refine ⟨a, B, H', cls, d, ea, fl, hok, ⟨fun b o q n hb => ub.keep b o (kp b o q) (un.free b o q n (by simp)) hb, fun b o q hb => ub.slot b o (kp b o q) hb, fun b o q n => ub.free b o (kp b o q) (un.free b o q n (by simp)),
    fun b o q hb => ub.there b o (kp b o q) hb, fun b xs q => ub.tups b xs (un.tups b xs q), fun b o xs q => ub.frzs b o xs (un.frzs b o xs q), fun b ps q => ?_⟩, na, os.trans ho, ag, he⟩
  obtain ⟨m1, e1⟩ := un.tbls b ps q
  obtain ⟨m2, e2⟩ := ub.tbls b _ e1
  exact ⟨m1 ++ m2, by rw [e2, Array.append_assoc]⟩
theorem fn_rel {k : Nat} (W : WldF T k P w K mg base) {f : Str} {F : Fn} {d : He.DefD} {fa : Addr} (hf : T.fns.lookup f = some F) (G : Good K mg F d fa) : FR P w K mg base T (k + 1) fa (k + 1) F.base f := by
  obtain ⟨fd, FD, b⟩ := G.fn
  unfold BindF at b
  cases hs : F.star with
  | false =>
    rw [hs] at b
    refine FnR.imp (FnOk.raw (fn_body W G.sc G.fit FD) b .nil) fun vs H Q E h => ?_
    rw [List.append_nil]
    exact spR_B hf hs vs H Q E h
  | true =>
    rw [hs] at b
    obtain ⟨ps, pv, hp, hb⟩ := b
    obtain ⟨oc, od, dV, kV, doc, pm, an, cdv, ct, osl, rfl, lk, hcd, _, _⟩ := FD.ex
    have sc := G.sc
    rw [hp] at sc
    refine FnR.imp (StX.fn_star (sp := spB T k K F) lk hcd sc cxUpN hb fun A outer s H vs Q E hr h => body_good W G.sc G.fit hr h) fun vs H Q E ⟨Z, m, S, ds, rs, r, w⟩ => ?_
    simp only [callN, hf, if_true, argsD, hs] at w
    split at w
    · rename_i as e
      split at e
      · rename_i hc
        cases e
        have hl : F.ps.length - 1 = ps.length := by rw [hp]; simp
        rw [hl] at w
        have hlen := r.length
        have hps : F.ps.length = ps.length + 1 := by rw [hp]; simp
        refine ⟨vs.take ps.length, vs.drop ps.length, (List.take_append_drop _ _).symm, ?_, ?_, fun p hn => ?_⟩
        · rw [List.length_take]; omega
        · rw [List.length_drop]
          have := hc.2.2
          have h2 : lim ≤ sizeLine := by rw [sizeLine_eq]; unfold lim; omega
          omega
        · have st : Step m S H m S (upd H p (.tup (vs.drop ps.length))) := step_new rs hn
          refine ⟨Z, m, S, _, rels_new rs hn, ((r.take ps.length).mono st).app (.cons (.tup upd_same (own_fresh rs hn) (hid_fresh rs hn) ((r.drop ps.length).mono st)) .nil), ?_, WR.step w st⟩
          simp only [List.length_append, List.length_take, List.length_singleton]
          omega
      · cases e
    · exact w.elim
/-- what the head says that does not hang on the level -/
structure Hds (T : Prg) (P : Program) (w : World) (K : PySem.W.Frag) (mg : Str → Option Value) (base : Heap) : Prop where
  blt : ∀ f : Blt, mg f.nm = none
  rng : mg "range" = none
  boo : mg "bool" = none
  con : ∀ x d, T.con.lookup x = some d → ∃ u v, mg x = some u ∧ RelV v u ∧ ∀ Z m S H, RelD K Z m S H d v
  cls : ∀ x o, T.exc.lookup x = some o → XCl K mg x
  raz : ∀ x ps, T.exc.lookup x = some (some ps) → XRz P w K mg base x ps ∧ ∀ f, f ∈ ps.map (·.1) → PySem.W.findIn K (.ref (He.ga K x)) f = some none
  ra0 : ∀ x, T.exc.lookup x = some none → (He.Fa.exc x).ok K = true
  sub : ∀ x y o q, T.exc.lookup x = some o → T.exc.lookup y = some q → PySem.W.exmOne K (.ref (He.ga K x)) (.ref (He.ga K y)) = some (decide ((x, y) ∈ T.sub))
  kin : ∀ x o, T.exc.lookup x = some o → ∃ a fd qs, mg T.kin.1 = some (.ref a) ∧ PySem.W.keepIn K (.ref a) = true ∧ Binds K fd qs [] ∧
    ∀ (p : Addr) (d : Option Addr), KinOk P w K mg base a fd qs p (.ref (He.ga K x)) d (spKin K p d (T.kin.2.filter fun y => decide ((x, y) ∈ T.sub)))
/-- what the head says of the other keys -/
structure Keys (T : Prg) (K : PySem.W.Frag) (mg : Str → Option Value) : Prop where
  fns : ∀ f F, T.fns.lookup f = some F → ∃ d fa, Good K mg F d fa ∧ (F.own = none → PySem.W.keepIn K (.ref fa) = true)
  mks : ∀ f b i z, T.fns.lookup f = none → T.eks.lookup f = some (.mk b i z) → ∃ F d fa, T.fns.lookup i = some F ∧ F.base = i ∧ Good K mg F d fa ∧ mg b = some (.ref (He.ga K b)) ∧ Mk K (He.ga K b) fa
  mth : ∀ c m v f, T.mt.lookup (c, m, v) = some f → v ≠ "low" → v ≠ "prop" → Cls K (He.ga K c) ∧ ∃ F d fa, T.fns.lookup f = some F ∧ F.base = f ∧ Good K mg F d fa ∧ Meth K (He.ga K c) m fa
  low : ∀ c m f, T.mt.lookup (c, m, ("low" : Str)) = some f → T.fns.lookup f = none ∧ ∃ g F d fa, T.eks.lookup f = some (.low g) ∧ T.fns.lookup g = some F ∧ F.base = g ∧ Good K mg F d fa ∧ Meth K (He.ga K c) m fa
  prp : ∀ c m f, T.mt.lookup (c, m, ("prop" : Str)) = some f → T.fns.lookup f = none ∧ Cls K (He.ga K c) ∧ ∃ g F d fa p, T.eks.lookup f = some (.low g) ∧ T.fns.lookup g = some F ∧ F.base = g ∧ Good K mg F d fa ∧ PropOf K (He.ga K c) m p fa
  clo : ∀ c l, T.cls.lookup c = some l → Cls K (He.ga K c) ∧ ∀ f, f ∈ l → NoAttr K (He.ga K c) f
  kcs : ∀ c f d, T.kcs.lookup (c, f) = some d → ∃ v u mc, mg c = some (.ref (He.ga K c)) ∧ ClX.CRead K (He.ga K c) mc ∧ ClX.CVal K (He.ga K c) mc f v u ∧ ∀ Z m S H, RelD K Z m S H d v
  isl : ∀ b c v, T.isl.lookup (b, c) = some v → IslOk K mg b c v
theorem fr_zero {a : Addr} {x f : Str} : FR P w K mg base T 0 a 0 x f := fun A outer s H us vs Q E _ _ _ ⟨Z, m, S, ds, rs, r, w⟩ => w.elim
theorem wld_all (h : Hds T P w K mg base) (kk : Keys T K mg) : ∀ k, WldF T k P w K mg base
  | 0 => by
    refine ⟨h.blt, h.rng, h.boo, h.con, fun f F e => ?_, fun f b i z e1 e2 => ?_, fun c m v f e h1 h2 => ?_, fun c m f e => ?_, fun c m f e => ?_, kk.clo, kk.kcs, kk.isl, h.cls, h.raz, h.ra0, h.sub, h.kin⟩
    · obtain ⟨d, fa, G, kp⟩ := kk.fns f F e
      refine ⟨fa, ?_, fr_zero⟩
      unfold FAt
      split
      · rename_i ho
        exact ⟨G.glo ho, kp ho⟩
      · trivial
    · obtain ⟨F, d, fa, _, _, G, m1, M⟩ := kk.mks f b i z e1 e2
      exact ⟨_, m1, M, fun j hj => by cases hj⟩
    · obtain ⟨c1, F, d, fa, _, _, G, M⟩ := kk.mth c m v f e h1 h2
      exact ⟨c1, _, M, fr_zero⟩
    · obtain ⟨_, g, F, d, fa, _, _, _, G, M⟩ := kk.low c m f e
      exact ⟨_, M, fun j hj => by cases hj⟩
    · obtain ⟨_, c1, g, F, d, fa, p, _, _, _, G, M⟩ := kk.prp c m f e
      exact ⟨c1, _, _, M, fun j hj => by cases hj⟩
  | k + 1 => by
    have W := wld_all h kk k
    have lower : ∀ {g : Str} {F : Fn} {d : He.DefD} {fa : Addr}, T.fns.lookup g = some F → F.base = g → Good K mg F d fa → FR P w K mg base T k fa k g g := fun {g F d fa} e eb G => by
      cases k with
      | zero => exact fr_zero
      | succ k =>
        have := fn_rel (wld_all h kk k) e G
        rw [eb] at this
        exact this
    refine ⟨h.blt, h.rng, h.boo, h.con, fun f F e => ?_, fun f b i z e1 e2 => ?_, fun c m v f e h1 h2 => ?_, fun c m f e => ?_, fun c m f e => ?_, kk.clo, kk.kcs, kk.isl, h.cls, h.raz, h.ra0, h.sub, h.kin⟩
    · obtain ⟨d, fa, G, kp⟩ := kk.fns f F e
      refine ⟨fa, ?_, fn_rel W e G⟩
      unfold FAt
      split
      · rename_i ho
        exact ⟨G.glo ho, kp ho⟩
      · trivial
    · obtain ⟨F, d, fa, e3, eb, G, m1, M⟩ := kk.mks f b i z e1 e2
      refine ⟨_, m1, M, fun j hj => ?_⟩
      cases hj
      exact lower e3 eb G
    · obtain ⟨c1, F, d, fa, e3, eb, G, M⟩ := kk.mth c m v f e h1 h2
      refine ⟨c1, _, M, ?_⟩
      have := fn_rel W e3 G
      rw [eb] at this
      exact this
    · obtain ⟨e0, g, F, d, fa, e2, e3, eb, G, M⟩ := kk.low c m f e
      refine ⟨_, M, fun j hj => ?_⟩
      cases hj
      refine FnR.imp (lower e3 eb G) fun vs H Q E ⟨Z, m, S, ds, rs, r, w⟩ => ⟨Z, m, S, ds, rs, r, ?_⟩
      simpa only [callN, e0, e2] using w
    · obtain ⟨e0, c1, g, F, d, fa, p, e2, e3, eb, G, M⟩ := kk.prp c m f e
      refine ⟨c1, _, _, M, fun j hj => ?_⟩
      cases hj
      refine FnR.imp (lower e3 eb G) fun vs H Q E ⟨Z, m, S, ds, rs, r, w⟩ => ⟨Z, m, S, ds, rs, r, ?_⟩
      simpa only [callN, e0, e2] using w
end
/-! ### facts of the head, by one Hook -/
def nameFree : List Str := ["len", "abs", "int", "list", "tuple", "str", "max", "min", "sum", "any", "all", "isinstance", "range", "bool", "sorted"]
inductive Cn where | int (i : Int) | str (x : Str) | tup (xs : List Str)
def Cn.d : Cn → D
  | .int i => .int i
  | .str x => .str x
  | .tup xs => .tup (xs.map .str)
def Cn.ok (K : PySem.W.Frag) (x : Str) : Cn → Bool
  | .int i => (He.Fa.int x i).ok K
  | .str z => (He.Fa.str x z).ok K
  | .tup xs => (He.Fa.glo x).ok K && He.tupB K x (xs.map .str)
def chk (cs : List (Str × Cn)) (fn : List He.DefD) (bx : PySem.W.Frag → Bool) (K : PySem.W.Frag) : Bool := bx K && ((nameFree.all fun x => (He.Fa.free x).ok K) && (cs.all fun c => c.2.ok K c.1) && (fn.all fun d => (He.Fa.glo d.at_.1).ok K))
/-- a property's getter -/
def getOf (K : PySem.W.Frag) (p : Addr) : Addr := match PySem.W.recIn K p "property" with
  | some (.ref g :: _) => g
  | _ => 0
def pAd (K : PySem.W.Frag) (p : Str × Option Str) : Addr := getOf K (He.ma K (He.ga K p.1) (p.2.getD ""))
def fnA (K : PySem.W.Frag) (a : Addr) : He.FnW := match (K.lookup a).map PySem.Obj.data with
  | some (.func fd) => some (fd.name, fd.qualname, fd.params, fd.body, fd.scope, fd.globals, fd.closure, fd.builtins)
  | _ => none
def okA (K : PySem.W.Frag) (a : Addr) (d : He.DefD) : Bool := PySem.W.keepIn K (.ref a) && (match (K.lookup a).map PySem.Obj.data with
  | some (.func fd) => PySem.W.codeIn K fd.code d.qual && (He.dflB K fd.defaults (d.dvs K) && He.kwdB K fd.kwdefaults (d.kws K))
  | _ => false)
theorem funA {K : PySem.W.Frag} {a : Addr} {d : He.DefD} (e : fnA K a = d.val) (c : okA K a d = true) : ∃ fd, FunD K d.name d.qual d.params d.body d.scope (d.dvs K) (d.kws K) a fd := by
  obtain ⟨kp, c2⟩ := He.ba c
  unfold fnA at e
  cases hq : K.lookup a with
  | none => rw [hq] at c2; cases c2
  | some o =>
    obtain ⟨oc, od, dt, osl⟩ := o
    rw [hq] at c2 e
    cases dt <;> try (cases c2; done)
    rename_i fd
    obtain ⟨a1, a2, a3, a4, a5, a6, a7, a8, a9, a10, a11, a12, a13, a14, a15⟩ := fd
    have e2 : (some (a1, a2, a3, a4, a5, a6, a7, a15) : He.FnW) = some (d.name, d.qual, d.params, .stmts d.body, d.scope, mainGlobals, [], builtinsNs) := e
    injection e2 with e2
    simp only [Prod.mk.injEq] at e2
    obtain ⟨rfl, rfl, rfl, rfl, rfl, rfl, rfl, rfl⟩ := e2
    have c3 : (PySem.W.codeIn K a13 d.qual && (He.dflB K a8 (d.dvs K) && He.kwdB K a9 (d.kws K))) = true := c2
    obtain ⟨k1, k2⟩ := He.ba c3
    obtain ⟨k3, k4⟩ := He.ba k2
    exact ⟨_, ⟨oc, od, a8, a9, a10, a11, a12, a13, a14, osl, rfl, hq, k1, He.dflB_ok k3, He.kwdB_ok k4⟩, kp⟩
def obsX (cs : List (Str × Cn)) (fn pn : List He.DefD) (bx : PySem.W.Frag → Bool) (K : PySem.W.Frag) : He.AlD := (chk cs fn bx K && ((fn.all fun d => d.ok K) && (pn.all fun d => okA K (pAd K d.at_) d)), (fn.map fun d => He.fnW K d.at_) ++ (pn.map fun d => fnA K (pAd K d.at_)))
def SaysX (cs : List (Str × Cn)) (fn pn : List He.DefD) (bx : PySem.W.Frag → Bool) (K : PySem.W.Frag) : Prop := obsX cs fn pn bx K = He.valD (fn ++ pn)
def obsXG (n : Nat) (cs : List (Str × Cn)) (fn pn : List He.DefD) (bx : PySem.W.Frag → Bool) (g : Addr → Option Obj) : He.AlD := obsX cs fn pn bx (He.frG g (cStatics :: He.asD g n))
def hookX (n : Nat) (cs : List (Str × Cn)) (fn pn : List He.DefD) (bx : PySem.W.Frag → Bool) : PySem.W.Hook where
  α := He.AlD
  obs := fun s => obsXG n cs fn pn bx s.heap.get?
  val := fun _ => He.valD (fn ++ pn)
  says := fun _ h => ∃ K : PySem.W.Frag, K.In h ∧ SaysX cs fn pn bx K
  of := fun _ _ e => ⟨_, He.frG_in, e⟩
  keeps := fun _ _ _ ⟨K, hK, c⟩ k => ⟨K, PySem.W.Frag.In.keeps hK k, c⟩
theorem obsXG_eq {n : Nat} {cs : List (Str × Cn)} {fn pn : List He.DefD} {bx : PySem.W.Frag → Bool} {g : Addr → Option Obj} {s : Shared} (h : ∀ a, g a = s.heap.get? a) : obsXG n cs fn pn bx g = (hookX n cs fn pn bx).obs s := by
  have e : g = s.heap.get? := funext h
  rw [e] <;> rfl
section
variable {cs : List (Str × Cn)} {fn pn : List He.DefD} {bx : PySem.W.Frag → Bool} {K : PySem.W.Frag} {h : Heap} {mg : Str → Option Value}
theorem SaysX.chk (c : SaysX cs fn pn bx K) : Ev.chk cs fn bx K = true ∧ (∀ d ∈ fn, d.ok K = true) ∧ ∀ d ∈ pn, okA K (pAd K d.at_) d = true := by
  obtain ⟨c1, c2⟩ := He.ba (show (Ev.chk cs fn bx K && ((fn.all fun d => d.ok K) && (pn.all fun d => okA K (pAd K d.at_) d))) = true from congrArg (fun z : He.AlD => z.1) c)
  obtain ⟨c2, c3⟩ := He.ba c2
  exact ⟨c1, fun d hd => List.all_eq_true.mp c2 d hd, fun d hd => List.all_eq_true.mp c3 d hd⟩
theorem SaysX.two (c : SaysX cs fn pn bx K) : (fn.map fun d => He.fnW K d.at_) = fn.map He.DefD.val ∧ (pn.map fun d => fnA K (pAd K d.at_)) = pn.map He.DefD.val := by
  have e : (fn.map fun d => He.fnW K d.at_) ++ (pn.map fun d => fnA K (pAd K d.at_)) = (fn ++ pn).map He.DefD.val := congrArg (fun z : He.AlD => z.2) c
  rw [List.map_append] at e
  exact List.append_inj e (by simp)
theorem SaysX.def_ (c : SaysX cs fn pn bx K) {i : Nat} {d : He.DefD} (h : fn[i]? = some d) : ∃ fd, FunD K d.name d.qual d.params d.body d.scope (d.dvs K) (d.kws K) (He.fAd K d.at_) fd := by
  have e2 : (fn.map fun d => He.fnW K d.at_)[i]? = (fn.map He.DefD.val)[i]? := by rw [c.two.1]
  rw [List.getElem?_map, List.getElem?_map, h] at e2
  exact He.DefD.funD (Option.some.inj e2) (c.chk.2.1 d (List.mem_of_getElem? h))
theorem SaysX.pro_ (c : SaysX cs fn pn bx K) {i : Nat} {d : He.DefD} (h : pn[i]? = some d) : ∃ fd, FunD K d.name d.qual d.params d.body d.scope (d.dvs K) (d.kws K) (pAd K d.at_) fd := by
  have e2 : (pn.map fun d => fnA K (pAd K d.at_))[i]? = (pn.map He.DefD.val)[i]? := by rw [c.two.2]
  rw [List.getElem?_map, List.getElem?_map, h] at e2
  exact funA (Option.some.inj e2) (c.chk.2.2 d (List.mem_of_getElem? h))
theorem SaysX.more (c : SaysX cs fn pn bx K) : bx K = true := by
  have c1 := c.chk.1
  unfold Ev.chk at c1
  exact (He.ba c1).1
theorem SaysX.free (c : SaysX cs fn pn bx K) (X : K.In h) (G : h.Ns mainGlobals mg) {x : Str} (hx : x ∈ nameFree) : mg x = none := by
  have c1 := c.chk.1
  unfold Ev.chk at c1
  obtain ⟨_, c1⟩ := He.ba c1
  obtain ⟨c1, _⟩ := He.ba c1
  obtain ⟨c1, _⟩ := He.ba c1
  exact He.free_ok X G (List.all_eq_true.mp c1 x hx)
theorem SaysX.glo (c : SaysX cs fn pn bx K) (X : K.In h) (G : h.Ns mainGlobals mg) {d : He.DefD} (hd : d ∈ fn) (hn : d.at_.2 = none) : mg d.at_.1 = some (.ref (He.fAd K d.at_)) := by
  have c1 := c.chk.1
  unfold Ev.chk at c1
  obtain ⟨_, c1⟩ := He.ba c1
  obtain ⟨_, c2⟩ := He.ba c1
  have := He.glo_ok X G (List.all_eq_true.mp c2 d hd)
  rw [this]
  unfold He.fAd
  rw [hn]
theorem SaysX.con (c : SaysX cs fn pn bx K) (X : K.In h) (G : h.Ns mainGlobals mg) : ∀ x d, (cs.map fun p => (p.1, p.2.d)).lookup x = some d → ∃ u v, mg x = some u ∧ RelV v u ∧ ∀ Z m S H, RelD K Z m S H d v := by
  have c1 := c.chk.1
  unfold Ev.chk at c1
  obtain ⟨_, c1⟩ := He.ba c1
  obtain ⟨c1, _⟩ := He.ba c1
  obtain ⟨_, c2⟩ := He.ba c1
  intro x d e
  have hm := PySem.mem_of_lookup e
  obtain ⟨p, hp, hq⟩ := List.mem_map.mp hm
  obtain ⟨y, cn⟩ := p
  simp only [Prod.mk.injEq] at hq
  obtain ⟨rfl, rfl⟩ := hq
  have c3 := List.all_eq_true.mp c2 _ hp
  cases cn with
  | int i =>
    obtain ⟨t, ht⟩ := He.int_ok X G c3
    exact ⟨_, .int i, ht, ⟨t, rfl⟩, fun _ _ _ _ => .int i⟩
  | str z =>
    obtain ⟨t, ht⟩ := He.str_ok X G c3
    exact ⟨_, .str z, ht, ⟨t, rfl⟩, fun _ _ _ _ => .str z⟩
  | tup xs =>
    obtain ⟨c4, c5⟩ := He.ba c3
    refine ⟨_, .ref (He.ga K y), He.glo_ok X G c4, rfl, fun Z m S H => .tupK (He.tupB_ok c5 _) ?_⟩
    show RelDs K Z m S H (xs.map D.str) ((xs.map He.Dv.str).map (He.Dv.v K))
    clear c c1 c2 c3 c4 c5 e hm hp
    induction xs with
    | nil => exact .nil
    | cons a b ih => exact .cons (.str a) ih
end
/-- the law's def: what a run that ends in True gives -/
def spLaw (K : PySem.W.Frag) : Sp := fun vs H Q _ => ∃ (a : Addr) (ns : List Int), vs = [.ref a] ∧ SqL K H a (ns.map V.int) ∧ ns.length ≤ 63 ∧ ∀ H', Q (.bl true) H'
theorem law_sp {T : Prg} {K : PySem.W.Frag} {k : Nat} {x f : Str} (h : ∀ ns : List Int, ns.length ≤ 63 → ∃ S', callN T k x f [.fl (ns.map .int)] [] = .ok (.bl true) S') : ∀ vs H Q E, spLaw K vs H Q E → spR K (callN T k x f) vs H Q E := by
  rintro vs H Q E ⟨a, ns, rfl, hS, hl, q⟩
  obtain ⟨S', e⟩ := h ns hl
  have nO : ¬ Own [] [] a := fun ⟨i, xs, h1, _⟩ => by simp at h1
  have intsR : ∀ l : List Int, RelDs K [] [] [] H (l.map D.int) (l.map V.int) := fun l => by
    induction l with
    | nil => exact .nil
    | cons b c ih => exact .cons (.int b) ih
  have r : RelD K [] [] [] H (.fl (ns.map .int)) (.ref a) := by
    rcases hS with hS | hS
    · exact .fl hS nO (by simp) (intsR ns)
    · exact .flK (.inr hS) (intsR ns)
  refine ⟨[], [], [], [.fl (ns.map .int)], ⟨rfl, List.nodup_nil, fun a h => by simp at h, fun a h => by simp at h, fun i a xs h => by simp at h⟩, .cons r .nil, ?_⟩
  rw [e]
  intro m' H' b st rs rb
  cases rb
  exact q H'
end Ev

namespace Ev
open PySem L2
/-! ### running the evaluator by rewriting -/
theorem callN_eq {T : Prg} {k : Nat} {x f : Str} {F : Fn} {ds : List D} {S : Sto} (h : T.fns.lookup f = some F) (hx : x = F.base) (hl : ds.length = F.ps.length) (hs : F.star = false := by rfl) :
    callN T (k + 1) x f ds S = (evSs (ctxOf T k) F.body (ds.map some ++ List.replicate (F.ns.length - ds.length) none) S).bind retK := by
  simp only [callN, h, hx, if_true, argsD, hs, hl]
@[simp] theorem tr_bl (b : Bool) (S : Sto) : tr (.bl b) S = .ok b S := (rfl)
@[simp] theorem seqK_nx (g : Sg → Sto → R Fl) (σ : Sg) (S : Sto) : seqK g (.nx σ) S = g σ S := (rfl)
@[simp] theorem seqK_rt (g : Sg → Sto → R Fl) (d : D) (S : Sto) : seqK g (.rt d) S = .ok (.rt d) S := (rfl)
@[simp] theorem seqK_bk (g : Sg → Sto → R Fl) (σ : Sg) (S : Sto) : seqK g (.bk σ) S = .ok (.bk σ) S := (rfl)
@[simp] theorem seqK_ct (g : Sg → Sto → R Fl) (σ : Sg) (S : Sto) : seqK g (.ct σ) S = .ok (.ct σ) S := (rfl)
@[simp] theorem seqK_ex (g : Sg → Sto → R Fl) (σ : Sg) (c : Str) (fs : List (Str × D)) (S : Sto) : seqK g (.ex σ c fs) S = .ok (.ex σ c fs) S := (rfl)
@[simp] theorem loopK_ex (g : Sg → Sto → R Fl) (σ : Sg) (c : Str) (fs : List (Str × D)) (S : Sto) : loopK g (.ex σ c fs) S = .ok (.ex σ c fs) S := (rfl)
@[simp] theorem retK_ex (σ : Sg) (c : Str) (fs : List (Str × D)) (S : Sto) : retK (.ex σ c fs) S = .ex c fs S := (rfl)
@[simp] theorem loopK_nx (g : Sg → Sto → R Fl) (σ : Sg) (S : Sto) : loopK g (.nx σ) S = g σ S := (rfl)
@[simp] theorem loopK_rt (g : Sg → Sto → R Fl) (d : D) (S : Sto) : loopK g (.rt d) S = .ok (.rt d) S := (rfl)
@[simp] theorem loopK_bk (g : Sg → Sto → R Fl) (σ : Sg) (S : Sto) : loopK g (.bk σ) S = .ok (.nx σ) S := (rfl)
@[simp] theorem loopK_ct (g : Sg → Sto → R Fl) (σ : Sg) (S : Sto) : loopK g (.ct σ) S = g σ S := (rfl)
@[simp] theorem retK_nx (σ : Sg) (S : Sto) : retK (.nx σ) S = .ok .non S := (rfl)
@[simp] theorem retK_rt (d : D) (S : Sto) : retK (.rt d) S = .ok d S := (rfl)
@[simp] theorem add_int (i j : Int) (S : Sto) : binD .add (.int i) (.int j) S = .ok (.int (i + j)) S := (rfl)
@[simp] theorem sub_int (i j : Int) (S : Sto) : binD .sub (.int i) (.int j) S = .ok (.int (i - j)) S := (rfl)
theorem mul_int {i j : Int} (h : CMulD i j = true) (S : Sto) : binD .mul (.int i) (.int j) S = .ok (.int (i * j)) S := by simp [binD, h]
theorem cmul_r {i j : Int} (h : -(2 ^ 64) < j ∧ j < 2 ^ 64) : CMulD i j = true := by unfold CMulD; rw [decide_eq_true h]; simp
theorem cmul_l {i j : Int} (h : -(2 ^ 64) < i ∧ i < 2 ^ 64) : CMulD i j = true := by unfold CMulD; rw [decide_eq_true h]; simp
theorem cmul_w {i j : Int} {a b : Nat} (ha : i.natAbs < 2 ^ a) (hb : j.natAbs < 2 ^ b) (h0 : 0 < a) (h1 : 0 < b) (h : a + b ≤ 1000000) : CMulD i j = true := by
  have := wide_mul ha hb h0 h1 h
  unfold CMulW at this
  unfold CMulD
  rw [decide_eq_true this]
  simp
theorem mod_int {i j : Int} (h : 0 < j) (S : Sto) : binD .mod (.int i) (.int j) S = .ok (.int (i % j)) S := by simp [binD, h]
theorem fdiv_int {i j : Int} (h : 0 < j) (h2 : j.natAbs.log2 < 9000) (S : Sto) : binD .fdiv (.int i) (.int j) S = .ok (.int (i / j)) S := by simp [binD, h, h2]
theorem add_str {x y : Str} (h : x.length + y.length ≤ lim) (S : Sto) : binD .add (.str x) (.str y) S = .ok (.str (x ++ y)) S := by simp [binD, h]
theorem add_lv {x y : List D} (h : x.length + y.length ≤ lim) (S : Sto) : binD .add (.lv x) (.lv y) S = .ok (.lv (x ++ y)) S := by simp [binD, listOf, h]
@[simp] theorem cmp_eq_int (i j : Int) (S : Sto) : cmpD .eq (.int i) (.int j) S = .ok (.bl (decide (i = j))) S := (rfl)
@[simp] theorem cmp_eq_str (i j : Str) (S : Sto) : cmpD .eq (.str i) (.str j) S = .ok (.bl (decide (i = j))) S := (rfl)
@[simp] theorem cmp_eq_bl (i j : Bool) (S : Sto) : cmpD .eq (.bl i) (.bl j) S = .ok (.bl (decide (i = j))) S := (rfl)
@[simp] theorem cmp_ne_int (i j : Int) (S : Sto) : cmpD .ne (.int i) (.int j) S = .ok (.bl (!decide (i = j))) S := (rfl)
@[simp] theorem cmp_ne_str (i j : Str) (S : Sto) : cmpD .ne (.str i) (.str j) S = .ok (.bl (!decide (i = j))) S := (rfl)
@[simp] theorem cmp_lt_int (i j : Int) (S : Sto) : cmpD .lt (.int i) (.int j) S = .ok (.bl (decide (i < j))) S := (rfl)
@[simp] theorem cmp_le_int (i j : Int) (S : Sto) : cmpD .le (.int i) (.int j) S = .ok (.bl (decide (i ≤ j))) S := (rfl)
@[simp] theorem cmp_gt_int (i j : Int) (S : Sto) : cmpD .gt (.int i) (.int j) S = .ok (.bl (decide (j < i))) S := (rfl)
@[simp] theorem cmp_ge_int (i j : Int) (S : Sto) : cmpD .ge (.int i) (.int j) S = .ok (.bl (decide (j ≤ i))) S := (rfl)
@[simp] theorem cmp_isN_bl (b : Bool) (S : Sto) : cmpD .is_ (.bl b) .non S = .ok (.bl false) S := (rfl)
@[simp] theorem cmp_isN_int (b : Int) (S : Sto) : cmpD .is_ (.int b) .non S = .ok (.bl false) S := (rfl)
@[simp] theorem cmp_isN_str (b : Str) (S : Sto) : cmpD .is_ (.str b) .non S = .ok (.bl false) S := (rfl)
@[simp] theorem cmp_isN_tup (b : List D) (S : Sto) : cmpD .is_ (.tup b) .non S = .ok (.bl false) S := (rfl)
@[simp] theorem cmp_isN_lv (b : List D) (S : Sto) : cmpD .is_ (.lv b) .non S = .ok (.bl false) S := (rfl)
@[simp] theorem cmp_isN_ref (b : Nat) (S : Sto) : cmpD .is_ (.ref b) .non S = .ok (.bl false) S := (rfl)
@[simp] theorem int_int (i : Int) (S : Sto) : bltD .int [.int i] S = .ok (.int i) S := (rfl)
@[simp] theorem int_bl (b : Bool) (S : Sto) : bltD .int [.bl b] S = .ok (.int (if b then 1 else 0)) S := (rfl)
@[simp] theorem abs_int (i : Int) (S : Sto) : bltD .abs [.int i] S = .ok (.int (if i < 0 then -i else i)) S := (rfl)
@[simp] theorem len_lv (xs : List D) (S : Sto) : bltD .len [.lv xs] S = .ok (.int xs.length) S := (rfl)
@[simp] theorem len_tup (xs : List D) (S : Sto) : bltD .len [.tup xs] S = .ok (.int xs.length) S := (rfl)
theorem len_str {x : Str} (h : x.length ≤ lim) (S : Sto) : bltD .len [.str x] S = .ok (.int x.length) S := by simp [bltD, lenD, lengthOf, h]
theorem ix_lv {xs : List D} {i : Int} {d : D} (h : atI xs i = some d) (S : Sto) : ixD (.lv xs) (.int i) S = .ok d S := by simp [ixD, items, h]
theorem ix_tp {xs : List D} {i : Int} {d : D} (h : atI xs i = some d) (S : Sto) : ixD (.tup xs) (.int i) S = .ok d S := by simp [ixD, items, h]
theorem ix_ref {n : Nat} {xs : List D} {i : Int} {d : D} {S : Sto} (hs : S[n]? = some (.lst xs)) (h : atI xs i = some d) : ixD (.ref n) (.int i) S = .ok d S := by simp [ixD, items, h, hs]
theorem ix_st {x : Str} {i : Int} {c : Nat} (hl : x.length ≤ lim) (h : atI x.cps.toList i = some c) (S : Sto) : ixD (.str x) (.int i) S = .ok (.str ⟨#[c]⟩) S := by simp [ixD, hl, h]
theorem seti_ref {n : Nat} {xs : List D} {i : Int} {j : Nat} {d : D} {S : Sto} (hs : S[n]? = some (.lst xs)) (h : ixN xs.length i = some j) : setiD (.ref n) (.int i) d S = .ok () (S.set n (.lst (xs.set j d))) := by simp [setiD, hs, h]
theorem get_set {S : Sto} {n : Nat} {o o' : O} (h : S[n]? = some o) : (S.set n o')[n]? = some o' := by
  rw [List.getElem?_set_self (List.getElem?_eq_some_iff.mp h).1]
/-! ### small numbers of the index -/
@[simp] theorem ix5_0 {a b c d e : D} : atI [a, b, c, d, e] 0 = some a := (rfl)
@[simp] theorem ix5_1 {a b c d e : D} : atI [a, b, c, d, e] 1 = some b := (rfl)
@[simp] theorem ix5_2 {a b c d e : D} : atI [a, b, c, d, e] 2 = some c := (rfl)
@[simp] theorem ix5_3 {a b c d e : D} : atI [a, b, c, d, e] 3 = some d := (rfl)
@[simp] theorem ix5_4 {a b c d e : D} : atI [a, b, c, d, e] 4 = some e := (rfl)
/-! ### the law's box -/
def boxO (sc : List Int) (p c l g : Int) : O := .lst [.lv (sc.map .int), .int p, .int c, .int l, .int g]
def IsBox (o : O) : Prop := ∃ sc p c l g, o = boxO sc p c l g ∧ 0 ≤ p
structure BoxAt (S : Sto) (b : Nat) : Prop where
  ex : ∃ o, S[b]? = some o ∧ IsBox o
theorem BoxAt.set {S : Sto} {b : Nat} {o : O} (h : BoxAt S b) (ho : IsBox o) : BoxAt (S.set b o) b := by
  obtain ⟨o', e, _⟩ := h.ex
  exact ⟨o, get_set e, ho⟩
theorem log2_small {i : Int} (h0 : 0 < i) (h : i < 2 ^ 250) : i.natAbs.log2 < 9000 := by
  have h1 : i.natAbs < 2 ^ 250 := by
    have h2 : ((2 : Int) ^ 250) = ((2 ^ 250 : Nat) : Int) := by norm_cast
    rw [h2] at h
    omega
  have h2 : i.natAbs.log2 < 250 := (Nat.log2_lt (by omega)).mpr h1
  omega
theorem pow_int {i j : Int} (h : 0 ≤ j ∧ j ≤ 1000000 ∧ i.natAbs < 2 ^ 64) (S : Sto) : binD .pow (.int i) (.int j) S = .ok (.int (i ^ j.toNat)) S := by simp only [binD, h, and_self, if_true]
theorem atI_ex {α : Type} {xs : List α} {r : Int} (h0 : 0 ≤ r) (h1 : r < xs.length) : ∃ d, d ∈ xs ∧ atI xs r = some d := by
  obtain ⟨n, rfl⟩ : ∃ n : Nat, r = n := ⟨r.toNat, by omega⟩
  have hn : n < xs.length := by omega
  exact ⟨xs[n], List.getElem_mem hn, atI_nat (List.getElem?_eq_getElem hn)⟩
theorem str_len (x y : Str) : (x ++ y).length = x.length + y.length := by
  show (x.cps ++ y.cps).size = _
  rw [Array.size_append]
  rfl
theorem str_list (x y : Str) : (x ++ y).cps.toList = x.cps.toList ++ y.cps.toList := by
  show (x.cps ++ y.cps).toList = _
  simp
theorem one_len (c : Nat) : (⟨#[c]⟩ : Str).length = 1 := (rfl)
/-- x in a tuple, a list of texts -/
theorem inV_strs (t : Str) (rs : List Str) : inV (.str t) ((rs.map D.str).map toV) = decide (t ∈ rs) := by
  unfold inV
  induction rs with
  | nil => rfl
  | cons a r ih =>
    simp only [List.map_cons, List.any_cons, ih]
    show ((a == t) || decide (t ∈ r)) = decide (t ∈ a :: r)
    by_cases h : a = t
    · subst h; simp
    · have : (a == t) = false := beq_eq_false_iff_ne.mpr h
      rw [this]
      have h2 : ¬ t = a := fun e => h e.symm
      simp [h2]
theorem flat_strs (rs : List Str) : (rs.map D.str).all flatD = true := by
  induction rs with
  | nil => rfl
  | cons a r ih => simp [flatD]
theorem in_tup (t : Str) (rs : List Str) (S : Sto) : cmpD .in_ (.str t) (.tup (rs.map D.str)) S = .ok (.bl (decide (t ∈ rs))) S := by
  have f := flat_strs rs
  have e : inD S (.str t) (.tup (rs.map D.str)) = some (decide (t ∈ rs)) := by
    simp only [inD, items, isSeq, flatD, f, Bool.and_true, if_true, inV_strs]
    simp only [toV, inV_strs]
  simp [cmpD, cmpO, e]
theorem in_lv (t : Str) (rs : List Str) (S : Sto) : cmpD .in_ (.str t) (.lv (rs.map D.str)) S = .ok (.bl (decide (t ∈ rs))) S := by
  have f := flat_strs rs
  have e : inD S (.str t) (.lv (rs.map D.str)) = some (decide (t ∈ rs)) := by
    simp only [inD, items, isSeq, flatD, f, Bool.and_true, if_true]
    simp only [toV, inV_strs]
  simp [cmpD, cmpO, e]
theorem nin_lv (t : Str) (rs : List Str) (S : Sto) : cmpD .nin (.str t) (.lv (rs.map D.str)) S = .ok (.bl (!decide (t ∈ rs))) S := by
  have f := flat_strs rs
  have e : inD S (.str t) (.lv (rs.map D.str)) = some (decide (t ∈ rs)) := by
    simp only [inD, items, isSeq, flatD, f, Bool.and_true, if_true]
    simp only [toV, inV_strs]
  simp [cmpD, cmpO, e]
theorem in_sign (c : Nat) (y : Str) (S : Sto) : cmpD .in_ (.str ⟨#[c]⟩) (.str y) S = .ok (.bl (decide (c ∈ y.cps.toList))) S := (rfl)
theorem nin_sign (c : Nat) (y : Str) (S : Sto) : cmpD .nin (.str ⟨#[c]⟩) (.str y) S = .ok (.bl (!decide (c ∈ y.cps.toList))) S := (rfl)
theorem bools_of (bs : List Bool) : boolsOf (bs.map D.bl) = some bs := by
  induction bs with
  | nil => rfl
  | cons a r ih => simp [boolsOf, ih]
theorem all_lv (bs : List Bool) (S : Sto) : bltD .all [.lv (bs.map D.bl)] S = .ok (.bl (bs.all id)) S := by simp [bltD, allD, listOf, bools_of]
theorem any_lv (bs : List Bool) (S : Sto) : bltD .any [.lv (bs.map D.bl)] S = .ok (.bl (bs.any id)) S := by simp [bltD, anyD, listOf, bools_of]
/-- a comprehension that leaves the store -/
theorem lcGo_pure {d : D} {tg : Tg} {σ : Sg} {cond elt : Sg → Sto → R D} {S : Sto} {xs : List D} {p : D → Bool} {f : D → D} (hi : items S d = some xs) (hl : xs.length ≤ lim)
    (h : ∀ x, x ∈ xs → ∃ σ1, setTg tg x (wipeD σ tg.slots) = some σ1 ∧ cond σ1 S = .ok (.bl (p x)) S ∧ (p x = true → elt σ1 S = .ok (f x) S)) :
    ∀ n i acc, i + n = xs.length + 1 → i ≤ xs.length → acc.length ≤ i → lcGo d tg σ cond elt n i acc S = .ok (.lv (acc ++ ((xs.drop i).filter p).map f)) S
  | 0, i, acc, e, h2, ha => by omega
  | n + 1, i, acc, e, h2, ha => by
    unfold lcGo
    simp only [hi]
    by_cases hx : i < xs.length
    · rw [List.getElem?_eq_getElem hx]
      obtain ⟨σ1, e1, e2, e3⟩ := h xs[i] (List.getElem_mem hx)
      have hd : xs.drop i = xs[i] :: xs.drop (i + 1) := List.drop_eq_getElem_cons hx
      simp only [e1, e2, R.nox_ok, R.bind_ok, tr_bl]
      cases hp : p xs[i] with
      | true =>
        simp only [e3 hp, R.nox_ok, R.bind_ok]
        rw [if_pos (by omega), lcGo_pure hi hl h n (i + 1) _ (by omega) (by omega) (by simp; omega), hd, List.filter_cons_of_pos hp, List.map_cons, List.append_assoc]
        rfl
      | false =>
        simp only
        rw [lcGo_pure hi hl h n (i + 1) acc (by omega) (by omega) (by omega), hd, List.filter_cons_of_neg (by simp [hp])]
    · rw [List.getElem?_eq_none (by omega), List.drop_eq_nil_of_le (by omega)]
      simp
end Ev

namespace Ev
open PySem L2
/-! ### B.__init__(self, ..), B an own exception class that has no __init__ of its own -/
structure BIn (K : PySem.W.Frag) (B : Addr) : Prop where
  rd : PySem.W.readsIn K B (.type "type") = true
  ga : PySem.W.specialIn K (.ref B) "__getattribute__" = some (some (.builtin "type.__getattribute__"))
  iv : PySem.W.findCls K (.ref B) (.type "type") "__init__" = some (.val (.builtin "ValueError.__init__"))
theorem pe_binit {X : Cx} {B : Addr} {x : Str} {e : Expr} {es : List Expr} {ta : TA} {p1 p2 pos : Pos} {pl : Sem Bool} (hB : BIn X.K B) (hg : Gl X x) (hm : X.mg x = some (.ref B)) (hdb : (x == ("__debug__" : Str)) = false) (ha : PA X (e :: es) ta)
    (hc : eval (.Call (.Attribute (.Name x p1) "__init__" p2) (e :: es) [] pos) X.env = (do
      let ov ← eval (.Name x p1) X.env
      standAt p2.atName
      let (f, first) ← holding [ov] (getMethod ov "__init__" pl)
      callWith pos f first (backTo pos (starEach (e :: es) X.env)) (backToKw pos (keywordEach [] X.env))))
    (he : starEach (e :: es) X.env = (false, eval e X.env) :: starEach es X.env) (hpl : (backTo pos (starEach es X.env)).any (·.1) = false) :
    PE X (.Call (.Attribute (.Name x p1) "__init__" p2) (e :: es) [] pos) (tVeI X.K ta) := by
  refine ⟨fun pins s σ H Q I h => ?_⟩
  refine PySem.W.methodCall_KW (ld_glob I hg hm ?_ hdb) hc
  refine PySem.W.method_cls I.kIn hB.ga (PySem.W.cls_value I.kIn hB.rd hB.iv (by decide +kernel) ?_)
  show wpAny _ _ (callWith pos (Value.builtin "ValueError.__init__") [] (backTo pos (starEach (e :: es) X.env)) []) _ _ _
  have key : ∀ us s1, (∃ vs H1, Inv X pins σ H1 s1 ∧ Vals vs us ∧ ∃ (a C : Addr) (ws : List V), vs = .ref a :: ws ∧ ws.length ≤ 1000 ∧ OexC X.K C ∧ H1 a = some (exo a C none) ∧ Q .non H1) → wpAny (model X.prog X.w) X.A (call (.builtin "ValueError.__init__") us) (EP X pins σ Q) X.xe s1 := by
    rintro us s1 ⟨vs, H1, I1, r1, a, C, ws, rfl, hl, T, ea, q⟩
    cases r1 with
    | cons r0 rw =>
      cases r0
      have z := Paired.length rw
      have y := sizeLine_eq
      exact oinit_ok T I1 ea (by omega) fun s' J => ⟨.non, H1, J, rfl, q⟩
  exact PyProof.Rows.callWith_method1 (thn (ha.run pos pins _ σ H _ (I.tok _) h) fun us s1 hh => key us s1 hh) he hpl
end Ev

namespace Ev
open PySem L2
/-! ### the def of an exception's own __init__ -/
def fitMsg (N : List Str) (sc : Scope) (ps : List (Str × Bool)) : Nat → Expr → Option Nat
  | 0, _ => none
  | n + 1, e => match e with
    | .Constant (.str z) _ _ => some z.length
    | .Name x _ => if (ps.lookup x == some true) && N.contains x && visB sc x && !(x == ("__debug__" : Str)) && !(x == ("__classdict__" : Str)) then some 1000 else none
    | .BinOp a .Add b _ => (match fitMsg N sc ps n a, fitMsg N sc ps n b with
      | some i, some j => some (i + j)
      | _, _ => none)
    | _ => none
def fitNmI (N : List Str) (sc : Scope) (x : Str) : Expr → Bool
  | .Name y _ => decide (y = x) && N.contains x && visB sc x && !(x == ("__debug__" : Str)) && !(x == ("__classdict__" : Str))
  | _ => false
def fitFs1 (N : List Str) (sc : Scope) (self f : Str) : Stmt → Bool
  | .Assign [.Attribute o g _] v _ => fitNmI N sc self o && decide (g = f) && fitNmI N sc f v
  | _ => false
def fitFs (N : List Str) (sc : Scope) (self : Str) : List Str → List Stmt → Bool
  | [], [] => true
  | f :: fs, s :: ss => fitFs1 N sc self f s && fitFs N sc self fs ss
  | _, _ => false
def fitIn1 (N : List Str) (sc : Scope) (self B : Str) (ps : List (Str × Bool)) : Stmt → Bool
  | .Expr (.Call (.Attribute (.Name b _) m ap) [s, e] [] cp) _ => (ap.endLine == cp.line) && decide (b = B) && glB sc b && decide (m = "__init__") && fitNmI N sc self s && (match fitMsg N sc ps 20 e with
    | some n => decide (n ≤ lim)
    | none => false)
  | _ => false
def fitIni (N : List Str) (sc : Scope) (self B : Str) (ps : List (Str × Bool)) : List Stmt → Bool
  | s :: ss => decide (N = self :: ps.map (·.1)) && fitIn1 N sc self B ps s && fitFs N sc self (ps.map (·.1)) ss
  | [] => false
/-- a method's call, by its parts -/
theorem callA_eq {env : Env} {o : Expr} {name : Str} {apos pos : Pos} {args : List Expr} (hbase : attributeBase o name env (eval o env) = eval o env) (hst : (backTo pos (starEach args env)).all (fun x => !x.1) = true) (h29 : args.length < 29) (hline : (apos.endLine == pos.line) = true) :
    eval (.Call (.Attribute o name apos) args [] pos) env = (do
      let ov ← eval o env
      standAt apos.atName
      let (f, first) ← holding [ov] (getMethod ov name (do return (← importBound o env).getD true))
      callWith pos f first (backTo pos (starEach args env)) (backToKw pos (keywordEach [] env))) := by
  have hform : methodCallForm (args.length + ([] : List Keyword).length) (backTo pos (starEach args env)) (backToKw pos (keywordEach [] env)) = true := by
    unfold methodCallForm
    rw [hst]
    have : args.length + ([] : List Keyword).length + (if (backToKw pos (keywordEach [] env)).isEmpty then 0 else 1) < 30 := by
      simp only [List.length_nil]
      split <;> omega
    rw [decide_eq_true this]
    rfl
  have hpos : methodCallPos true o env apos pos = pure pos := by unfold methodCallPos; simp [hline]
  rw [arm_eval_Call, hbase]
  unfold methodCall calleeOf
  rw [hform, hpos]
  rfl
section
variable {X : Cx} {N : List Str} {sc : Scope}
theorem mem_get {x : Str} (h : N.contains x = true) : ∃ i : Nat, N[i]? = some x := by
  have := List.contains_iff_mem.mp h
  exact List.mem_iff_getElem?.mp this
/-- names of N hold what is asked -/
def txtOk (N : List Str) (ps : List (Str × Bool)) (σ : St) : Prop := ∀ (x : Str) (i : Nat), ps.lookup x = some true → N[i]? = some x → ∃ z : Str, σ[i]? = some (some (.str z)) ∧ z.length ≤ 1000
theorem msg_ok (hN : X.N = N) (hsc : X.env.scope = sc) {ps : List (Str × Bool)} : ∀ (n : Nat) {e : Expr} {b : Nat}, fitMsg N sc ps n e = some b → b ≤ lim →
    PE X e (fun σ H Q => txtOk N ps σ ∧ ∀ z : Str, z.length ≤ b → Q (.str z) H)
  | 0, e, b, h, _ => by simp [fitMsg] at h
  | n + 1, e, b, h, hl => by
    cases e <;> try (simp [fitMsg] at h; done)
    case Constant c _ _ =>
      cases c <;> try (simp [fitMsg] at h; done)
      rename_i z
      simp only [fitMsg, Option.some.injEq] at h
      subst h
      exact PE.mono pe_str fun σ H Q q => q.2 z (Nat.le_refl _)
    case Name x p =>
      simp only [fitMsg] at h
      split at h
      · rename_i hc
        cases h
        simp only [Bool.and_eq_true, beq_iff_eq, Bool.not_eq_true'] at hc
        obtain ⟨⟨⟨⟨h1, h2⟩, h3⟩, h4⟩, h5⟩ := hc
        obtain ⟨i, hi⟩ := mem_get h2
        refine PE.mono (pe_var (i := i) (by rw [hN]; exact hi) (by rw [hsc]; exact visB_of h3) h4 h5) fun σ H Q q => ?_
        obtain ⟨z, e1, e2⟩ := q.1 x i h1 hi
        exact ⟨_, e1, q.2 z e2⟩
      · cases h
    case BinOp a o c _ =>
      cases o <;> try (simp [fitMsg] at h; done)
      simp only [fitMsg] at h
      split at h
      · rename_i i j h1 h2
        cases h
        refine PE.mono (pe_op op_add_str (msg_ok hN hsc n h1 (by omega)) (msg_ok hN hsc n h2 (by omega))) fun σ H Q q => ?_
        refine ⟨q.1, fun z hz => ⟨q.1, fun y hy => ⟨z, y, rfl, rfl, lim_le (by omega), q.2 _ ?_⟩⟩⟩
        rw [Str.length_append]; omega
      · cases h
theorem nm_okI (hN : X.N = N) (hsc : X.env.scope = sc) {x : Str} {e : Expr} (h : fitNmI N sc x e = true) : ∃ (i : Nat) (p : Pos), e = .Name x p ∧ N[i]? = some x ∧ PE X e (fun σ H Q => ∃ v, σ[i]? = some (some v) ∧ Q v H) := by
  cases e <;> try (simp [fitNmI] at h; done)
  rename_i y p
  simp only [fitNmI, Bool.and_eq_true, decide_eq_true_eq, Bool.not_eq_true'] at h
  obtain ⟨⟨⟨⟨rfl, h2⟩, h3⟩, h4⟩, h5⟩ := h
  obtain ⟨i, hi⟩ := mem_get h2
  exact ⟨i, p, rfl, hi, PE.mono (pe_var (i := i) (by rw [hN]; exact hi) (by rw [hsc]; exact visB_of h3) h4 h5) fun σ H Q q => q⟩
/-- what stands where the fields fs are kept -/
def inH (H0 : Hp) (a C d : Addr) : List (Str × V) → Hp
  | [] => upd H0 a (exo a C none)
  | fs => upd (upd H0 d (exd d fs)) a (exo a C (some d))
theorem upd_upd {H : Hp} {a : Addr} {o u : HO} : upd (upd H a o) a u = upd H a u := by
  funext b
  by_cases h : b = a
  · subst h; rw [upd_same, upd_same]
  · rw [upd_ne h, upd_ne h, upd_ne h]
theorem upd_self {H : Hp} {a : Addr} {o : HO} (h : H a = some o) : upd H a o = H := by
  funext b
  by_cases e : b = a
  · subst e; rw [upd_same, h]
  · rw [upd_ne e]
theorem upd_comm {H : Hp} {a b : Addr} {o u : HO} (h : a ≠ b) : upd (upd H a o) b u = upd (upd H b u) a o := by
  funext c
  by_cases e : c = a
  · subst e; rw [upd_same, upd_ne h, upd_same]
  · by_cases e2 : c = b
    · subst e2; rw [upd_same, upd_ne e, upd_same]
    · rw [upd_ne e2, upd_ne e, upd_ne e, upd_ne e2]
def stF (a C : Addr) (H0 : Hp) (fs : List (Str × V)) (H : Hp) (d : Addr) : Prop := match fs with
  | [] => H = H0
  | fs => H0 d = none ∧ d ≠ a ∧ H = upd (upd H0 d (exd d fs)) a (exo a C (some d))
/-- the fields, one behind another -/
theorem fs_ok (hN : X.N = N) (hsc : X.env.scope = sc) {self : Str} {C : Addr} (hC : OexC X.K C) : ∀ (fs : List Str) {ss : List Stmt}, fitFs N sc self fs ss = true → (∀ f, f ∈ fs → PySem.W.findIn X.K (.ref C) f = some none) →
    PSs X ss (fun D σ H => ∃ (a : Addr) (H0 : Hp) (d : Addr) (done : List (Str × V)) (us : List V), (∀ i : Nat, N[i]? = some self → σ[i]? = some (some (.ref a))) ∧ H0 a = some (exo a C none) ∧ stF a C H0 done H d ∧ us.length = fs.length ∧ done.length + fs.length ≤ 900 ∧
      (∀ (f : Str) (u : V) (i : Nat), (f, u) ∈ fs.zip us → N[i]? = some f → σ[i]? = some (some u)) ∧ ∀ d H', stF a C H0 ((fs.zip us).reverse ++ done) H' d → D.nx σ H')
  | [], [], _, _ => by
    refine PSs.mono pss_nil fun D σ H ⟨a, H0, d, done, us, h1, h2, h3, h4, h5, h6, q⟩ => ?_
    have : us = [] := List.length_eq_zero_iff.mp h4
    subst this
    exact q d H h3
  | [], _ :: _, h, _ => by simp [fitFs] at h
  | _ :: _, [], h, _ => by simp [fitFs] at h
  | f :: fs, s :: ss, h, hno => by
    simp only [fitFs, Bool.and_eq_true] at h
    obtain ⟨h1, h2⟩ := h
    cases s <;> try (simp [fitFs1] at h1; done)
    rename_i tgs v pos
    rcases tgs with _ | ⟨t, _ | ⟨t2, ts⟩⟩ <;> try (simp [fitFs1] at h1; done)
    · cases t <;> try (simp [fitFs1] at h1; done)
      rename_i o g p'
      simp only [fitFs1, Bool.and_eq_true, decide_eq_true_eq] at h1
      obtain ⟨⟨g1, rfl⟩, g3⟩ := h1
      obtain ⟨i, po, rfl, hi, p1⟩ := nm_okI hN hsc g1
      obtain ⟨j, pv, rfl, hj, p2⟩ := nm_okI hN hsc g3
      refine PSs.mono (pss_cons (ps_ost p1 p2) (fs_ok hN hsc hC fs h2 fun x hx => hno x (List.mem_cons_of_mem _ hx))) fun D σ H ⟨a, H0, d, done, us, k1, k2, k3, k4, k5, k6, q⟩ => ?_
      cases us with
      | nil => simp at k4
      | cons u us =>
        simp only [List.length_cons, Nat.add_right_cancel_iff] at k4
        refine ⟨u, k6 _ u j (by simp) hj, .ref a, k1 i hi, a, C, rfl, hC, hno _ List.mem_cons_self, ?_⟩
        have fin : ∀ d' H', stF a C H0 ((g, u) :: done) H' d' → (∃ (a : Addr) (H0 : Hp) (d : Addr) (done : List (Str × V)) (us : List V), (∀ i : Nat, N[i]? = some self → σ[i]? = some (some (.ref a))) ∧ H0 a = some (exo a C none) ∧ stF a C H0 done H' d ∧ us.length = fs.length ∧ done.length + fs.length ≤ 900 ∧
            (∀ (f : Str) (u : V) (i : Nat), (f, u) ∈ fs.zip us → N[i]? = some f → σ[i]? = some (some u)) ∧ ∀ d H', stF a C H0 ((fs.zip us).reverse ++ done) H' d → D.nx σ H') := fun d' H' z =>
          ⟨a, H0, d', (g, u) :: done, us, k1, k2, z, k4, by simp at k5 ⊢; omega, fun f y i hm => k6 f y i (by simp [hm]), fun d2 H2 z2 => q d2 H2 (by simpa using z2)⟩
        cases done with
        | nil =>
          have k3' : H = H0 := k3
          subst k3'
          exact .inl ⟨k2, fun dx n ne => fin dx _ ⟨n, ne, rfl⟩⟩
        | cons p ps =>
          obtain ⟨m1, m2, m3⟩ := k3
          refine .inr ⟨d, p :: ps, by rw [m3, upd_same], by rw [m3, upd_ne m2, upd_same], by simp at k5 ⊢; omega, fin d _ ⟨m1, m2, ?_⟩⟩
          rw [m3, upd_comm (a := a) (b := d) (fun z => m2 z.symm), upd_upd]
theorem argsV_len : ∀ {ps : List (Str × Bool)} {us : List V}, argsV ps us = true → us.length = ps.length
  | [], [], _ => rfl
  | [], _ :: _, h => by simp [argsV] at h
  | (_, false) :: ps, [], h => by simp [argsV] at h
  | (_, true) :: ps, [], h => by simp [argsV] at h
  | (_, false) :: ps, _ :: us, h => by
    simp only [argsV] at h
    simp [argsV_len h]
  | (_, true) :: ps, u :: us, h => by
    cases u <;> simp only [argsV, Bool.false_eq_true, Bool.and_eq_true] at h
    simp [argsV_len h.2]
theorem argsV_get : ∀ {ps : List (Str × Bool)} {us : List V} {x : Str} {j : Nat}, argsV ps us = true → (ps.map (·.1)).Nodup → (ps.map (·.1))[j]? = some x → ps.lookup x = some true → ∃ z : Str, us[j]? = some (.str z) ∧ z.length ≤ 1000
  | [], _, _, _, _, _, e, _ => by simp at e
  | (f, b) :: ps, us, x, j, h, hn, e, hl => by
    cases us with
    | nil => have := argsV_len h; simp at this
    | cons u us =>
      simp only [List.map_cons, List.nodup_cons] at hn
      cases j with
      | zero =>
        simp only [List.map_cons, List.getElem?_cons_zero, Option.some.injEq] at e
        subst e
        simp only [List.lookup, beq_self_eq_true, Option.some.injEq] at hl
        subst hl
        cases u <;> simp only [argsV, Bool.false_eq_true, Bool.and_eq_true, decide_eq_true_eq] at h
        exact ⟨_, rfl, h.1⟩
      | succ j =>
        simp only [List.map_cons, List.getElem?_cons_succ] at e
        have hne : (x == f) = false := by
          refine beq_eq_false_iff_ne.mpr fun z => hn.1 ?_
          rw [← z]; exact List.mem_of_getElem? e
        simp only [List.lookup, hne] at hl
        have h' : argsV ps us = true := by
          cases b with
          | false => simpa only [argsV] using h
          | true => cases u <;> simp only [argsV, Bool.false_eq_true, Bool.and_eq_true] at h; exact h.2
        obtain ⟨z, e1, e2⟩ := argsV_get h' hn.2 e hl
        exact ⟨z, by simpa using e1, e2⟩
theorem start_get {N : List Str} {vs : List V} {i : Nat} {v : V} (h : vs[i]? = some v) : (L2.start N vs)[i]? = some (some v) := by
  unfold L2.start
  have hi := (List.getElem?_eq_some_iff.mp h).1
  rw [List.getElem?_append_left (by simpa using hi), List.getElem?_map, h]
  rfl
theorem nodup_get {N : List Str} (h : N.Nodup) {i j : Nat} {x : Str} (h1 : N[i]? = some x) (h2 : N[j]? = some x) : i = j := by
  induction N generalizing i j with
  | nil => simp at h1
  | cons a N ih =>
    rw [List.nodup_cons] at h
    cases i <;> cases j <;> simp only [List.getElem?_cons_zero, List.getElem?_cons_succ, Option.some.injEq] at h1 h2
    · rfl
    · subst h1; exact absurd (List.mem_of_getElem? h2) h.1
    · subst h2; exact absurd (List.mem_of_getElem? h1) h.1
    · rw [ih h.2 h1 h2]
end
theorem ini_ok {P : Program} {w : World} {K : PySem.W.Frag} {mg : Str → Option Value} {base : Heap} {C B fI : Addr} {b self name qual : Str} {params : Arguments} {body : List Stmt} {scope : Scope} {fd : FuncData} {ps : List (Str × Bool)}
    (hC : OexC K C) (hno : ∀ f, f ∈ ps.map (·.1) → PySem.W.findIn K (.ref C) f = some none) (hB : BIn K B) (mB : mg b = some (.ref B)) (FD : FunD K name qual params body scope [] [] fI fd)
    (S : FnScope (self :: ps.map (·.1)) (self :: ps.map (·.1)) scope) (hl : ps.length ≤ 100) (hne : ps ≠ []) (hf : fitIni (self :: ps.map (·.1)) scope self b ps body = true) : FnOk P w K mg base (L2N.CX P w) 1 fI fd (self :: ps.map (·.1)) (spInit C ps) := by
  refine FD.ok S (fun vs H Q E ⟨a, us, e, h, _⟩ => by rw [e]; simp [argsV_len h]) fun cdv A outer s H vs Q E hr ⟨a, us, e, h1, h2, q⟩ => ?_
  subst e
  cases body with
  | nil => simp [fitIni] at hf
  | cons st ss =>
    simp only [fitIni, Bool.and_eq_true] at hf
    obtain ⟨⟨_, f1⟩, f2⟩ := hf
    cases st <;> try (simp [fitIn1] at f1; done)
    rename_i v pos
    cases v <;> try (simp [fitIn1] at f1; done)
    rename_i fn args kws cp
    cases fn <;> try (simp [fitIn1] at f1; done)
    rename_i o m ap
    cases o <;> try (simp [fitIn1] at f1; done)
    rename_i b' p1
    rcases args with _ | ⟨e1, _ | ⟨e2, _ | ⟨e3, es⟩⟩⟩ <;> rcases kws with _ | ⟨k1, ks⟩ <;> try (simp [fitIn1] at f1; done)
    simp only [fitIn1, Bool.and_eq_true, decide_eq_true_eq] at f1
    obtain ⟨⟨⟨⟨⟨g0, rfl⟩, g1⟩, rfl⟩, g3⟩, g4⟩ := f1
    split at g4
    · rename_i n hn
      have hn2 : n ≤ lim := of_decide_eq_true g4
      obtain ⟨gl1, gl2⟩ := glB_of g1
      let X := cxOf (L2N.CX P w) P w K mg base (self :: ps.map (·.1)) qual scope fI cdv A outer s H E
      obtain ⟨i, po, rfl, hi, pe1⟩ := nm_okI (X := X) (N := self :: ps.map (·.1)) (sc := scope) rfl rfl g3
      have pe2 := msg_ok (X := X) (N := self :: ps.map (·.1)) (sc := scope) rfl rfl 20 hn hn2
      have nd := S.nd
      have hi0 : i = 0 := nodup_get nd hi (by simp)
      subst hi0
      have hse : (starEach [e2] X.env) = [(false, eval e2 X.env)] := by
        have : ∀ (k : Nat) (e : Expr) (b : Nat), fitMsg (self :: ps.map (·.1)) scope ps k e = some b → starEach [e] X.env = [(false, eval e X.env)] := fun k e b hk => by
          cases k with
          | zero => simp [fitMsg] at hk
          | succ k => cases e <;> first | rfl | (simp [fitMsg] at hk; done)
        exact this _ _ _ hn
      have pa : PA X [.Name self po, e2] _ := pa_cons pe1 (pa_cons pe2 pa_nil (by rw [hse]; rfl))
      have p0 := ps_expr (pos := pos) (pe_binit (X := X) (p1 := p1) (p2 := ap) (pos := cp) hB gl1 mB gl2 pa (callA_eq rfl (by
        show ((backTo cp (starEach (.Name self po :: [e2]) X.env)).all fun x => !x.1) = true
        have : starEach (.Name self po :: [e2]) X.env = (false, eval (.Name self po) X.env) :: starEach [e2] X.env := rfl
        rw [this, hse]; rfl) (by simp) g0) rfl (by
        have : starEach [e2] X.env = [(false, eval e2 X.env)] := hse
        rw [this]; rfl))
      refine ⟨_, pss_cons p0 (fs_ok (X := X) (N := self :: ps.map (·.1)) (sc := scope) rfl rfl hC (ps.map (·.1)) f2 hno), ?_⟩
      have hlu := argsV_len h1
      have st0 : (L2.start (self :: ps.map (·.1)) (V.ref a :: us))[0]? = some (some (.ref a)) := start_get (by simp)
      have stS : ∀ (f : Str) (u : V) (i : Nat), (f, u) ∈ (ps.map (·.1)).zip us → (self :: ps.map (·.1))[i]? = some f → (L2.start (self :: ps.map (·.1)) (V.ref a :: us))[i]? = some (some u) := fun f u i hm hi => by
        obtain ⟨j, hj⟩ := List.mem_iff_getElem?.mp hm
        rw [List.getElem?_zip_eq_some] at hj
        have : i = j + 1 := nodup_get nd hi (by simpa using hj.1)
        subst this
        exact start_get (by simpa using hj.2)
      refine ⟨_, st0, ⟨fun x i hx hi => ?_, fun z hz => ?_⟩⟩
      · cases i with
        | zero =>
          simp only [List.getElem?_cons_zero, Option.some.injEq] at hi
          subst hi
          exfalso
          have hm : self ∈ ps.map (·.1) := List.mem_map.mpr ⟨_, PySem.mem_of_lookup hx, rfl⟩
          exact (List.nodup_cons.mp nd).1 hm
        | succ j =>
          obtain ⟨z, e1, e2⟩ := argsV_get h1 (List.nodup_cons.mp nd).2 (by simpa using hi) hx
          exact ⟨z, start_get (by simpa using e1), e2⟩
      · refine ⟨a, C, [.str z], rfl, by simp, hC, h2, ?_⟩
        refine ⟨a, H, a, [], us, fun i hi => ?_, h2, rfl, by simp [hlu], by simp; omega, stS, fun d H' hs => ?_⟩
        · have : i = 0 := nodup_get nd hi (by simp)
          subst this
          exact st0
        · rw [List.append_nil] at hs
          cases hz2 : ((ps.map (·.1)).zip us).reverse with
          | nil =>
            have := congrArg List.length hz2
            simp [hlu] at this
            exact (hne this).elim
          | cons p r =>
            rw [hz2] at hs
            obtain ⟨n1, n2, rfl⟩ := hs
            have := q d n1 n2
            rw [hz2] at this
            exact this
    · cases g4
end Ev

namespace Ev
open PySem L2
/-! ### the def of the kinds -/
def fitKl (N : List Str) (sc : Scope) (e l : Str) : Expr → Bool
  | .BinOp (.List [.Constant (.str z) _ _] _) .Mult (.Call (.Name i _) [.Call (.Name s _) [x, .Name c _] [] _] [] _) _ =>
    decide (z = l) && (decide (i = "int") && (glB sc i && (decide (s = "isinstance") && (glB sc s && (fitNmI N sc e x && (decide (c = l) && glB sc c))))))
  | _ => false
def fitKa (N : List Str) (sc : Scope) (e f l : Str) (first : Bool) (v : Expr) : Bool := match first, v with
  | true, v => fitKl N sc e l v
  | false, .BinOp a .Add b _ => fitNmI N sc f a && fitKl N sc e l b
  | false, _ => false
def fitK1 (N : List Str) (sc : Scope) (e f l : Str) (first : Bool) : Stmt → Bool
  | .Assign [.Name y _] v _ => decide (y = f) && locB sc f && plainR v && fitKa N sc e f l first v
  | _ => false
def fitKr (N : List Str) (sc : Scope) (f : Str) : Stmt → Bool
  | .Return (some v) _ => fitNmI N sc f v
  | _ => false
def fitKs (N : List Str) (sc : Scope) (e f : Str) : Bool → List Str → List Stmt → Bool
  | false, [], [s] => fitKr N sc f s
  | b, l :: ls, s :: ss => fitK1 N sc e f l b s && fitKs N sc e f false ls ss
  | _, _, _ => false
/-- the class that a label names -/
def kv (K : PySem.W.Frag) (l : Str) : Value := if l = "ValueError" then .type "ValueError" else .ref (He.ga K l)
def kvV (K : PySem.W.Frag) (l : Str) : V := if l = "ValueError" then .ty "ValueError" else .ref (He.ga K l)
def kitxB (K : PySem.W.Frag) (C : Addr) : Bool := (PySem.W.clsIn K C).isSome && (He.eqO (PySem.W.findIn K (.ref C) "__class__") (some (some (.builtin "object.__class__"))) &&
  (He.eqO (PySem.W.specialIn K (.builtin "object.__class__") "__get__") (some (some (.builtin "getset_descriptor.__get__"))) && (decide (PySem.W.takesIn K (.builtin "object.__class__") = some true) && decide (PySem.W.mroIn K C (.type "object") = some true))))
/-- isinstance(e, c), e the exception that is handled around the def -/
def rIsK (K : PySem.W.Frag) (C a : Addr) (d : Option Addr) : List V → Hp → VK → Prop := fun xs H Q => ∃ (c : V) (cv : Value) (b : Bool), xs = [.ref a, c] ∧ (∀ u, RelV c u → u = cv) ∧ PySem.W.kitOne K (.ref C) cv = some b ∧ (∀ dd, d = some dd → ∃ fs, H dd = some (.xd fs)) ∧ Q (.bl b) H
theorem call_isK {X : Cx} {a C : Addr} {oe : Obj} {d : Option Addr} (hp : (a, oe) ∈ X.pn) (xf : XfC X.K C) (kx : kitxB X.K C = true) (hz : Zc (.ref C) d oe) (hf : ∃ vs, oe.data = .fields vs) : CallR X (.builtin "isinstance") (rIsK X.K C a d) := by
  rintro pins s σ H xs us Q I r ⟨c, cv, b, rfl, hcv, e, hx, q⟩
  obtain ⟨k1, kx⟩ := He.ba kx
  obtain ⟨k2, kx⟩ := He.ba kx
  obtain ⟨k3, kx⟩ := He.ba kx
  obtain ⟨k4, k5⟩ := He.ba kx
  match us, r with
  | [_, u], .cons rx (.cons rt .nil) =>
    obtain rfl : _ = Value.ref a := rx
    obtain rfl := hcv _ rt
    obtain ⟨hget, _⟩ := I.pin (a, oe) (List.mem_append_left _ hp)
    obtain ⟨vs, hv⟩ := hf
    have ins : ∃ od, PySem.W.InstAt s.heap a oe C od := by
      cases hd : d with
      | none =>
        refine ⟨none, hget, hz.1, by unfold PySem.W.notCls; rw [hv], ?_⟩
        rw [hz.2, hd]; trivial
      | some dd =>
        obtain ⟨fs, hfs⟩ := hx dd hd
        have y : ObjOk X.prog X.w H s.heap dd (.xd fs) := I.hok dd _ hfs
        obtain ⟨mA, ⟨o, es, ep, ho, _⟩, _⟩ := y
        refine ⟨some o, hget, hz.1, by unfold PySem.W.notCls; rw [hv], ?_⟩
        rw [hz.2, hd]; exact ho
    obtain ⟨od, J⟩ := ins
    exact PySem.W.kia_one (PySem.W.kitx_exc k1 xf.ga xf.gg xf.exC (He.eqO_ok k2) (He.eqO_ok k3) (of_decide_eq_true k4) (of_decide_eq_true k5)) I.kIn J e (by simp) fun tk => ⟨.bl b, H, I.kept (t' := tk) fun _ _ z => z, rfl, q⟩
def Ext (H H' : Hp) : Prop := ∀ b o, H b = some o → H' b = some o
theorem Ext.new {H : Hp} {p : Addr} {o : HO} (h : H p = none) : Ext H (upd H p o) := fun b u e => by rw [upd_ne (ne_of_none e h)]; exact e
theorem Ext.trans {H H1 H2 : Hp} (a : Ext H H1) (b : Ext H1 H2) : Ext H H2 := fun c o e => b c o (a c o e)
theorem Ext.none {H H' : Hp} (h : Ext H H') {p : Addr} (e : H' p = Option.none) : H p = Option.none := by
  cases q : H p with
  | none => rfl
  | some o => rw [h p o q] at e; cases e
section
variable {X : Cx} {N : List Str} {sc : Scope} {a C : Addr} {oe : Obj} {d : Option Addr} {e f : Str} {t : Str → Bool}
structure KX (X : Cx) (N : List Str) (sc : Scope) (a C : Addr) (oe : Obj) (d : Option Addr) (t : Str → Bool) (ls : List Str) : Prop where
  nN : X.N = N
  nd : N.Nodup
  sc : X.env.scope = sc
  pn : (a, oe) ∈ X.pn
  xf : XfC X.K C
  kx : kitxB X.K C = true
  zc : Zc (.ref C) d oe
  fl : ∃ vs, oe.data = .fields vs
  int : X.mg "int" = none
  isi : X.mg "isinstance" = none
  ve : X.mg "ValueError" = none
  own : ∀ l, l ∈ ls → l ≠ "ValueError" → X.mg l = some (.ref (He.ga X.K l))
  one : ∀ l, l ∈ ls → PySem.W.kitOne X.K (.ref C) (kv X.K l) = some (t l)
theorem gl_scope (hsc : X.env.scope = sc) {x : Str} (h : glB sc x = true) : Gl X x ∧ (x == ("__debug__" : Str)) = false := by
  obtain ⟨g1, g2⟩ := glB_of h
  refine ⟨?_, g2⟩
  show X.env.scope.names.lookup x = _
  rw [hsc]; exact g1
theorem pe_kl {ls : List Str} (x : KX X N sc a C oe d t ls) {l : Str} (hl : l ∈ ls) {v : Expr} (h : fitKl N sc e l v = true) :
    PE X v (fun σ H Q => (∀ i : Nat, N[i]? = some e → σ[i]? = some (some (.ref a))) ∧ (∀ dd, d = some dd → ∃ fs, H dd = some (.xd fs)) ∧ ∀ l' H', Ext H H' → H l' = none → H' l' = some (.lst ((if t l then [l] else []).map V.str)) → Q (.ref l') H') := by
  unfold fitKl at h
  split at h
  · simp only [Bool.and_eq_true, decide_eq_true_eq] at h
    obtain ⟨rfl, rfl, h3, rfl, h5, h6, rfl, h8⟩ := h
    obtain ⟨gi, _⟩ := gl_scope x.sc h3
    obtain ⟨gs, _⟩ := gl_scope x.sc h5
    obtain ⟨gc, gd⟩ := gl_scope x.sc h8
    obtain ⟨i, po, rfl, hi, p1⟩ := nm_okI x.nN x.sc h6
    rename_i z pc _ _ _ _ _
    have pcl : PE X (.Name z pc) (tC (kvV X.K z)) := by
      by_cases hv : z = "ValueError"
      · subst hv
        exact pe_bltn gc x.ve PyProof.Rows.Boot.«ValueError» rfl (by decide) gd
      · unfold kvV
        rw [if_neg hv]
        exact pe_glob gc (x.own _ hl hv) rfl gd
    have hcv : ∀ u, RelV (kvV X.K z) u → u = kv X.K z := fun u r => by
      unfold kvV at r
      unfold kv
      split at r <;> rename_i hz
      · rw [if_pos hz]; exact r
      · rw [if_neg hz]; exact r
    refine PE.mono (pe_op op_rep (pe_lst (pa_cons pe_str pa_nil)) (pe_callTy call_int1 gi x.int (by decide +kernel) (pa_cons (pe_callB (call_isK x.pn x.xf x.kx x.zc x.fl) gs x.isi (by decide +kernel) (pa_cons p1 (pa_cons pcl pa_nil))) pa_nil))) fun σ H Q ⟨q1, q2, q3⟩ => ?_
    refine ⟨by show 1 ≤ sizeLine; decide, fun p1 hp1 => ⟨_, q1 i hi, _, _, t z, rfl, hcv, x.one _ hl, fun dd e => ?_, .inr ⟨_, rfl, ?_⟩⟩⟩
    · obtain ⟨fs, hfs⟩ := q2 dd e
      exact ⟨fs, Ext.new hp1 _ _ hfs⟩
    · refine ⟨p1, _, _, rfl, rfl, upd_same, ?_, ?_, ?_, fun p2 hp2 => q3 p2 _ (Ext.trans (Ext.new hp1) (Ext.new hp2)) ((Ext.new hp1).none hp2) ?_⟩
      · split <;> decide
      · split <;> decide
      · split
        · show 1 * 1 ≤ sizeLine; decide
        · show 1 * 0 ≤ sizeLine; decide
      · rw [upd_same]
        cases t z <;> rfl
  · cases h
theorem ks_ok {all : List Str} (x : KX X N sc a C oe d t all) {jf : Nat} (hjf : N[jf]? = some f) {je : Nat} (hje : N[je]? = some e) (hne : je ≠ jf) : ∀ (ls : List Str) (b : Bool) {ss : List Stmt}, fitKs N sc e f b ls ss = true → (∀ l, l ∈ ls → l ∈ all) →
    PSs X ss (fun D σ H => ∃ (H0 : Hp) (acc : List Str), σ[je]? = some (some (.ref a)) ∧ (∀ dd, d = some dd → ∃ fs, H0 dd = some (.xd fs)) ∧ Ext H0 H ∧ (b = false → ∃ l, σ[jf]? = some (some (.ref l)) ∧ H0 l = none ∧ H l = some (.lst (acc.map V.str))) ∧ (b = true → acc = []) ∧ acc.length + ls.length ≤ 1000 ∧ jf < σ.length ∧
      ∀ l H', Ext H0 H' → H0 l = none → H' l = some (.lst ((acc ++ ls.filter t).map V.str)) → D.rt (.ref l) H')
  | [], b, ss, h, hall => by
    cases b <;> try (simp [fitKs] at h; done)
    rcases ss with _ | ⟨s, _ | ⟨s2, ss⟩⟩ <;> simp only [fitKs, Bool.false_eq_true] at h
    unfold fitKr at h
    split at h
    · obtain ⟨i, po, rfl, hi, p1⟩ := nm_okI x.nN x.sc h
      refine PSs.mono (pss_one (ps_ret p1)) fun D σ H ⟨H0, acc, h1, h2, h3, h4, _, _, _, q⟩ => ?_
      obtain ⟨l, g1, g2, g3⟩ := h4 rfl
      have : i = jf := nodup_get x.nd hi hjf
      subst this
      exact ⟨_, g1, q l H h3 g2 (by simpa using g3)⟩
    · cases h
  | l :: ls, b, [], h, _ => by cases b <;> simp [fitKs] at h
  | l :: ls, b, s :: ss, h, hall => by
    have h' : fitK1 N sc e f l b s = true ∧ fitKs N sc e f false ls ss = true := by
      cases b <;> simpa only [fitKs, Bool.and_eq_true] using h
    obtain ⟨h1, h2⟩ := h'
    have rest := ks_ok x hjf hje hne ls false h2 fun y hy => hall y (List.mem_cons_of_mem _ hy)
    have hl := hall l List.mem_cons_self
    unfold fitK1 at h1
    split at h1
    · rename_i y py v pos
      simp only [Bool.and_eq_true, decide_eq_true_eq] at h1
      obtain ⟨⟨⟨rfl, h3⟩, h4⟩, h5⟩ := h1
      have hloc : X.env.scope.names.lookup y = some .local := by
        unfold locB at h3
        rw [x.sc]
        split at h3
        · assumption
        · cases h3
      -- what the right side gives
      have pv : PE X v (fun σ H Q => ∃ (H0 : Hp) (acc : List Str), σ[je]? = some (some (.ref a)) ∧ (∀ dd, d = some dd → ∃ fs, H0 dd = some (.xd fs)) ∧ Ext H0 H ∧ (b = false → ∃ l, σ[jf]? = some (some (.ref l)) ∧ H0 l = none ∧ H l = some (.lst (acc.map V.str))) ∧ (b = true → acc = []) ∧ acc.length ≤ 1000 ∧
          ∀ l' H', Ext H0 H' → H0 l' = none → H' l' = some (.lst ((acc ++ (if t l then [l] else [])).map V.str)) → Q (.ref l') H') := by
        cases b with
        | true =>
          simp only [fitKa] at h5
          refine PE.mono (pe_kl x hl h5) fun σ H Q ⟨H0, acc, g1, g2, g3, g4, g5, g6, q⟩ => ?_
          obtain rfl := g5 rfl
          refine ⟨fun i hi => ?_, fun dd hd => ?_, fun l' H' e1 e2 e3 => q l' H' (g3.trans e1) (g3.none e2) (by simpa using e3)⟩
          · have : i = je := nodup_get x.nd hi hje
            rw [this]; exact g1
          · obtain ⟨fs, hfs⟩ := g2 dd hd
            exact ⟨fs, g3 _ _ hfs⟩
        | false =>
          unfold fitKa at h5
          split at h5
          · rename_i h0; cases h0
          · simp only [Bool.and_eq_true] at h5
            obtain ⟨i, po, rfl, hi, p1⟩ := nm_okI x.nN x.sc h5.1
            refine PE.mono (pe_op op_cat p1 (pe_kl x hl h5.2)) fun σ H Q ⟨H0, acc, g1, g2, g3, g4, g5, g6, q⟩ => ?_
            obtain ⟨l0, k1, k2, k3⟩ := g4 rfl
            have : i = jf := nodup_get x.nd hi hjf
            subst this
            refine ⟨_, k1, fun i hi => ?_, fun dd hd => ?_, fun l' H' e1 e2 e3 => ?_⟩
            · have : i = je := nodup_get x.nd hi hje
              rw [this]; exact g1
            · obtain ⟨fs, hfs⟩ := g2 dd hd
              exact ⟨fs, g3 _ _ hfs⟩
            · refine ⟨l0, l', _, _, rfl, rfl, e1 _ _ k3, e3, ?_, fun p hp => q p _ (g3.trans (e1.trans (Ext.new hp))) (g3.none (e1.none hp)) ?_⟩
              · refine lim_le ?_
                have : (if t l then [l] else []).length ≤ 1 := by split <;> simp
                simp only [List.length_map]
                unfold lim; omega
              · rw [upd_same, List.map_append]
          · cases h5
      refine PSs.mono (pss_cons (ps_set (i := jf) (by rw [x.nN]; exact x.nd) (by rw [x.nN]; exact hjf) (.inl hloc) pv (swaps_of h4) (.inr hloc)) rest) fun D σ H ⟨H0, acc, g1, g2, g3, g4, g5, g6, g7, q⟩ => ?_
      simp only [List.length_cons] at g6
      refine ⟨H0, acc, g1, g2, g3, g4, g5, by omega, fun l' H' e1 e2 e3 => ?_⟩
      refine ⟨H0, acc ++ (if t l then [l] else []), ?_, g2, e1, fun _ => ⟨l', ?_, e2, e3⟩, fun z => (by cases z), ?_, by simpa using g7, fun l2 H2 f1 f2 f3 => q l2 H2 f1 f2 ?_⟩
      · rw [List.getElem?_set_ne (fun z => hne z.symm)]; exact g1
      · rw [List.getElem?_set_self g7]
      · have : (if t l then [l] else []).length ≤ 1 := by split <;> simp
        rw [List.length_append]; omega
      · rw [f3]
        congr 3
        rw [List.append_assoc, List.filter_cons]
        cases t l <;> simp
    · cases h1
end
end Ev

namespace Ev
open PySem L2
section
variable {P : Program} {w : World} {K : PySem.W.Frag} {mg : Str → Option Value} {base : Heap}
/-- a def's run where the exception p is handled, its body told for that p -/
theorem run_hot {f : Addr} {fd : FuncData} {name qual : Str} {params : Arguments} {body : List Stmt} {scope : Scope} {N ps : List Str} {p : Addr × Obj} {A : Around} {outer : List Env} {s : Shared} {H : Hp} {args : Args} {us : List Value} {vs : List V} {Q : VK} {E : XK}
    (FD : FunD K name qual params body scope [] [] f fd) (S : FnScope N ps scope) (hl : vs.length = ps.length) (hr : L2H.RoomH 1 A) (pin : L2H.PinOk outer H s p) (e0 : Env0 P w K mg base A outer s H) (hb : BindsTo s fd args (ps.zip us)) (rv : Vals vs us)
    (hbody : ∀ cdv, ∃ t, PSs (L2H.cxH (L2N.CX P w) P w K mg base N qual scope f cdv A outer s H E p) body t ∧ t { nx := fun _ H' => Q .non H', rt := Q } (L2.start N vs) H) :
    codeAny (model P w) A (.call (.ref f) args) (CR (L2N.CX P w) outer P w H s Q E) s := by
  obtain ⟨oc, od, dV, kV, doc, pm, an, cdv, ct, osl, efd, lk, hcd, _, _⟩ := FD.ex
  subst efd
  have kin : K.In s.heap := e0.mod.kin.keeps fun b o e => (e0.bs b o e).1
  obtain ⟨t, ht, hq⟩ := hbody cdv
  have kinds : ∀ y ∈ ps.zip us, scope.names.lookup y.1 = some .local ∨ (scope.names.lookup y.1 = some .cell ∧ ((cellsFrom (s.heap.objs.size + 1) scope.names []).lookup y.1).isSome = true) := by
    rintro ⟨n, v⟩ hy
    exact (S.par n (List.of_mem_zip hy).1).imp id fun q => ⟨q, PySem.W.cellsFrom_some _ _ _ (.inl q)⟩
  refine codeAny_call_function (L2H.RoomH.depth hr) (kin _ _ lk) rfl S.co S.gen rfl (PySem.W.codeRec_of kin hcd) (hb _ _ _ _ (wpAny_newFunctionEnv_cells S.kind kinds fun env he s1 x => ?_))
  subst he
  have nolim : s.heap.NoLimit := e0.mod.nolimit.keeps fun b o e => (e0.bs b o e).1
  refine ⟨nolim.keeps x.toInCall.keep, codeAny_func (wpAny_mono (ht.run [] s1 (L2.start N vs) H _ (L2H.inv_startH S pin e0 hl rv x) hq) (fun fl s' hs => ?_) fun e s' hs => hs)⟩
  cases fl with
  | ret u => exact match hs with | ⟨v, σ', H', J, rv', q⟩ => ⟨v, H', J.os, J.bare, J.base, J.hok, rv', q⟩
  | next => exact match hs with | ⟨σ', H', J, q⟩ => ⟨V.non, H', J.os, J.bare, J.base, J.hok, rfl, q⟩
  | brk => exact match hs with | ⟨_, _, _, q⟩ => q.elim
  | cont => exact match hs with | ⟨_, _, _, q⟩ => q.elim
theorem kin_ok {f C p : Addr} {d : Option Addr} {fd : FuncData} {name qual e fnd : Str} {params : Arguments} {body : List Stmt} {scope : Scope} {t : Str → Bool} {ls : List Str} (FD : FunD K name qual params body scope [] [] f fd) (S : FnScope [e, fnd] [e] scope)
    (fit : fitKs [e, fnd] scope e fnd true ls body = true) (hz : ls.length ≤ 1000) (xf : XfC K C) (kx : kitxB K C = true) (int : mg "int" = none) (isi : mg "isinstance" = none) (ve : mg "ValueError" = none)
    (own : ∀ l, l ∈ ls → l ≠ "ValueError" → mg l = some (.ref (He.ga K l))) (one : ∀ l, l ∈ ls → PySem.W.kitOne K (.ref C) (kv K l) = some (t l)) :
    KinOk P w K mg base f fd [e] p (.ref C) d (spKin K p d (ls.filter t)) := by
  refine ⟨fun vs H Q E ⟨h, _⟩ => by rw [h]; rfl, fun A outer s H args us vs Q E oe hr hot zn pin e0 hb rv h => ?_⟩
  have hvs : vs = [V.ref p] := h.1
  subst hvs
  have nd : ([e, fnd] : List Str).Nodup := S.nd
  refine run_hot FD S rfl hr pin e0 hb rv fun cdv => ⟨_, ks_ok (X := L2H.cxH (L2N.CX P w) P w K mg base [e, fnd] qual scope f cdv A outer s H E (p, oe)) (N := [e, fnd]) (sc := scope) (a := p) (C := C) (oe := oe) (d := d) (t := t) (all := ls) ⟨rfl, nd, rfl, List.mem_singleton.mpr rfl, xf, kx, zn.zc, ?_, int, isi, ve, own, one⟩ (jf := 1) rfl (je := 0) rfl (by decide) ls true fit (fun _ h => h), ?_⟩
  · obtain ⟨_, vs, hv, _⟩ := hot
    exact ⟨vs, hv⟩
  · refine ⟨H, [], rfl, h.2.1, fun _ _ e => e, fun z => (by cases z), fun _ => rfl, (by simpa using hz), (by show 1 < 2; decide), fun l H' e1 e2 e3 => h.2.2 l H' e1 e2 (by simpa using e3)⟩
end
end Ev

namespace Ev
open PySem L2
/-! ### the head's facts of exception classes -/
structure XD where
  x : Str
  own : Option (List (Str × Bool) × He.DefD × Str × Str)
def oexB (K : PySem.W.Frag) (C : Addr) : Bool := match K.lookup C with
  | some ⟨.type c, _, .cls cd, sl⟩ => decide (c = "type") && (match cd.mro, sl.toList with
    | .ref C' :: bm, [_, _, _, _, some (.builtin n), _] => decide (C' = C) && (decide (n = "ValueError.__new__") && (!cd.hasDel && (cd.hasDict && PySem.HandSPX.refsVE bm)))
    | _, _ => false)
  | _ => false
theorem oexB_ok {K : PySem.W.Frag} {C : Addr} (h : oexB K C = true) : ∃ nm q N bs bm sn sub ab col dd k0 k1 k2 k3 k5, K.lookup C = some (excClassObj nm q C N bs bm true sn sub ab col dd k0 k1 k2 k3 k5 "ValueError.__new__") ∧ PySem.HandSPX.refsVE bm = true := by
  unfold oexB at h
  split at h
  · rename_i c dd cd sl ho
    simp only [Bool.and_eq_true, decide_eq_true_eq] at h
    obtain ⟨rfl, h⟩ := h
    split at h
    · rename_i C' bm k0 k1 k2 k3 n k5 hm hs
      simp only [Bool.and_eq_true, decide_eq_true_eq, Bool.not_eq_true'] at h
      obtain ⟨rfl, rfl, hdel, hdict, ht⟩ := h
      obtain ⟨nm, bs, mro, ns, qn, hd, sn, sub, ab, col, del⟩ := cd
      dsimp only at hm hdel hdict
      subst hm hdel hdict
      have hsl : sl = #[k0, k1, k2, k3, some (.builtin "ValueError.__new__"), k5] := by
        obtain ⟨l⟩ := sl
        simp only at hs
        rw [hs]
      subst hsl
      exact ⟨nm, qn, ns, bs, bm, sn, sub, ab, col, dd, k0, k1, k2, k3, k5, ho, ht⟩
    · cases h
  · cases h
def oexC (K : PySem.W.Frag) (C : Addr) : Bool := oexB K C && (He.eqO (PySem.W.findIn K (.ref C) "__setattr__") (some (some (.builtin "object.__setattr__"))) && (decide (PySem.W.subIn K (.ref C) (.type "BaseException") = some true) &&
  (decide (PySem.W.typeIn K (.ref C) = some (.type "type")) && PySem.W.keepIn K (.ref C))))
theorem oexC_ok {K : PySem.W.Frag} {C : Addr} (h : oexC K C = true) : OexC K C := by
  obtain ⟨h1, h⟩ := He.ba h
  obtain ⟨h2, h⟩ := He.ba h
  obtain ⟨h3, h⟩ := He.ba h
  obtain ⟨h4, h5⟩ := He.ba h
  exact ⟨oexB_ok h1, He.eqO_ok h2, of_decide_eq_true h3, of_decide_eq_true h4, h5⟩
def isV : Option PySem.W.CFound → Bool
  | some (.val (.builtin n)) => decide (n = "ValueError.__init__")
  | _ => false
def binB (K : PySem.W.Frag) (B : Addr) : Bool := PySem.W.readsIn K B (.type "type") && (He.eqO (PySem.W.specialIn K (.ref B) "__getattribute__") (some (some (.builtin "type.__getattribute__"))) && isV (PySem.W.findCls K (.ref B) (.type "type") "__init__"))
theorem binB_ok {K : PySem.W.Frag} {B : Addr} (h : binB K B = true) : BIn K B := by
  obtain ⟨h1, h⟩ := He.ba h
  obtain ⟨h2, h3⟩ := He.ba h
  refine ⟨h1, He.eqO_ok h2, ?_⟩
  unfold isV at h3
  split at h3
  · rename_i n e
    rw [e, of_decide_eq_true h3]
  · cases h3
def ownB (K : PySem.W.Frag) (x : Str) : Option (List (Str × Bool) × He.DefD × Str × Str) → Bool
  | none => (He.Fa.exc x).ok K
  | some (ps, di, _, B) => oexC K (He.ga K x) && ((ps.all fun p => (He.Fa.noat x p.1).ok K) && ((He.Fa.glo B).ok K && (binB K (He.ga K B) && (He.eqO (PySem.W.findIn K (.ref (He.ga K x)) "__init__") (some (some (.ref (He.fAd K di.at_)))) &&
    decide (PySem.W.typeIn K (.ref (He.fAd K di.at_)) = some (.type "function"))))))
def xdB (xs : List XD) (sub : List (Str × Str)) (kin : Str × List Str) (K : PySem.W.Frag) (d : XD) : Bool := (He.Fa.glo d.x).ok K && (xfB K (He.ga K d.x) && (kitxB K (He.ga K d.x) && (ownB K d.x d.own &&
  ((kin.2.all fun l => decide (PySem.W.kitOne K (.ref (He.ga K d.x)) (kv K l) = some (decide ((d.x, l) ∈ sub)))) && (xs.all fun e => decide (PySem.W.exmOne K (.ref (He.ga K d.x)) (.ref (He.ga K e.x)) = some (decide ((d.x, e.x) ∈ sub))))))))
def excB (xs : List XD) (sub : List (Str × Str)) (kin : Str × List Str) (K : PySem.W.Frag) : Bool := (xs.all fun d => xdB xs sub kin K d) && ((kin.2.all fun l => decide (l = "ValueError") || (He.Fa.glo l).ok K) && (He.Fa.free "ValueError").ok K)
def excOf (xs : List XD) : List (Str × Option (List (Str × Bool))) := xs.map fun d => (d.x, d.own.map (·.1))
theorem excOf_mem {xs : List XD} {x : Str} {o : Option (List (Str × Bool))} (h : (excOf xs).lookup x = some o) : ∃ d, d ∈ xs ∧ d.x = x ∧ d.own.map (·.1) = o := by
  have := PySem.mem_of_lookup h
  obtain ⟨d, h1, h2⟩ := List.mem_map.mp this
  simp only [Prod.mk.injEq] at h2
  exact ⟨d, h1, h2.1, h2.2⟩
/-- what a text gives of an __init__ -/
structure IniT (K : PySem.W.Frag) (ps : List (Str × Bool)) (di : He.DefD) (sf B : Str) : Prop where
  fd : ∃ fd, FunD K di.name di.qual di.params di.body di.scope [] [] (He.fAd K di.at_) fd ∧ Binds K fd (sf :: ps.map (·.1)) []
  sc : FnScope (sf :: ps.map (·.1)) (sf :: ps.map (·.1)) di.scope
  len : ps.length ≤ 100
  ne : ps ≠ []
  fit : fitIni (sf :: ps.map (·.1)) di.scope sf B ps di.body = true
structure KinT (K : PySem.W.Frag) (kin : Str × List Str) (dk : He.DefD) (e f : Str) : Prop where
  fd : ∃ fd, FunD K dk.name dk.qual dk.params dk.body dk.scope [] [] (He.fAd K dk.at_) fd ∧ Binds K fd [e] []
  sc : FnScope [e, f] [e] dk.scope
  fit : fitKs [e, f] dk.scope e f true kin.2 dk.body = true
  len : kin.2.length ≤ 1000
theorem hds_of {T : Prg} {P : Program} {w : World} {K : PySem.W.Frag} {h : Heap} {mg : Str → Option Value} {base : Heap} {xs : List XD} {dk : He.DefD} {e f : Str} (X : K.In h) (G : h.Ns mainGlobals mg) (fr : ∀ x, x ∈ nameFree → mg x = none)
    (con : ∀ x d, T.con.lookup x = some d → ∃ u v, mg x = some u ∧ RelV v u ∧ ∀ Z m S H, RelD K Z m S H d v) (hx : T.exc = excOf xs) (c : excB xs T.sub T.kin K = true)
    (ini : ∀ d ps di self B, d ∈ xs → d.own = some (ps, di, self, B) → IniT K ps di self B) (kin : xs ≠ [] → KinT K T.kin dk e f ∧ mg T.kin.1 = some (.ref (He.fAd K dk.at_))) : Hds T P w K mg base := by
  obtain ⟨c1, c2⟩ := He.ba c
  obtain ⟨c2, c3⟩ := He.ba c2
  have all : ∀ d, d ∈ xs → xdB xs T.sub T.kin K d = true := fun d hd => List.all_eq_true.mp c1 d hd
  have cl : ∀ x o, T.exc.lookup x = some o → XCl K mg x := fun x o e => by
    rw [hx] at e
    obtain ⟨d, h1, rfl, _⟩ := excOf_mem e
    obtain ⟨d1, q⟩ := He.ba (all d h1)
    obtain ⟨d2, q⟩ := He.ba q
    exact ⟨He.glo_ok X G d1, xfB_ok d2⟩
  refine ⟨fun f => fr _ (by cases f <;> simp [Blt.nm, nameFree]), fr _ (by simp [nameFree]), fr _ (by simp [nameFree]), con, cl, fun x ps e => ?_, fun x e => ?_, fun x y o q e1 e2 => ?_, fun x o e1 => ?_⟩
  · rw [hx] at e
    obtain ⟨d, h1, rfl, h3⟩ := excOf_mem e
    cases ho : d.own with
    | none => rw [ho] at h3; cases h3
    | some z =>
      obtain ⟨ps', di, self, B⟩ := z
      rw [ho] at h3
      simp only [Option.map_some, Option.some.injEq] at h3
      subst h3
      obtain ⟨d1, q⟩ := He.ba (all d h1)
      obtain ⟨d2, q⟩ := He.ba q
      obtain ⟨d3, q⟩ := He.ba q
      obtain ⟨d4, q⟩ := He.ba q
      rw [ho] at d4
      obtain ⟨o1, d4⟩ := He.ba d4
      obtain ⟨o2, d4⟩ := He.ba d4
      obtain ⟨o3, d4⟩ := He.ba d4
      obtain ⟨o4, d4⟩ := He.ba d4
      obtain ⟨o5, o6⟩ := He.ba d4
      have noat : ∀ f, f ∈ ps'.map (·.1) → PySem.W.findIn K (.ref (He.ga K d.x)) f = some none := fun f hf => by
        obtain ⟨p, hp, rfl⟩ := List.mem_map.mp hf
        exact He.noat_ok (List.all_eq_true.mp o2 p hp)
      have it := ini d ps' di self B h1 ho
      obtain ⟨fd, FD, b⟩ := it.fd
      exact ⟨⟨oexC_ok o1, _, fd, _, He.eqO_ok o5, of_decide_eq_true o6, ini_ok (oexC_ok o1) noat (binB_ok o4) (He.glo_ok X G o3) FD it.sc it.len it.ne it.fit, b⟩, noat⟩
  · rw [hx] at e
    obtain ⟨d, h1, rfl, h3⟩ := excOf_mem e
    cases ho : d.own with
    | some z => rw [ho] at h3; cases h3
    | none =>
      obtain ⟨d1, q⟩ := He.ba (all d h1)
      obtain ⟨d2, q⟩ := He.ba q
      obtain ⟨d3, q⟩ := He.ba q
      obtain ⟨d4, q⟩ := He.ba q
      rw [ho] at d4
      exact d4
  · rw [hx] at e1 e2
    obtain ⟨d, h1, rfl, _⟩ := excOf_mem e1
    obtain ⟨d', g1, rfl, _⟩ := excOf_mem e2
    obtain ⟨d1, q⟩ := He.ba (all d h1)
    obtain ⟨d2, q⟩ := He.ba q
    obtain ⟨d3, q⟩ := He.ba q
    obtain ⟨d4, q⟩ := He.ba q
    obtain ⟨d5, d6⟩ := He.ba q
    exact of_decide_eq_true (List.all_eq_true.mp d6 d' g1)
  · have e1' := e1
    rw [hx] at e1
    obtain ⟨d, h1, rfl, _⟩ := excOf_mem e1
    obtain ⟨kt, mk⟩ := kin (List.ne_nil_of_mem h1)
    obtain ⟨fd, FD, b⟩ := kt.fd
    obtain ⟨d1, q⟩ := He.ba (all d h1)
    obtain ⟨d2, q⟩ := He.ba q
    obtain ⟨d3, q⟩ := He.ba q
    obtain ⟨d4, q⟩ := He.ba q
    obtain ⟨d5, d6⟩ := He.ba q
    refine ⟨_, fd, [e], mk, FD.kp, b, fun p dd => ?_⟩
    exact kin_ok (t := fun y => decide ((d.x, y) ∈ T.sub)) FD kt.sc kt.fit kt.len (xfB_ok d2) d3 (fr _ (by simp [nameFree])) (fr _ (by simp [nameFree])) (He.free_ok X G c3)
      (fun l hl hv => He.glo_ok X G (by
        have := List.all_eq_true.mp c2 l hl
        rw [decide_eq_false hv, Bool.false_or] at this
        exact this))
      (fun l hl => of_decide_eq_true (List.all_eq_true.mp d5 l hl))
/-- a def that lets nothing out, for the end -/
theorem calm_ok {P : Program} {w : World} {K : PySem.W.Frag} {mg : Str → Option Value} {base : Heap} {k : Nat} {f : Addr} {fd : FuncData} {ps : List Str} {sp : Sp} (F : FnOk P w K mg base (L2N.CX P w) k f fd ps sp) (h : ∀ vs H Q E, sp vs H Q E → sp vs H Q fun _ _ _ => False) :
    FnOk P w K mg base CX0 k f fd ps sp := by
  refine ⟨F.len, fun A outer s H args us vs Q E hr he hb hv hs => codeAny_mono (F.run A outer s H args us vs Q (fun _ _ _ => False) hr he hb hv (h _ _ _ _ hs)) fun r s' hq => ?_⟩
  cases r with
  | error e =>
    obtain ⟨_, _, _, _, _, _, _, _, _, _, _, _, z⟩ := hq
    exact z.elim
  | ok fl =>
    cases fl with
    | ret u => exact hq
    | next => exact hq
    | brk => exact hq
    | cont => exact hq
/-- the statements of a class -/
def clsB : Stmt → List Stmt
  | .ClassDef _ _ _ b _ _ _ _ _ _ _ => b
  | _ => []
end Ev

namespace Ev
open PySem L2
/-! ### the head's facts of own classes -/
structure CD where
  c : Str
  flds : List Str
  mets : List Str
  mkd : Bool
  kons : List (Str × Int)
  pros : List Str := []
  iss : List (Str × Bool) := []
def isI (i : Int) : Option PySem.W.CFound → Bool
  | some (.val (.int j _)) => decide (j = i)
  | _ => false
def konB (K : PySem.W.Frag) (c : Str) (p : Str × Int) : Bool := isI p.2 (PySem.W.findCls K (.ref (He.ga K c)) (.type "type") p.1)
def crB (K : PySem.W.Frag) (c : Str) : Bool := PySem.W.readsIn K (He.ga K c) (.type "type") && He.eqO (PySem.W.specialIn K (.ref (He.ga K c)) "__getattribute__") (some (some (.builtin "type.__getattribute__")))
/-- a property with a getter -/
def isPr (K : PySem.W.Frag) (p : Addr) : Bool := match PySem.W.recIn K p "property" with
  | some (.ref _ :: _) => true
  | _ => false
def prB (K : PySem.W.Frag) (c f : Str) : Bool := He.eqO (PySem.W.findIn K (.ref (He.ga K c)) f) (some (some (.ref (He.ma K (He.ga K c) f)))) && (He.eqO (PySem.W.specialIn K (.ref (He.ma K (He.ga K c) f)) "__get__") (some (some (.builtin "property.__get__"))) &&
  (decide (PySem.W.takesIn K (.ref (He.ma K (He.ga K c) f)) = some true) && isPr K (He.ma K (He.ga K c) f)))
theorem pr_of {K : PySem.W.Frag} {c f : Str} (h : prB K c f = true) : PropOf K (He.ga K c) f (He.ma K (He.ga K c) f) (pAd K (c, some f)) := by
  obtain ⟨h1, h⟩ := He.ba h
  obtain ⟨h2, h⟩ := He.ba h
  obtain ⟨h3, h4⟩ := He.ba h
  refine ⟨He.eqO_ok h1, He.eqO_ok h2, of_decide_eq_true h3, ?_⟩
  unfold isPr at h4
  split at h4
  · rename_i g r e
    refine ⟨r, ?_⟩
    show _ = some (.ref (getOf K (He.ma K (He.ga K c) f)) :: r)
    unfold getOf
    rw [e]
  · cases h4
def isB (K : PySem.W.Frag) (b : Str) (p : Str × Bool) : Bool := He.eqO (PySem.W.findIn K (.ref (He.ga K b)) "__class__") (some (some (.builtin "object.__class__"))) && (He.eqO (PySem.W.specialIn K (.builtin "object.__class__") "__get__") (some (some (.builtin "getset_descriptor.__get__"))) &&
  (decide (PySem.W.takesIn K (.builtin "object.__class__") = some true) && (decide (PySem.W.mroIn K (He.ga K b) (.type "object") = some true) && ((He.Fa.glo p.1).ok K && decide (PySem.W.kitOne K (.ref (He.ga K b)) (.ref (He.ga K p.1)) = some p.2)))))
theorem is_of {K : PySem.W.Frag} {h : Heap} {mg : Str → Option Value} (X : K.In h) (G : h.Ns mainGlobals mg) {b : Str} {p : Str × Bool} (cl : Cls K (He.ga K b)) (q : isB K b p = true) : IslOk K mg b p.1 p.2 := by
  obtain ⟨h1, q⟩ := He.ba q
  obtain ⟨h2, q⟩ := He.ba q
  obtain ⟨h3, q⟩ := He.ba q
  obtain ⟨h4, q⟩ := He.ba q
  obtain ⟨h5, h6⟩ := He.ba q
  exact ⟨cl, He.eqO_ok h1, He.eqO_ok h2, of_decide_eq_true h3, of_decide_eq_true h4, He.glo_ok X G h5, of_decide_eq_true h6⟩
def islOf (cds : List CD) : List ((Str × Str) × Bool) := cds.flatMap fun d => d.iss.map fun p => ((d.c, p.1), p.2)
def cdB (K : PySem.W.Frag) (d : CD) : Bool := (He.Fa.glo d.c).ok K && ((He.Fa.cls d.c).ok K && ((d.flds.all fun f => (He.Fa.noat d.c f).ok K) && ((d.mets.all fun m => (He.Fa.meth d.c m).ok K) && ((!d.mkd || (He.Fa.mkr d.c).ok K) && ((d.kons.isEmpty || (crB K d.c && d.kons.all fun p => konB K d.c p)) && ((d.pros.all fun f => prB K d.c f) && (d.iss.all fun p => isB K d.c p)))))))
def kcsOf (cds : List CD) : List ((Str × Str) × D) := cds.flatMap fun d => d.kons.map fun p => ((d.c, p.1), .int p.2)
def clsOf (cds : List CD) : List (Str × List Str) := cds.map fun d => (d.c, d.flds)
abbrev Dt := List (Str × Bool × He.DefD)
/-- where a def stands: a property's getter, or by its name -/
def aOf (K : PySem.W.Frag) : Bool × He.DefD → Addr
  | (true, d) => pAd K d.at_
  | (false, d) => He.fAd K d.at_
def prpB (T : Prg) (ds : Dt) (cds : List CD) (c m g : Str) : Bool := match T.fns.lookup g, ds.lookup g with
  | some F, some (true, d) => decide (F.base = g) && (decide (d.at_ = (c, some m)) && cds.any fun z => decide (z.c = c) && z.pros.contains m)
  | _, _ => false
def metB (T : Prg) (ds : Dt) (cds : List CD) (c m g : Str) : Bool := match T.fns.lookup g, ds.lookup g with
  | some F, some (false, d) => decide (F.base = g) && (decide (d.at_ = (c, some m)) && cds.any fun z => decide (z.c = c) && z.mets.contains m)
  | _, _ => false
def mtB (T : Prg) (ds : Dt) (cds : List CD) (p : (Str × Str × Str) × Str) : Bool := if p.1.2.2 = "low" then (T.fns.lookup p.2).isNone && (match T.eks.lookup p.2 with
    | some (.low g) => metB T ds cds p.1.1 p.1.2.1 g
    | _ => false)
  else if p.1.2.2 = "prop" then (T.fns.lookup p.2).isNone && (match T.eks.lookup p.2 with
    | some (.low g) => prpB T ds cds p.1.1 p.1.2.1 g
    | _ => false) else metB T ds cds p.1.1 p.1.2.1 p.2
def ekB (T : Prg) (ds : Dt) (cds : List CD) (p : Str × Ek) : Bool := match p.2 with
  | .low _ => true
  | .mk b i _ => (match T.fns.lookup i, ds.lookup i with
    | some F, some (false, d) => decide (F.base = i) && (decide (d.at_ = (b, some ("__init__" : Str))) && cds.any fun z => decide (z.c = b) && z.mkd)
    | _, _ => false)
def tabB (T : Prg) (ds : Dt) (cds : List CD) : Bool := (T.mt.all fun p => mtB T ds cds p) && (T.eks.all fun p => ekB T ds cds p)
theorem mem_lk {α β : Type} [BEq α] [LawfulBEq α] {a : α} {b : β} : ∀ {l : List (α × β)}, l.lookup a = some b → (a, b) ∈ l
  | [], h => by simp at h
  | (x, y) :: l, h => by
    rw [List.lookup_cons] at h
    split at h
    · rename_i e
      cases h
      rw [beq_iff_eq] at e
      subst e
      exact List.mem_cons_self
    · exact List.mem_cons_of_mem _ (mem_lk h)
theorem keys_of {T : Prg} {K : PySem.W.Frag} {h : Heap} {mg : Str → Option Value} {ds : Dt} {cds : List CD} (X : K.In h) (G : h.Ns mainGlobals mg) (good : ∀ f F, T.fns.lookup f = some F → ∃ d, ds.lookup f = some d ∧ Good K mg F d.2 (aOf K d))
    (hc : T.cls = clsOf cds) (hk : T.kcs = kcsOf cds) (hi : T.isl = islOf cds) (tab : tabB T ds cds = true) (cb : (cds.all fun d => cdB K d) = true) : Keys T K mg := by
  obtain ⟨t1, t2⟩ := He.ba tab
  have all : ∀ d, d ∈ cds → cdB K d = true := fun d hd => List.all_eq_true.mp cb d hd
  have met : ∀ {c m g : Str}, metB T ds cds c m g = true → Cls K (He.ga K c) ∧ ∃ F d fa, T.fns.lookup g = some F ∧ F.base = g ∧ Good K mg F d fa ∧ Meth K (He.ga K c) m fa := fun {c m g} hm => by
    unfold metB at hm
    split at hm
    · rename_i F d e1 e2
      simp only [Bool.and_eq_true, decide_eq_true_eq] at hm
      obtain ⟨h1, h2, h3⟩ := hm
      obtain ⟨z, hz, h4⟩ := List.any_eq_true.mp h3
      simp only [Bool.and_eq_true, decide_eq_true_eq] at h4
      obtain ⟨rfl, h5⟩ := h4
      obtain ⟨_, q⟩ := He.ba (all z hz)
      obtain ⟨q1, q⟩ := He.ba q
      obtain ⟨_, q⟩ := He.ba q
      obtain ⟨q2, _⟩ := He.ba q
      obtain ⟨d', e3, gd⟩ := good g F e1
      rw [e2] at e3
      cases e3
      refine ⟨He.cls_ok q1, F, d, He.fAd K d.at_, e1, h1, gd, ?_⟩
      have := He.meth_ok (List.all_eq_true.mp q2 m (by simpa using h5))
      rw [h2]
      exact this
    · cases hm
  refine ⟨fun f F e => ?_, fun f b i z e1 e2 => ?_, fun c m v f e h1 h2 => ?_, fun c m f e => ?_, fun c m f e => ?_, fun c l e => ?_, fun c f d e => ?_, fun b c v e => ?_⟩
  · obtain ⟨d, _, gd⟩ := good f F e
    obtain ⟨fd, FD, _⟩ := gd.fn
    exact ⟨d.2, _, gd, fun _ => FD.kp⟩
  · have := List.all_eq_true.mp t2 _ (mem_lk e2)
    unfold ekB at this
    simp only at this
    split at this
    · rename_i F d e3 e4
      simp only [Bool.and_eq_true, decide_eq_true_eq] at this
      obtain ⟨h1, h2, h3⟩ := this
      obtain ⟨z, hz, h4⟩ := List.any_eq_true.mp h3
      simp only [Bool.and_eq_true, decide_eq_true_eq] at h4
      obtain ⟨rfl, h5⟩ := h4
      obtain ⟨q0, q⟩ := He.ba (all z hz)
      obtain ⟨_, q⟩ := He.ba q
      obtain ⟨_, q⟩ := He.ba q
      obtain ⟨_, q⟩ := He.ba q
      obtain ⟨q3, _⟩ := He.ba q
      rw [h5] at q3
      obtain ⟨d', e5, gd⟩ := good i F e3
      rw [e4] at e5
      cases e5
      refine ⟨F, d, He.fAd K d.at_, e3, h1, gd, He.glo_ok X G q0, ?_⟩
      have := He.mkr_ok (x := z.c) (K := K) (by simpa using q3)
      rw [h2]
      exact this
    · cases this
  · have := List.all_eq_true.mp t1 _ (mem_lk e)
    unfold mtB at this
    simp only at this
    rw [if_neg h1, if_neg h2] at this
    exact met this
  · have := List.all_eq_true.mp t1 _ (mem_lk e)
    unfold mtB at this
    simp only [if_true, Bool.and_eq_true, Option.isNone_iff_eq_none] at this
    obtain ⟨h0, h1⟩ := this
    split at h1
    · rename_i g e2
      obtain ⟨_, F, d, fa, a1, a2, a3, a4⟩ := met h1
      exact ⟨h0, g, F, d, fa, e2, a1, a2, a3, a4⟩
    · cases h1
  · have := List.all_eq_true.mp t1 _ (mem_lk e)
    unfold mtB at this
    simp only at this
    rw [if_neg (by decide)] at this
    simp only [if_true] at this
    simp only [Bool.and_eq_true, Option.isNone_iff_eq_none] at this
    obtain ⟨h0, h1⟩ := this
    split at h1
    · rename_i g e2
      unfold prpB at h1
      split at h1
      · rename_i F d e3 e4
        simp only [Bool.and_eq_true, decide_eq_true_eq] at h1
        obtain ⟨k1, k2, k3⟩ := h1
        obtain ⟨z, hz, k4⟩ := List.any_eq_true.mp k3
        simp only [Bool.and_eq_true, decide_eq_true_eq] at k4
        obtain ⟨rfl, k5⟩ := k4
        obtain ⟨_, q⟩ := He.ba (all z hz)
        obtain ⟨q1, q⟩ := He.ba q
        obtain ⟨_, q⟩ := He.ba q
        obtain ⟨_, q⟩ := He.ba q
        obtain ⟨_, q⟩ := He.ba q
        obtain ⟨_, q⟩ := He.ba q
        obtain ⟨q2, _⟩ := He.ba q
        obtain ⟨d', e5, gd⟩ := good g F e3
        rw [e4] at e5
        cases e5
        refine ⟨h0, He.cls_ok q1, g, F, d, _, He.ma K (He.ga K z.c) m, e2, e3, k1, gd, ?_⟩
        have := pr_of (List.all_eq_true.mp q2 m (by simpa using k5))
        show PropOf K (He.ga K z.c) m _ (pAd K d.at_)
        rw [k2]
        exact this
      · cases h1
    · cases h1
  · rw [hc] at e
    have := mem_lk e
    obtain ⟨d, h1, h2⟩ := List.mem_map.mp this
    simp only [Prod.mk.injEq] at h2
    obtain ⟨rfl, rfl⟩ := h2
    obtain ⟨_, q⟩ := He.ba (all d h1)
    obtain ⟨q1, q⟩ := He.ba q
    obtain ⟨q2, _⟩ := He.ba q
    exact ⟨He.cls_ok q1, fun f hf => He.noat_ok (List.all_eq_true.mp q2 f hf)⟩
  · rw [hk] at e
    have := mem_lk e
    unfold kcsOf at this
    obtain ⟨z, h1, h2⟩ := List.mem_flatMap.mp this
    obtain ⟨p, h3, h4⟩ := List.mem_map.mp h2
    simp only [Prod.mk.injEq] at h4
    obtain ⟨⟨rfl, rfl⟩, rfl⟩ := h4
    obtain ⟨q0, q⟩ := He.ba (all z h1)
    obtain ⟨_, q⟩ := He.ba q
    obtain ⟨_, q⟩ := He.ba q
    obtain ⟨_, q⟩ := He.ba q
    obtain ⟨_, q⟩ := He.ba q
    obtain ⟨q, _⟩ := He.ba q
    have hne : z.kons.isEmpty = false := by
      cases hz : z.kons with
      | nil => rw [hz] at h3; cases h3
      | cons _ _ => rfl
    rw [hne, Bool.false_or] at q
    obtain ⟨q1, q2⟩ := He.ba q
    obtain ⟨r1, r2⟩ := He.ba q1
    have kb := List.all_eq_true.mp q2 p h3
    unfold konB isI at kb
    split at kb
    · rename_i j t ef
      have := of_decide_eq_true kb
      subst this
      exact ⟨.int p.2, _, .type "type", He.glo_ok X G q0, ⟨r1, He.eqO_ok r2⟩, ⟨ef, ⟨_, rfl⟩⟩, fun _ _ _ _ => .int _⟩
    · cases kb
  · rw [hi] at e
    have := mem_lk e
    unfold islOf at this
    obtain ⟨z, h1, h2⟩ := List.mem_flatMap.mp this
    obtain ⟨p, h3, h4⟩ := List.mem_map.mp h2
    simp only [Prod.mk.injEq] at h4
    obtain ⟨⟨rfl, rfl⟩, rfl⟩ := h4
    obtain ⟨_, q⟩ := He.ba (all z h1)
    obtain ⟨q1, q⟩ := He.ba q
    obtain ⟨_, q⟩ := He.ba q
    obtain ⟨_, q⟩ := He.ba q
    obtain ⟨_, q⟩ := He.ba q
    obtain ⟨_, q⟩ := He.ba q
    obtain ⟨_, q2⟩ := He.ba q
    exact is_of X G (He.cls_ok q1) (List.all_eq_true.mp q2 p h3)
end Ev

/-! The second layer: what a run gives whatever the draws are, lists of a def's own names by value. -/
namespace Ev
open PySem L2
abbrev Ob := List (Nat × O)
abbrev QD := D → Ob → Prop
abbrev QX := Str → List (Str × D) → Ob → Prop
abbrev QF := Fl → Ob → Prop
mutual
def clean : D → Bool
  | .vw _ _ => false
  | .fl _ => false
  | .tup xs => cleans xs
  | .lv xs => cleans xs
  | .ob _ _ xs => cleans xs
  | _ => true
def cleans : List D → Bool
  | [] => true
  | d :: ds => clean d && cleans ds
end
def isVw : D → Bool
  | .vw _ _ => true
  | _ => false
def stab : D → D
  | .vw _ xs => .vw 0 xs
  | d => d
/-- a store of what is known -/
def fs (A : Ob) : Sto := (List.range ((A.map (·.1)).foldr max 0 + 1)).map fun n => (A.lookup n).getD .dead
def putA (A : Ob) (n : Nat) (o : O) : Ob := A.map fun p => if p.1 = n then (n, o) else p
/-! ### wishes -/
def okW (r : R D) (Q : D → Prop) : Prop := match r with
  | .ok d _ => Q d
  | _ => False
def varQ (o : Option (Option D)) (Q : D → Prop) : Prop := match o with
  | some (some d) => Q d
  | _ => False
def negQ (d : D) (Q : D → Prop) : Prop := match d with
  | .int i => Q (.int (-i))
  | _ => False
def blQ (d : D) (Q : Bool → Prop) : Prop := match d with
  | .bl b => Q b
  | _ => False
def intQ (d : D) (Q : Int → Prop) : Prop := match d with
  | .int i => Q i
  | _ => False
def trQ (A : Ob) (d : D) (Q : Bool → Prop) : Prop := match truth (fs A) d with
  | some b => Q b
  | none => False
def brQ (c : Bool) (P R : Prop) : Prop := (c = true → P) ∧ (c = false → R)
def itQ (A : Ob) (d : D) (Q : List D → Prop) : Prop := match items (fs A) d with
  | some xs => Q xs
  | none => False
def lsQ (A : Ob) (d : D) (Q : List D → Prop) : Prop := match listOf (fs A) d with
  | some xs => Q xs
  | none => False
def partQ (no : Bool) (f : (D → Ob → Prop) → Prop) (A : Ob) (Q : Option Int → Ob → Prop) : Prop := match no with
  | true => Q none A
  | false => f fun x A => intQ x fun i => Q (some i) A
def stQ (tg : Tg) (x : D) (σ : Sg) (Q : Sg → Prop) : Prop := match setTg tg x σ with
  | some σ1 => Q σ1
  | none => False
def asgV : D → Option D
  | .vw 2 xs => some (.vw 1 xs)
  | .vw 0 xs => some (.vw 0 xs)
  | .vw _ _ => none
  | d => some d
def asgQ (tg : Tg) (x : D) (σ : Sg) (Q : Sg → Prop) : Prop := match asgV x with
  | some y => stQ tg y σ Q
  | none => False
def retQ (d : D) (Q : D → Prop) : Prop := match d with
  | .vw 2 xs => Q (.vw 2 xs)
  | .vw _ _ => False
  | d => Q d
def refQ (A : Ob) (d : D) (Q : Nat → List D → Prop) : Prop := match d with
  | .ref n => match A.lookup n with
    | some (.lst xs) => Q n xs
    | _ => False
  | _ => False
def mthQ (m : Mth) (xs vs : List D) (K : D → List D → Prop) : Prop := match m.run xs vs with
  | some (d, ys) => vs.any isVw = false ∧ K d ys
  | none => False
def ixQ (xs : List D) (i : D) (K : Nat → Prop) : Prop := match i with
  | .int i => match ixN xs.length i with
    | some j => K j
    | none => False
  | _ => False
def rngL (lo : Int) : Nat → Nat → List D
  | _, 0 => []
  | i, n + 1 => .int (lo + i) :: rngL lo (i + 1) n
/-- a comprehension's turns -/
def wLc (d : D) (ds : List D) (tg : Tg) (σ : Sg) (cond elt : Sg → Ob → QD → Prop) : List D → List D → Ob → QD → Prop
  | [], acc, A, Q => items (fs A) d = some ds ∧ Q (.lv acc) A
  | x :: xs, acc, A, Q => items (fs A) d = some ds ∧ stQ tg x (wipeD σ tg.slots) fun σ1 => cond σ1 A fun c A => trQ A c fun b => brQ b
      (elt σ1 A fun y A => acc.length < lim ∧ isVw y = false ∧ wLc d ds tg σ cond elt xs (acc ++ [y]) A Q) (wLc d ds tg σ cond elt xs acc A Q)
def wLr (tg : Tg) (σ : Sg) (cond elt : Sg → Ob → QD → Prop) : List D → List D → Ob → QD → Prop
  | [], acc, A, Q => Q (.lv acc) A
  | x :: xs, acc, A, Q => stQ tg x (wipeD σ tg.slots) fun σ1 => cond σ1 A fun c A => trQ A c fun b => brQ b
      (elt σ1 A fun y A => acc.length < lim ∧ isVw y = false ∧ wLr tg σ cond elt xs (acc ++ [y]) A Q) (wLr tg σ cond elt xs acc A Q)
def loopQ (next : Sg → Ob → QF → Prop) (Q : QF) : Fl → Ob → Prop
  | .nx σ, A => next σ A Q
  | .ct σ, A => next σ A Q
  | .bk σ, A => Q (.nx σ) A
  | .rt v, A => Q (.rt v) A
  | .ex σ c fs, A => Q (.ex σ c fs) A
def wFor (d : D) (ds : List D) (tg : Tg) (body : Sg → Ob → QF → Prop) : List D → Sg → Ob → QF → Prop
  | [], σ, A, Q => items (fs A) d = some ds ∧ Q (.nx σ) A
  | x :: xs, σ, A, Q => items (fs A) d = some ds ∧ stQ tg x σ fun σ1 => body σ1 A (loopQ (wFor d ds tg body xs) Q)
def wFr (tg : Tg) (body : Sg → Ob → QF → Prop) : List D → Sg → Ob → QF → Prop
  | [], σ, A, Q => Q (.nx σ) A
  | x :: xs, σ, A, Q => stQ tg x σ fun σ1 => body σ1 A (loopQ (wFr tg body xs) Q)
def wWh (c : Sg → Ob → QD → Prop) (body : Sg → Ob → QF → Prop) : Nat → Sg → Ob → QF → Prop
  | 0, _, _, _ => False
  | n + 1, σ, A, Q => c σ A fun x A => trQ A x fun b => brQ b (body σ A (loopQ (wWh c body n) Q)) (Q (.nx σ) A)
def seqQ (next : Sg → Ob → QF → Prop) (Q : QF) : Fl → Ob → Prop
  | .nx σ, A => next σ A Q
  | .ct σ, A => Q (.ct σ) A
  | .bk σ, A => Q (.bk σ) A
  | .rt v, A => Q (.rt v) A
  | .ex σ c fs, A => Q (.ex σ c fs) A
/-! ### calls -/
def okc (A : Ob) (S : Sto) (n : Nat) : Prop := n ≠ 0 ∧ n < S.length ∧ n ∉ A.map (·.1)
inductive Vw (b : Nat) (A : Ob) (S : Sto) : D → D → Prop where
  | same {d : D} (h : clean d = true) : Vw b A S d d
  | view {t n : Nat} {xs : List D} (hc : cleans xs = true) (h : S[n]? = some (.lst xs)) (ok : okc A S n) (lt : t = 0 → n < b) : Vw b A S (.vw t xs) (.ref n)
inductive Vws (b : Nat) (A : Ob) (S : Sto) : List D → List D → Prop where
  | nil : Vws b A S [] []
  | cons {d d' : D} {ds ds' : List D} (h : Vw b A S d d') (t : Vws b A S ds ds') : Vws b A S (d :: ds) (d' :: ds')
def ocl : O → Bool
  | .lst xs => cleans xs
  | .ins _ _ xs => cleans xs
  | .dead => true
structure Kn (A : Ob) (S : Sto) : Prop where
  box : BoxAt S 0
  nd : (A.map (·.1)).Nodup
  n0 : 0 ∉ A.map (·.1)
  get : ∀ n o, A.lookup n = some o → S[n]? = some o ∧ ocl o = true
structure St2 (A : Ob) (S : Sto) (A' : Ob) (S' : Sto) : Prop where
  le : S.length ≤ S'.length
  keep : ∀ n, n < S.length → n ≠ 0 → n ∉ A.map (·.1) → S'[n]? = S[n]?
  grow : ∀ n, n ∈ A'.map (·.1) → n ∈ A.map (·.1) ∨ S.length ≤ n
def xcl (fs : List (Str × D)) : Bool := fs.all fun p => clean p.2
def W2 {α β : Type} (rel : Ob → Sto → α → β → Prop) (A : Ob) (S : Sto) (Q : α → Ob → Prop) (E : QX) : R β → Prop
  | .ok b S' => ∃ a A', Kn A' S' ∧ St2 A S A' S' ∧ rel A' S' a b ∧ Q a A'
  | .ex c fs S' => ∃ A', Kn A' S' ∧ St2 A S A' S' ∧ xcl fs = true ∧ E c fs A'
  | .stuck => False
/-- a returned datum -/
inductive Rt (b : Nat) (A : Ob) (S : Sto) : D → D → Prop where
  | same {d : D} (h : clean d = true) : Rt b A S d d
  | new {n : Nat} {xs : List D} (hc : cleans xs = true) (h : S[n]? = some (.lst xs)) (ok : okc A S n) (le : b ≤ n) : Rt b A S (.vw 2 xs) (.ref n)
/-- an argument -/
inductive Va (A : Ob) (S : Sto) : D → D → Prop where
  | same {d : D} (h : clean d = true) : Va A S d d
  | view {n : Nat} {xs : List D} (hc : cleans xs = true) (h : S[n]? = some (.lst xs)) (ok : okc A S n) : Va A S (.vw 0 xs) (.ref n)
inductive Vas (A : Ob) (S : Sto) : List D → List D → Prop where
  | nil : Vas A S [] []
  | cons {d d' : D} {ds ds' : List D} (h : Va A S d d') (t : Vas A S ds ds') : Vas A S (d :: ds) (d' :: ds')
/-- any key's first name -/
def Prg.hasA (T : Prg) (x f : Str) : Bool := match T.fns.lookup f with
  | some F => decide (F.base = x)
  | none => match T.eks.lookup f with
    | some (.mk b _ _) => decide (b = x)
    | some (.low _) => decide (x = f)
    | none => false
theorem Prg.has_A {T : Prg} {x f : Str} (h : T.has x f = true) : T.hasA x f = true := by
  unfold Prg.has at h
  unfold Prg.hasA
  cases e : T.fns.lookup f with
  | some F =>
    rw [e] at h
    simp only [Bool.and_eq_true] at h
    exact h.1
  | none =>
    rw [e] at h
    cases e2 : T.eks.lookup f with
    | none => rw [e2] at h; cases h
    | some k =>
      rw [e2] at h
      cases k with
      | mk b i z => exact h
      | low g => cases h
def callQ (T : Prg) (k : Nat) (f : Str) (ds : List D) (A : Ob) (Q : QD) (E : QX) : Prop :=
  ∀ x S ds', T.hasA x f = true → Kn A S → Vas A S ds ds' → W2 (Rt S.length) A S Q E (callN T k x f ds' S)
def selfQ (A : Ob) (d : D) (K : Str → List Str → List D → Prop) : Prop := match selfOf (fs A) d with
  | some (c, ks, ds) => K c ks ds
  | none => False
/-- the key of an own method -/
def keyQ (T : Prg) (m v : Str) (A : Ob) (d : D) (K : Str → Prop) : Prop := selfQ A d fun c ks _ => ks.contains m = false ∧ ∃ f, T.mt.lookup (c, m, v) = some f ∧ T.hasA f f = true ∧ K f
def setfQ (T : Prg) (f : Str) (A : Ob) (o x : D) (K : Ob → Prop) : Prop := match o with
  | .ref n => match A.lookup n with
    | some (.ins c ks ds) => T.fk c f = true ∧ ks.length < 900 ∧ isVw x = false ∧ K (putA A n (.ins c (putKs f ks) (putDs f x ks ds)))
    | _ => False
  | _ => False
/-- own ==: what holds at every store of what is known -/
def eqoQ (T : Prg) (k : Nat) (x y : D) (A : Ob) (K : Bool → Prop) : Prop := isVw x = false ∧ isVw y = false ∧ ∃ b, (∀ S, Kn A S → eqoD (ctxOf T k) x y S = .ok (.bl b) S) ∧ K b
def optQ {α : Type} (o : Option α) (K : α → Prop) : Prop := match o with
  | some v => K v
  | none => False
def thwQ (d : D) (K : D → Prop) : Prop := match d with
  | .lv xs => K (.vw 2 xs)
  | _ => False
def noX : QX := fun _ _ _ => False
/-- new lists among the items of a display are tracked from then on -/
def trkQ : List D → Ob → (List D → Ob → Prop) → Prop
  | [], A, K => K [] A
  | .vw 2 xs :: vs, A, K => ∀ n, n ≠ 0 → n ∉ A.map (·.1) → trkQ vs ((n, .lst xs) :: A) fun ws A => K (.ref n :: ws) A
  | v :: vs, A, K => isVw v = false ∧ trkQ vs A fun ws A => K (v :: ws) A
def tkOne (K : D → Ob → Prop) : List D → Ob → Prop
  | [d], A => K d A
  | _, _ => False
/-- a new list is tracked -/
def tkQ (d : D) (A : Ob) (K : D → Ob → Prop) : Prop := trkQ [d] A (tkOne K)
mutual
def wE (T : Prg) (k : Nat) : E → Sg → Ob → QD → QX → Prop
  | .var i, σ, A, Q, _ => varQ σ[i]? fun d => Q d A
  | .glob x, _, A, Q, _ => varQ (some (T.con.lookup x)) fun d => isVw d = false ∧ clean d = true ∧ Q d A
  | .ty n, _, A, Q, _ => Q (.ty n) A
  | .cint i, _, A, Q, _ => Q (.int i) A
  | .cstr x, _, A, Q, _ => Q (.str x) A
  | .cbl b, _, A, Q, _ => Q (.bl b) A
  | .cnon, _, A, Q, _ => Q .non A
  | .bin op a b, σ, A, Q, E => wE T k a σ A (fun x A => wE T k b σ A (fun y A => okW (binD op x y (fs A)) fun d => Q d A) E) E
  | .neg a, σ, A, Q, E => wE T k a σ A (fun x A => negQ x fun d => Q d A) E
  | .not a, σ, A, Q, E => wE T k a σ A (fun x A => blQ x fun b => Q (.bl (!b)) A) E
  | .cmp op a b, σ, A, Q, E => wE T k a σ A (fun x A => wE T k b σ A (fun y A => okW (cmpD op x y (fs A)) fun d => Q d A) E) E
  | .chain op op2 a b c, σ, A, Q, E => wE T k a σ A (fun x A => wE T k b σ A (fun y A => okW (cmpD op x y (fs A)) fun d => blQ d fun t =>
      brQ t (wE T k c σ A (fun z A => isVw y = false ∧ okW (cmpD op2 y z (fs A)) fun d => Q d A) E) (Q (.bl false) A)) E) E
  | .and1 a, σ, A, Q, E => wE T k a σ A Q E
  | .and2 a b, σ, A, Q, E => wE T k a σ A (fun x A => blQ x fun t => brQ t (wE T k b σ A Q E) (Q (.bl false) A)) E
  | .or1 a, σ, A, Q, E => wE T k a σ A Q E
  | .or2 a b, σ, A, Q, E => wE T k a σ A (fun x A => blQ x fun t => brQ t (Q (.bl true) A) (wE T k b σ A Q E)) E
  | .ife t a b, σ, A, Q, E => wE T k t σ A (fun x A => trQ A x fun t => brQ t (wE T k a σ A Q E) (wE T k b σ A Q E)) E
  | .tup es, σ, A, Q, E => wEs T k es σ A (fun vs A => vs.length ≤ lim ∧ vs.any isVw = false ∧ Q (.tup vs) A) E
  | .lst es, σ, A, Q, E => wEs T k es σ A (fun vs A => vs.length ≤ lim ∧ trkQ vs A fun ws A => Q (.lv ws) A) E
  | .lstM es, σ, A, Q, E => wEs T k es σ A (fun vs A => vs.length ≤ lim ∧ vs.any isVw = false ∧ Q (.vw 2 vs) A) E
  | .ix a i, σ, A, Q, E => wE T k a σ A (fun x A => wE T k i σ A (fun y A => okW (ixD x y (fs A)) fun d => Q d A) E) E
  | .sl a lo hi, σ, A, Q, E => wE T k a σ A (fun x A => partQ lo.isNop (fun K => wE T k lo σ A K E) A fun l A => partQ hi.isNop (fun K => wE T k hi σ A K E) A fun h A => okW (slD x l h (fs A)) fun d => Q d A) E
  | .nop, _, _, _, _ => False
  | .call x f es, σ, A, Q, E => T.has x f = true ∧ wEs T k es σ A (fun vs A => callQ T k f (vs.map stab) A Q E) E
  | .blt f es, σ, A, Q, E => wEs T k es σ A (fun vs A => okW (bltD f vs (fs A)) fun d => Q d A) E
  | .bltM f es, σ, A, Q, E => wEs T k es σ A (fun vs A => okW (bltD f vs (fs A)) fun d => match d with
      | .lv xs => Q (.vw 2 xs) A
      | _ => False) E
  | .meth _ _ _, _, _, _, _ => False
  | .lc elt tg (.seq e) cond, σ, A, Q, E => wE T k e σ A (fun d A => itQ A d fun xs => wLc d xs tg σ (fun σ A Q => wE T k cond σ A Q noX) (fun σ A Q => wE T k elt σ A Q noX) xs [] A Q) E
  | .lc elt tg (.rng1 e) cond, σ, A, Q, E => wE T k e σ A (fun d A => intQ d fun j => rngOk j = true ∧ wLr tg σ (fun σ A Q => wE T k cond σ A Q noX) (fun σ A Q => wE T k elt σ A Q noX) (rngL 0 0 j.toNat) [] A Q) E
  | .lc elt tg (.rng2 a b) cond, σ, A, Q, E => wE T k a σ A (fun x A => wE T k b σ A (fun y A => intQ x fun i => intQ y fun j => rngOk i = true ∧ rngOk j = true ∧ wLr tg σ (fun σ A Q => wE T k cond σ A Q noX) (fun σ A Q => wE T k elt σ A Q noX) (rngL i 0 (j - i).toNat) [] A Q) E) E
  | .frz _, _, _, _, _ => False
  | .rev a, σ, A, Q, E => wE T k a σ A (fun x A => okW (revD x (fs A)) fun d => Q d A) E
  | .binM a b, σ, A, Q, E => wE T k a σ A (fun x A => wE T k b σ A (fun y A => lsQ A x fun xs => lsQ A y fun ys => xs.length + ys.length ≤ lim ∧ Q (.vw 2 (xs ++ ys)) A) E) E
  | .fld a f, σ, A, Q, E => wE T k a σ A (fun x A => selfQ A x fun c ks ds => T.fk c f = true ∧ varQ (some (fldOf ks ds f)) fun d => Q d A) E
  | .prop a f, σ, A, Q, E => wE T k a σ A (fun x A => keyQ T f "prop" A x fun g => callQ T k g [x] A Q noX) E
  | .mc m v a es, σ, A, Q, E => wE T k a σ A (fun x A => keyQ T m v A x fun g => (v ≠ "low" ∧ v ≠ "prop") ∧ wEs T k es σ A (fun vs A => callQ T k g (x :: vs.map stab) A Q E) E) E
  | .o1 w a, σ, A, Q, E => wE T k a σ A (fun x A => keyQ T w.nm "low" A x fun g => callQ T k g [x] A (fun d A => isVw d = false ∧ okW (w.post d (fs A)) fun d => Q d A) noX) E
  | .o2 w a b, σ, A, Q, E => wE T k a σ A (fun x A => wE T k b σ A (fun y A => keyQ T w.nm "" A y fun g => callQ T k g [y, stab x] A (fun d A => isVw d = false ∧ okW (w.post d (fs A)) fun d => Q d A) noX) E) E
  | .kc c f, _, A, Q, _ => varQ (some (T.kcs.lookup (c, f))) fun d => clean d = true ∧ Q d A
  | .oe a b, σ, A, Q, E => wE T k a σ A (fun x A => wE T k b σ A (fun y A => eqoQ T k x y A fun b => Q (.bl b) A) E) E
  | .isc c a, σ, A, Q, E => (ctxOf T k).isg c = true ∧ wE T k a σ A (fun x A => selfQ A x fun b _ _ => optQ (T.isl.lookup (b, c)) fun v => Q (.bl v) A) E
  | .trk a, σ, A, Q, E => wE T k a σ A (fun x A => tkQ x A fun d A => Q d A) E
  | .thw a, σ, A, Q, E => wE T k a σ A (fun x A => thwQ x fun d => Q d A) E
termination_by structural e => e
def wEs (T : Prg) (k : Nat) : Es → Sg → Ob → (List D → Ob → Prop) → QX → Prop
  | .nil, _, A, Q, _ => Q [] A
  | .cons e es, σ, A, Q, E => wE T k e σ A (fun x A => wEs T k es σ A (fun xs A => Q (x :: xs) A) E) E
termination_by structural e => e
end
/-! ### statements -/
def E.isMeth : E → Bool
  | .meth _ _ _ => true
  | _ => false
def E.isFrz : E → Bool
  | .frz _ => true
  | _ => false
mutual
def noMut : Ev.S → Bool
  | .seti _ _ _ => false
  | .expr e => !e.isMeth
  | .asg _ e => !e.isMeth
  | .ret e => !e.isFrz
  | .ifs _ a b => noMuts a && noMuts b
  | .for_ _ _ b => noMuts b
  | .whl _ b => noMuts b
  | .try_ b _ _ _ => noMuts b
  | .trym b _ => noMuts b
  | _ => true
def noMuts : Ss → Bool
  | .nil => true
  | .cons s ss => noMut s && noMuts ss
end
def exS (σ : Sg) (Q : QF) : QX := fun c fs A => Q (.ex σ c fs) A
def methQ (T : Prg) (k : Nat) (m : Mth) (a : E) (es : Es) (σ : Sg) (A : Ob) (K : D → Sg → Ob → Prop) (E : QX) : Prop := match a with
  | .var j => match σ[j]? with
    | some (some (.vw 1 xs)) => wEs T k es σ A (fun vs A => mthQ m xs vs fun d ys => K d (σ.set j (some (.vw 1 ys))) A) E
    | some (some d) => refQ A d fun _ _ => wEs T k es σ A (fun vs A => refQ A d fun n xs => mthQ m xs vs fun d ys => K d σ (putA A n (.lst ys))) E
    | _ => False
  | a => wE T k a σ A (fun o A => refQ A o fun _ _ => wEs T k es σ A (fun vs A => refQ A o fun n xs => mthQ m xs vs fun d ys => K d σ (putA A n (.lst ys))) E) E
def setQ (T : Prg) (k : Nat) (o i : E) (x : D) (σ : Sg) (A : Ob) (K : Sg → Ob → Prop) (E : QX) : Prop := match o with
  | .var j => match σ[j]? with
    | some (some (.vw 1 xs)) => wE T k i σ A (fun i A => ixQ xs i fun n => isVw x = false ∧ K (σ.set j (some (.vw 1 (xs.set n x)))) A) E
    | some (some d) => wE T k i σ A (fun i A => refQ A d fun n xs => ixQ xs i fun j => isVw x = false ∧ K σ (putA A n (.lst (xs.set j x)))) E
    | _ => False
  | o => wE T k o σ A (fun o A => wE T k i σ A (fun i A => refQ A o fun n xs => ixQ xs i fun j => isVw x = false ∧ K σ (putA A n (.lst (xs.set j x)))) E) E
def retE (T : Prg) (k : Nat) (e : E) (σ : Sg) (A : Ob) (Q : QF) : Prop := match e with
  | .frz (.var i) => match σ[i]? with
    | some (some (.vw 1 xs)) => Q (.rt (.lv xs)) A
    | _ => False
  | .var i => match σ[i]? with
    | some (some (.vw 1 xs)) => Q (.rt (.vw 2 xs)) A
    | some (some d) => isVw d = false ∧ Q (.rt d) A
    | _ => False
  | e => wE T k e σ A (fun d A => retQ d fun d => Q (.rt d) A) (exS σ Q)
def itOk (d : D) (b : Ss) : Bool := match d with
  | .vw 0 _ => true
  | .vw _ _ => noMuts b
  | _ => true
def hanQ (r : R D) (Q : D → Prop) : Prop := match r with
  | .ok d _ => clean d = true ∧ Q d
  | _ => False
def tryQ (T : Prg) (k : Nat) (c : Str) (i : Nat) (h : HE) (Q : QF) : Fl → Ob → Prop
  | .ex σ c' fs, A => (T.exc.lookup c').isSome = true ∧ brQ (decide ((c', c) ∈ T.sub)) (hanQ (evH (ctxOf T k) c' fs h (σ.set i none) []) fun d => Q (.rt d) A) (Q (.ex σ c' fs) A)
  | .nx σ, A => Q (.nx σ) A
  | .rt d, A => Q (.rt d) A
  | .bk σ, A => Q (.bk σ) A
  | .ct σ, A => Q (.ct σ) A
def hselQ (T : Prg) (k : Nat) (c' : Str) (fs : List (Str × D)) (Q : QF) : List (Str × Nat × HE) → Sg → Ob → Prop
  | [], σ, A => Q (.ex σ c' fs) A
  | (c, i, h) :: r, σ, A => brQ (decide ((c', c) ∈ T.sub)) (hanQ (evH (ctxOf T k) c' fs h (σ.set i none) []) fun d => Q (.rt d) A) (hselQ T k c' fs Q r σ A)
def trymQ (T : Prg) (k : Nat) (cs : List (Str × Nat × HE)) (Q : QF) : Fl → Ob → Prop
  | .ex σ c' fs, A => (T.exc.lookup c').isSome = true ∧ hselQ T k c' fs Q cs σ A
  | .nx σ, A => Q (.nx σ) A
  | .rt d, A => Q (.rt d) A
  | .bk σ, A => Q (.bk σ) A
  | .ct σ, A => Q (.ct σ) A
mutual
def wS (T : Prg) (k : Nat) : Ev.S → Sg → Ob → QF → Prop
  | .raise_ x es, σ, A, Q => (ctxOf T k).rok x = true ∧ wEs T k es σ A (fun vs A => match T.exc.lookup x with
      | some (some ps) => argsX ps vs = true ∧ vs.length ≤ 1000 ∧ vs.any isVw = false ∧ Q (.ex σ x ((ps.map (·.1)).zip vs).reverse) A
      | _ => False) (exS σ Q)
  | .raise0 x, σ, A, Q => T.exc.lookup x = some none ∧ Q (.ex σ x []) A
  | .try_ b c i h, σ, A, Q => (ctxOf T k).tok c = true ∧ wSs T k b σ A (tryQ T k c i h Q)
  | .trym b cs, σ, A, Q => (cs.all fun p => (ctxOf T k).tok p.1) = true ∧ wSs T k b σ A (trymQ T k cs Q)
  | .asg tg e, σ, A, Q => match e with
    | .meth m a es => methQ T k m a es σ A (fun d σ A => asgQ tg d σ fun σ => Q (.nx σ) A) (exS σ Q)
    | e => wE T k e σ A (fun x A => asgQ tg x σ fun σ => Q (.nx σ) A) (exS σ Q)
  | .seti o i e, σ, A, Q => wE T k e σ A (fun x A => setQ T k o i x σ A (fun σ A => Q (.nx σ) A) (exS σ Q)) (exS σ Q)
  | .expr e, σ, A, Q => match e with
    | .meth m a es => methQ T k m a es σ A (fun _ σ A => Q (.nx σ) A) (exS σ Q)
    | e => wE T k e σ A (fun _ A => Q (.nx σ) A) (exS σ Q)
  | .ret e, σ, A, Q => retE T k e σ A Q
  | .retN, _, A, Q => Q (.rt .non) A
  | .ifs t a b, σ, A, Q => wE T k t σ A (fun x A => trQ A x fun t => brQ t (wSs T k a σ A Q) (wSs T k b σ A Q)) (exS σ Q)
  | .for_ tg (.seq e) b, σ, A, Q => wE T k e σ A (fun d A => itQ A d fun xs => itOk d b = true ∧ wFor d xs tg (wSs T k b) xs σ A Q) (exS σ Q)
  | .for_ tg (.rng1 e) b, σ, A, Q => wE T k e σ A (fun d A => intQ d fun j => rngOk j = true ∧ wFr tg (wSs T k b) (rngL 0 0 j.toNat) σ A Q) (exS σ Q)
  | .for_ tg (.rng2 x y) b, σ, A, Q => wE T k x σ A (fun x A => wE T k y σ A (fun y A => intQ x fun i => intQ y fun j => rngOk i = true ∧ rngOk j = true ∧ wFr tg (wSs T k b) (rngL i 0 (j - i).toNat) σ A Q) (exS σ Q)) (exS σ Q)
  | .whl t b, σ, A, Q => wWh (fun σ A Q => wE T k t σ A Q noX) (wSs T k b) T.w σ A Q
  | .pass, σ, A, Q => Q (.nx σ) A
  | .brk, σ, A, Q => Q (.bk σ) A
  | .ctn, σ, A, Q => Q (.ct σ) A
  | .never, _, _, _ => False
  | .setf o f e, σ, A, Q => wE T k e σ A (fun x A => wE T k o σ A (fun o A => setfQ T f A o x fun A => Q (.nx σ) A) (exS σ Q)) (exS σ Q)
termination_by structural e => e
def wSs (T : Prg) (k : Nat) : Ss → Sg → Ob → QF → Prop
  | .nil, σ, A, Q => Q (.nx σ) A
  | .cons s ss, σ, A, Q => wS T k s σ A (seqQ (wSs T k ss) Q)
termination_by structural e => e
end
def retF (Q : QD) (E : QX) : QF := fun fl A => match fl with
  | .nx _ => Q .non A
  | .rt d => Q d A
  | .ex _ c fs => E c fs A
  | _ => False
end Ev

namespace Ev
open PySem L2
/-! ### small facts -/
theorem cleans_append : ∀ {xs ys : List D}, cleans xs = true → cleans ys = true → cleans (xs ++ ys) = true
  | [], _, _, h => h
  | x :: xs, ys, h, h2 => by
    simp only [cleans, Bool.and_eq_true, List.cons_append] at h ⊢
    exact ⟨h.1, cleans_append h.2 h2⟩
theorem cleans_mem : ∀ {xs : List D}, cleans xs = true ↔ ∀ d, d ∈ xs → clean d = true
  | [] => by simp [cleans]
  | x :: xs => by
    simp only [cleans, Bool.and_eq_true, List.mem_cons, cleans_mem (xs := xs)]
    constructor
    · rintro ⟨h1, h2⟩ d (rfl | h)
      · exact h1
      · exact h2 d h
    · intro h
      exact ⟨h x (.inl rfl), fun d hd => h d (.inr hd)⟩
theorem cleans_of_sub {xs ys : List D} (h : cleans xs = true) (hs : ∀ d, d ∈ ys → d ∈ xs) : cleans ys = true := cleans_mem.mpr fun d hd => cleans_mem.mp h d (hs d hd)
theorem cleans_get {xs : List D} {i : Nat} {d : D} (h : cleans xs = true) (e : xs[i]? = some d) : clean d = true := cleans_mem.mp h d (List.mem_of_getElem? e)
theorem cleans_atI {xs : List D} {i : Int} {d : D} (h : cleans xs = true) (e : atI xs i = some d) : clean d = true := by
  unfold atI at e
  rw [Option.bind_eq_some_iff] at e
  obtain ⟨j, _, e⟩ := e
  exact cleans_get h e
theorem cleans_cut {xs : List D} {lo hi : Option Int} (h : cleans xs = true) : cleans (cutD xs lo hi) = true := cleans_of_sub h fun d hd => by
  unfold cutD at hd
  exact List.mem_of_mem_drop (List.mem_of_mem_take hd)
section
variable {A A' A1 A2 : Ob} {S S' S1 S2 : Sto} {b n : Nat} {x y d d' x' y' : D} {xs ys : List D}
theorem lookup_mem : ∀ {A : Ob} {n : Nat} {o : O}, A.lookup n = some o → n ∈ A.map (·.1)
  | [], _, _, h => by simp at h
  | (m, p) :: A, n, o, h => by
    simp only [List.lookup] at h
    split at h
    · rename_i e
      simp only [beq_iff_eq] at e
      simp [e]
    · simp only [List.map_cons, List.mem_cons]
      exact .inr (lookup_mem h)
theorem le_max {l : List Nat} (h : n ∈ l) : n ≤ l.foldr max 0 := by
  induction l with
  | nil => simp at h
  | cons a l ih =>
    simp only [List.foldr_cons]
    rcases List.mem_cons.mp h with rfl | h
    · exact Nat.le_max_left _ _
    · exact Nat.le_trans (ih h) (Nat.le_max_right _ _)
theorem fs_of {o : O} (h : A.lookup n = some o) : (fs A)[n]? = some o := by
  have hn : n < (A.map (·.1)).foldr max 0 + 1 := Nat.lt_succ_of_le (le_max (lookup_mem h))
  unfold fs
  rw [List.getElem?_map, List.getElem?_range hn]
  simp [h]
theorem fs_lst (h : (fs A)[n]? = some (.lst xs)) : A.lookup n = some (.lst xs) := by
  unfold fs at h
  rw [List.getElem?_map, Option.map_eq_some_iff] at h
  obtain ⟨m, h1, h2⟩ := h
  have : m = n := by
    have h3 := List.getElem?_eq_some_iff.mp h1
    obtain ⟨h4, h5⟩ := h3
    rw [List.getElem_range] at h5
    exact h5.symm
  subst this
  cases e : A.lookup m with
  | none => rw [e] at h2; cases h2
  | some o => rw [e] at h2; simpa using h2
theorem fs_get {o : O} (h : (fs A)[n]? = some o) (hl : o.live = true) : A.lookup n = some o := by
  unfold fs at h
  rw [List.getElem?_map, Option.map_eq_some_iff] at h
  obtain ⟨m, h1, h2⟩ := h
  have : m = n := by
    have h3 := List.getElem?_eq_some_iff.mp h1
    obtain ⟨h4, h5⟩ := h3
    rw [List.getElem_range] at h5
    exact h5.symm
  subst this
  cases e : A.lookup m with
  | none => rw [e] at h2; simp only [Option.getD_none] at h2; subst h2; cases hl
  | some o => rw [e] at h2; simpa using h2
theorem Kn.lst (kn : Kn A S) (h : (fs A)[n]? = some (.lst xs)) : S[n]? = some (.lst xs) ∧ cleans xs = true := kn.get n _ (fs_lst h)
theorem St2.refl : St2 A S A S := ⟨Nat.le_refl _, fun _ _ _ _ => rfl, fun _ h => .inl h⟩
theorem St2.trans (a : St2 A S A1 S1) (c : St2 A1 S1 A2 S2) : St2 A S A2 S2 := by
  refine ⟨Nat.le_trans a.le c.le, fun n h1 h2 h3 => ?_, fun n h => ?_⟩
  · have h4 : n ∉ A1.map (·.1) := fun h => (a.grow n h).elim h3 fun z => by omega
    rw [c.keep n (Nat.lt_of_lt_of_le h1 a.le) h2 h4, a.keep n h1 h2 h3]
  · rcases c.grow n h with h | h
    · exact a.grow n h
    · exact .inr (Nat.le_trans a.le h)
theorem okc.st (h : okc A S n) (st : St2 A S A' S') : okc A' S' n := ⟨h.1, Nat.lt_of_lt_of_le h.2.1 st.le, fun z => (st.grow n z).elim h.2.2 fun w => by have := h.2.1; omega⟩
theorem Vw.st (h : Vw b A S d d') (st : St2 A S A' S') : Vw b A' S' d d' := by
  cases h with
  | same h => exact .same h
  | view hc h ok lt => exact .view hc (by rw [st.keep _ ok.2.1 ok.1 ok.2.2]; exact h) (ok.st st) lt
theorem Vws.st : ∀ {ds ds' : List D}, Vws b A S ds ds' → St2 A S A' S' → Vws b A' S' ds ds'
  | _, _, .nil, _ => .nil
  | _, _, .cons h t, st => .cons (h.st st) (Vws.st t st)
theorem Vw.atom (h : Vw b A S d d') (hv : isVw d = false) : d' = d ∧ clean d = true := by
  cases h with
  | same h => exact ⟨rfl, h⟩
  | view => cases hv
theorem Vws.atoms : ∀ {ds ds' : List D}, Vws b A S ds ds' → ds.any isVw = false → ds' = ds ∧ cleans ds = true
  | _, _, .nil, _ => ⟨rfl, rfl⟩
  | d :: ds, _, .cons h t, hv => by
    simp only [List.any_cons, Bool.or_eq_false_iff] at hv
    obtain ⟨rfl, h1⟩ := h.atom hv.1
    obtain ⟨rfl, h2⟩ := Vws.atoms t hv.2
    exact ⟨rfl, by simp [cleans, h1, h2]⟩
theorem Vws.length : ∀ {ds ds' : List D}, Vws b A S ds ds' → ds'.length = ds.length
  | _, _, .nil => rfl
  | _, _, .cons _ t => by simp [Vws.length t]
theorem clean_chars (l : List Nat) : cleans (l.map fun c => D.str ⟨#[c]⟩) = true := by
  induction l with
  | nil => rfl
  | cons a l ih => simp [cleans, clean, ih]
/-! ### what is read of data -/
theorem Vw.items (kn : Kn A S) (v : Vw b A S d d') (e : items (fs A) d = some xs) : Ev.items S d' = some xs ∧ cleans xs = true := by
  cases v with
  | same h =>
    cases d <;> simp only [Ev.items, reduceCtorEq, Option.some.injEq] at e <;> try (subst e)
    case str z => exact ⟨rfl, clean_chars _⟩
    case tup ys => exact ⟨rfl, by simpa [clean] using h⟩
    case lv ys => exact ⟨rfl, by simpa [clean] using h⟩
    case fl ys => simp [clean] at h
    case vw ys => simp [clean] at h
    case ref m =>
      split at e
      · rename_i ys hy
        cases e
        obtain ⟨h1, h2⟩ := kn.lst hy
        exact ⟨by simp [Ev.items, h1], h2⟩
      · cases e
  | view hc h ok lt =>
    simp only [Ev.items, Option.some.injEq] at e
    subst e
    exact ⟨by simp [Ev.items, h], hc⟩
theorem Vw.listOf (kn : Kn A S) (v : Vw b A S d d') (e : listOf (fs A) d = some xs) : Ev.listOf S d' = some xs ∧ cleans xs = true := by
  cases v with
  | same h =>
    cases d <;> simp only [Ev.listOf, reduceCtorEq, Option.some.injEq] at e <;> try (subst e)
    case lv ys => exact ⟨rfl, by simpa [clean] using h⟩
    case vw ys => simp [clean] at h
    case ref m =>
      split at e
      · rename_i ys hy
        cases e
        obtain ⟨h1, h2⟩ := kn.lst hy
        exact ⟨by simp [Ev.listOf, h1], h2⟩
      · cases e
  | view hc h ok lt =>
    simp only [Ev.listOf, Option.some.injEq] at e
    subst e
    exact ⟨by simp [Ev.listOf, h], hc⟩
theorem Vw.truth {c : Bool} (kn : Kn A S) (v : Vw b A S d d') (e : truth (fs A) d = some c) : Ev.truth S d' = some c := by
  cases v with
  | same h =>
    cases d <;> simp only [Ev.truth] at e ⊢ <;> try exact e
    case ref m =>
      split at e
      · rename_i ys hy
        rw [(kn.lst hy).1]
        exact e
      · cases e
  | view hc h ok lt =>
    simp only [Ev.truth] at e ⊢
    rw [h]
    exact e
theorem Vw.tyName {c : String} (kn : Kn A S) (v : Vw b A S d d') (e : tyName (fs A) d = some c) : Ev.tyName S d' = some c := by
  cases v with
  | same h =>
    cases d <;> simp only [Ev.tyName] at e ⊢ <;> try exact e
    case ref m =>
      split at e
      · rename_i ys hy
        rw [(kn.lst hy).1]
        exact e
      · cases e
  | view hc h ok lt =>
    simp only [Ev.tyName] at e ⊢
    rw [h]
    exact e
theorem Vw.topPy {c : PyData} (kn : Kn A S) (v : Vw b A S d d') (e : topPy (fs A) d = some c) : Ev.topPy S d' = some c := by
  cases v with
  | same h =>
    cases d <;> simp only [Ev.topPy] at e ⊢ <;> try exact e
    case ref m =>
      split at e
      · rename_i ys hy
        rw [(kn.lst hy).1]
        exact e
      · cases e
  | view hc h ok lt =>
    simp only [Ev.topPy] at e ⊢
    rw [h]
    exact e
theorem Vw.selfOf {c : Str} {ks : List Str} {ds : List D} (kn : Kn A S) (v : Vw b A S d d') (e : selfOf (fs A) d = some (c, ks, ds)) : d' = d ∧ Ev.selfOf S d = some (c, ks, ds) ∧ cleans ds = true ∧ isVw d = false ∧ clean d = true := by
  cases v with
  | same h =>
    cases d <;> simp only [Ev.selfOf, reduceCtorEq] at e
    case ob => cases e; exact ⟨rfl, rfl, h, rfl, h⟩
    case ref m =>
      split at e
      · rename_i hx
        cases e
        have h1 := kn.get _ _ (fs_get hx rfl)
        exact ⟨rfl, by simp only [Ev.selfOf, h1.1], h1.2, rfl, h⟩
      · cases e
  | view hc h ok lt => simp [Ev.selfOf] at e
theorem Vw.isSeq (v : Vw b A S d d') : Ev.isSeq d' = Ev.isSeq d := by cases v <;> rfl
theorem Vw.flat (v : Vw b A S d d') : Ev.flatD d' = Ev.flatD d := by cases v <;> rfl
theorem Vw.toV (v : Vw b A S d d') : Ev.toV d' = Ev.toV d := by cases v <;> rfl
theorem Vw.lengthOf {m : Nat} (kn : Kn A S) (v : Vw b A S d d') (e : lengthOf (fs A) d = some m) : Ev.lengthOf S d' = some m := by
  unfold Ev.lengthOf at e
  split at e
  · cases v; exact e
  · rename_i hn
    rw [Option.map_eq_some_iff] at e
    obtain ⟨xs, e1, e2⟩ := e
    have h := (v.items kn e1).1
    unfold Ev.lengthOf
    split
    · rename_i z
      cases v
      exact (hn z rfl).elim
    · rw [h]; simp [e2]
/-! ### operations -/
theorem add_lists {xs ys : List D} (h1 : listOf S x = some xs) (h2 : listOf S y = some ys) (hl : xs.length + ys.length ≤ lim) : binD .add x y S = .ok (.lv (xs ++ ys)) S := by
  cases x <;> simp only [listOf, reduceCtorEq] at h1 <;> cases y <;> simp only [listOf, reduceCtorEq] at h2 <;> simp_all [binD, listOf]
theorem bin_ok {op : BOp} {S0 : Sto} (kn : Kn A S) (hx : Vw b A S x x') (hy : Vw b A S y y') (e : binD op x y (fs A) = .ok d S0) : binD op x' y' S = .ok d S ∧ clean d = true := by
  unfold binD at e
  split at e
  · cases hx; cases hy; cases e; exact ⟨rfl, rfl⟩
  · split at e
    · rename_i hl
      cases hx; cases hy; cases e
      exact ⟨by simp [binD, hl], rfl⟩
    · cases e
  · split at e
    · rename_i hl
      cases hx; cases hy; cases e
      refine ⟨by simp [binD, hl], ?_⟩
      rename_i h1 h2
      simp only [clean] at h1 h2 ⊢
      exact cleans_append h1 h2
    · cases e
  · split at e
    · rename_i h1 h2
      obtain ⟨g1, c1⟩ := hx.listOf kn h1
      obtain ⟨g2, c2⟩ := hy.listOf kn h2
      split at e
      · rename_i hl
        cases e
        exact ⟨add_lists g1 g2 hl, by simp only [clean]; exact cleans_append c1 c2⟩
      · cases e
    · cases e
  · cases hx; cases hy; cases e; exact ⟨rfl, rfl⟩
  all_goals try (split at e; (rename_i hl; cases hx; cases hy; cases e; exact ⟨by simp [binD, hl], rfl⟩); cases e)
  · cases e
theorem eqS_some {k : Bool} (h : eqS x y = some k) : isVw x = false ∧ isVw y = false := by
  unfold eqS at h
  split at h <;> first | exact ⟨rfl, rfl⟩ | cases h
theorem eqD_ok {c : Bool} (kn : Kn A S) (hx : Vw b A S x x') (hy : Vw b A S y y') (e : eqD (fs A) x y = some c) : eqD S x' y' = some c := by
  unfold eqD at e
  cases h : eqS x y with
  | some k =>
    obtain ⟨h1, h2⟩ := eqS_some h
    obtain ⟨rfl, _⟩ := hx.atom h1
    obtain ⟨rfl, _⟩ := hy.atom h2
    rw [h] at e
    unfold eqD
    rw [h]
    exact e
  | none =>
    rw [h] at e
    have h' : eqS x' y' = none := by
      cases hx with
      | same => cases hy with
        | same => exact h
        | view => unfold eqS; split <;> simp_all
      | view => unfold eqS; split <;> simp_all
    unfold eqD
    rw [h']
    simp only at e ⊢
    split at e
    · rename_i p q h1 h2
      rw [hx.topPy kn h1, hy.topPy kn h2]
      exact e
    · cases e
theorem inD_ok {c : Bool} (kn : Kn A S) (hx : Vw b A S x x') (hy : Vw b A S y y') (e : inD (fs A) x y = some c) : inD S x' y' = some c := by
  unfold inD at e
  split at e
  · cases hx; cases hy; exact e
  · rename_i hn
    split at e
    · rename_i ys hys
      have hi := (hy.items kn hys).1
      unfold inD
      split
      · cases hx; cases hy
        exact (hn _ _ rfl rfl).elim
      · rw [hi]
        simp only
        rw [hy.isSeq, hx.flat, hx.toV]
        split at e
        · rename_i hc
          rw [if_pos hc]
          exact e
        · rename_i hc
          rw [if_neg hc]
          split at e
          · rename_i h1 h2
            rw [hx.topPy kn h1, hy.topPy kn h2]
            exact e
          · rename_i h1 h2
            rw [hx.topPy kn h1, hy.topPy kn h2]
            exact e
          · cases e
    · cases e
theorem isD_ok {c : Bool} (hx : Vw b A S x x') (hy : Vw b A S y y') (e : isD x y = some c) : isD x' y' = some c := by
  cases hx with
  | same => cases hy with
    | same => exact e
    | view => unfold isD at e; split at e <;> simp_all
  | view => cases hy with
    | same h => cases y <;> simp_all [isD]
    | view => simp [isD] at e
theorem cmpO_ok {op : COp} {c : Bool} (kn : Kn A S) (hx : Vw b A S x x') (hy : Vw b A S y y') (e : cmpO op x y (fs A) = some c) : cmpO op x' y' S = some c := by
  cases op <;> simp only [cmpO, Option.map_eq_some_iff] at e ⊢
  · unfold ltD at e
    split at e <;> first | (cases hx; cases hy; exact e) | cases e
  · unfold leD at e
    split at e <;> first | (cases hx; cases hy; exact e) | cases e
  · unfold gtD at e
    split at e <;> first | (cases hx; cases hy; exact e) | cases e
  · unfold geD at e
    split at e <;> first | (cases hx; cases hy; exact e) | cases e
  · exact eqD_ok kn hx hy e
  · obtain ⟨c, e, rfl⟩ := e
    exact ⟨c, eqD_ok kn hx hy e, rfl⟩
  · exact inD_ok kn hx hy e
  · obtain ⟨c, e, rfl⟩ := e
    exact ⟨c, inD_ok kn hx hy e, rfl⟩
  · exact isD_ok hx hy e
  · obtain ⟨c, e, rfl⟩ := e
    exact ⟨c, isD_ok hx hy e, rfl⟩
theorem cmp_ok {op : COp} {S0 : Sto} (kn : Kn A S) (hx : Vw b A S x x') (hy : Vw b A S y y') (e : cmpD op x y (fs A) = .ok d S0) : cmpD op x' y' S = .ok d S ∧ clean d = true := by
  unfold cmpD at e ⊢
  cases h : cmpO op x y (fs A) with
  | none => rw [h] at e; cases e
  | some c =>
    rw [h] at e
    rw [cmpO_ok kn hx hy h]
    cases e
    exact ⟨rfl, rfl⟩
theorem ix_ok {S0 : Sto} (kn : Kn A S) (hx : Vw b A S x x') (hy : Vw b A S y y') (e : ixD x y (fs A) = .ok d S0) : ixD x' y' S = .ok d S ∧ clean d = true := by
  unfold ixD at e
  split at e
  · cases hx; cases hy
    split at e
    · rename_i z i _ _ hl
      cases h : atI z.cps.toList i with
      | none => rw [h] at e; cases e
      | some c =>
        rw [h] at e
        cases e
        exact ⟨by simp [ixD, hl, h], rfl⟩
    · cases e
  · rename_i i hn
    cases hy
    split at e
    · rename_i xs hxs
      obtain ⟨h1, h2⟩ := hx.items kn hxs
      cases h : atI xs i with
      | none => rw [h] at e; cases e
      | some c =>
        rw [h] at e
        cases e
        refine ⟨?_, cleans_atI h2 h⟩
        cases hx with
        | same hc =>
          cases x <;> first | (simp [Ev.items] at h1; done) | (exact (hn _ rfl).elim) | (simp [ixD, h1, h])
        | view hc h0 ok lt => simp [ixD, h1, h]
    · cases e
  · cases e
theorem sl_ok {lo hi : Option Int} {S0 : Sto} (kn : Kn A S) (hx : Vw b A S x x') (e : slD x lo hi (fs A) = .ok d S0) : slD x' lo hi S = .ok d S ∧ clean d = true := by
  unfold slD at e
  split at e
  · cases hx
    split at e
    · rename_i hl
      cases e
      exact ⟨by simp [slD, hl], rfl⟩
    · cases e
  · cases hx
    cases e
    rename_i h
    simp only [clean] at h
    exact ⟨rfl, by simp only [clean]; exact cleans_cut h⟩
  · rename_i n1 n2
    split at e
    · rename_i xs h
      obtain ⟨h1, h2⟩ := hx.listOf kn h
      cases e
      refine ⟨?_, by simp only [clean]; exact cleans_cut h2⟩
      unfold slD
      split
      · cases hx; exact (n1 _ rfl).elim
      · cases hx; exact (n2 _ rfl).elim
      · rw [h1]
    · cases e
theorem rev_ok {S0 : Sto} (kn : Kn A S) (hx : Vw b A S x x') (e : revD x (fs A) = .ok d S0) : revD x' S = .ok d S ∧ clean d = true := by
  unfold revD at e ⊢
  split at e
  · rename_i xs h
    obtain ⟨h1, h2⟩ := hx.listOf kn h
    cases e
    rw [h1]
    exact ⟨rfl, by simp only [clean]; exact cleans_of_sub h2 fun d hd => List.mem_reverse.mp hd⟩
  · cases e
theorem cleans_ints (l : List Int) : cleans (l.map D.int) = true := by
  induction l with
  | nil => rfl
  | cons a l ih => simp [cleans, clean, ih]
theorem blt_ok {f : Blt} {vs vs' : List D} {S0 : Sto} (kn : Kn A S) (hv : Vws b A S vs vs') (e : bltD f vs (fs A) = .ok d S0) : bltD f vs' S = .ok d S ∧ clean d = true := by
  cases f <;> simp only [bltD] at e ⊢
  · -- len
    unfold lenD at e
    split at e
    · cases hv with
      | cons hx t =>
        cases t
        split at e
        · rename_i n h
          cases e
          exact ⟨by simp [lenD, hx.lengthOf kn h], rfl⟩
        · cases e
    · cases e
  · unfold absD at e
    split at e
    · cases hv with
      | cons hx t => cases t; cases hx; cases e; exact ⟨rfl, rfl⟩
    · cases e
  · unfold intD at e
    split at e
    · cases hv with
      | cons hx t => cases t; cases hx; cases e; exact ⟨rfl, rfl⟩
    · cases hv with
      | cons hx t => cases t; cases hx; cases e; exact ⟨rfl, rfl⟩
    · cases e
  · unfold lstD at e
    split at e
    · cases hv with
      | cons hx t =>
        cases t
        split at e
        · rename_i hs
          split at e
          · rename_i xs h
            obtain ⟨h1, h2⟩ := hx.items kn h
            cases e
            exact ⟨by simp [lstD, hx.isSeq, hs, h1], by simpa [clean] using h2⟩
          · cases e
        · cases e
    · cases e
  · unfold tupD at e
    split at e
    · cases hv with
      | cons hx t =>
        cases t
        cases hx
        cases e
        rename_i h
        exact ⟨rfl, h⟩
    · rename_i n1
      cases hv with
      | cons hx t =>
        cases t
        split at e
        · rename_i hs
          split at e
          · rename_i xs h
            obtain ⟨h1, h2⟩ := hx.items kn h
            cases e
            refine ⟨?_, by simpa [clean] using h2⟩
            unfold tupD
            split
            · rename_i q
              simp only [List.cons.injEq, and_true] at q
              subst q
              cases hx
              exact (n1 _ rfl).elim
            · rename_i q
              simp only [List.cons.injEq, and_true] at q
              subst q
              simp [hx.isSeq, hs, h1]
            · rename_i q1 q2
              exact (q2 _ rfl).elim
          · cases e
        · cases e
    · cases e
  · unfold strD at e
    split at e
    · cases hv with
      | cons hx t =>
        cases t; cases hx
        split at e
        · rename_i hl
          cases e
          exact ⟨by simp [strD, hl], rfl⟩
        · cases e
    · cases e
  · unfold maxD at e
    split at e
    · cases hv with
      | cons hx t => cases t with
        | cons hy t => cases t; cases hx; cases hy; cases e; exact ⟨rfl, rfl⟩
    · cases e
  · unfold minD at e
    split at e
    · cases hv with
      | cons hx t => cases t with
        | cons hy t => cases t; cases hx; cases hy; cases e; exact ⟨rfl, rfl⟩
    · cases e
  · unfold sumD at e
    split at e
    · cases hv with
      | cons hx t =>
        cases t
        split at e
        · rename_i ns h
          rw [Option.bind_eq_some_iff] at h
          obtain ⟨xs, h1, h2⟩ := h
          cases e
          exact ⟨by simp [sumD, (hx.listOf kn h1).1, h2], rfl⟩
        · cases e
    · cases e
  · unfold anyD at e
    split at e
    · cases hv with
      | cons hx t =>
        cases t
        split at e
        · rename_i ns h
          rw [Option.bind_eq_some_iff] at h
          obtain ⟨xs, h1, h2⟩ := h
          cases e
          exact ⟨by simp [anyD, (hx.listOf kn h1).1, h2], rfl⟩
        · cases e
    · cases e
  · unfold allD at e
    split at e
    · cases hv with
      | cons hx t =>
        cases t
        split at e
        · rename_i ns h
          rw [Option.bind_eq_some_iff] at h
          obtain ⟨xs, h1, h2⟩ := h
          cases e
          exact ⟨by simp [allD, (hx.listOf kn h1).1, h2], rfl⟩
        · cases e
    · cases e
  · unfold isiD at e
    split at e
    · cases hv with
      | cons hx t => cases t with
        | cons hy t =>
          cases t; cases hy
          split at e
          · rename_i tt h
            split at e
            · rename_i bb h2
              cases e
              exact ⟨by simp [isiD, hx.tyName kn h, h2], rfl⟩
            · cases e
          · cases e
    · cases e
  · unfold sortedD at e
    split at e
    · cases hv with
      | cons hx t =>
        cases t
        split at e
        · rename_i ns h
          rw [Option.bind_eq_some_iff] at h
          obtain ⟨xs, h1, h2⟩ := h
          cases e
          exact ⟨by simp [sortedD, (hx.listOf kn h1).1, h2], by simp only [clean]; exact cleans_ints _⟩
        · cases e
    · cases e
end
end Ev

namespace Ev
open PySem L2
theorem mem_lookup : ∀ {A : Ob} {n : Nat}, n ∈ A.map (·.1) → ∃ o, A.lookup n = some o
  | [], _, h => by simp at h
  | (m, o) :: A, n, h => by
    simp only [List.lookup]
    split
    · exact ⟨_, rfl⟩
    · rename_i hq
      refine mem_lookup (A := A) ?_
      simp only [List.map_cons, List.mem_cons] at h
      rcases h with rfl | h
      · simp at hq
      · exact h
/-! ### frames -/
structure Fr2 (b : Nat) (A : Ob) (S : Sto) (σh σ : Sg) : Prop where
  len : σh.length = σ.length
  hb : b ≤ S.length
  get : ∀ (i : Nat) (d : D), σh[i]? = some (some d) → ∃ d', σ[i]? = some (some d') ∧ Vw b A S d d' ∧ (∀ t xs, d = .vw t xs → t = 0 ∨ t = 1 ∧ ∃ n, d' = .ref n ∧ b ≤ n)
  dis : ∀ (i j n : Nat) (xs ys : List D), i ≠ j → σh[i]? = some (some (.vw 1 xs)) → σh[j]? = some (some (.vw 1 ys)) → σ[i]? = some (some (.ref n)) → σ[j]? ≠ some (some (.ref n))
section
variable {A A' A1 A2 : Ob} {S S' S1 S2 : Sto} {b l : Nat} {σh σ : Sg}
theorem Fr2.st (f : Fr2 b A S σh σ) (st : St2 A S A' S') : Fr2 b A' S' σh σ :=
  ⟨f.len, Nat.le_trans f.hb st.le, fun i d e => let ⟨d', h1, h2, h3⟩ := f.get i d e; ⟨d', h1, h2.st st, h3⟩, f.dis⟩
/-- a slot gets a datum that is no view of an own list -/
theorem Fr2.set (f : Fr2 b A S σh σ) {i : Nat} {d d' : D} (v : Vw b A S d d') (h : ∀ t xs, d = .vw t xs → t = 0) : Fr2 b A S (σh.set i (some d)) (σ.set i (some d')) := by
  refine ⟨by simp [f.len], f.hb, fun j e he => ?_, fun j k n xs ys hjk h1 h2 h3 => ?_⟩
  · by_cases hj : i = j
    · subst hj
      have hi : i < σh.length := by
        have := (List.getElem?_eq_some_iff.mp he).1
        simpa using this
      rw [List.getElem?_set_self hi] at he
      cases he
      exact ⟨d', by rw [List.getElem?_set_self (by rw [← f.len]; exact hi)], v, fun t xs e => .inl (h t xs e)⟩
    · rw [List.getElem?_set_ne hj] at he ⊢
      exact f.get j e he
  · have a1 : i ≠ j := fun q => by
      subst q
      have hi : i < σh.length := by
        have := (List.getElem?_eq_some_iff.mp h1).1
        simpa using this
      rw [List.getElem?_set_self hi] at h1
      cases h1
      exact absurd (h 1 xs rfl) (by decide)
    have a2 : i ≠ k := fun q => by
      subst q
      have hi : i < σh.length := by
        have := (List.getElem?_eq_some_iff.mp h2).1
        simpa using this
      rw [List.getElem?_set_self hi] at h2
      cases h2
      exact absurd (h 1 ys rfl) (by decide)
    rw [List.getElem?_set_ne a1] at h1 h3
    rw [List.getElem?_set_ne a2] at h2 ⊢
    exact f.dis j k n xs ys hjk h1 h2 h3
theorem Fr2.wipe1 (f : Fr2 b A S σh σ) (i : Nat) : Fr2 b A S (σh.set i none) (σ.set i none) := by
  refine ⟨by simp [f.len], f.hb, fun j e he => ?_, fun j k n xs ys hjk h1 h2 h3 => ?_⟩
  · by_cases hj : i = j
    · subst hj
      rw [List.getElem?_set] at he
      split at he
      · split at he <;> cases he
      · exact absurd rfl (by assumption)
    · rw [List.getElem?_set_ne hj] at he ⊢
      exact f.get j e he
  · have a1 : i ≠ j := fun q => by
      subst q
      rw [List.getElem?_set] at h1
      split at h1
      · split at h1 <;> cases h1
      · exact absurd rfl (by assumption)
    have a2 : i ≠ k := fun q => by
      subst q
      rw [List.getElem?_set] at h2
      split at h2
      · split at h2 <;> cases h2
      · exact absurd rfl (by assumption)
    rw [List.getElem?_set_ne a1] at h1 h3
    rw [List.getElem?_set_ne a2] at h2 ⊢
    exact f.dis j k n xs ys hjk h1 h2 h3
theorem Fr2.wipe (f : Fr2 b A S σh σ) : ∀ is : List Nat, Fr2 b A S (wipeD σh is) (wipeD σ is)
  | [] => f
  | i :: is => (Fr2.wipe f is).wipe1 i
theorem Fr2.setAll : ∀ {is : List Nat} {ds : List D} {σh σ σ1 : Sg}, Fr2 b A S σh σ → cleans ds = true → setAll is ds σh = some σ1 → ∃ σ2, Ev.setAll is ds σ = some σ2 ∧ Fr2 b A S σ1 σ2
  | [], [], _, σ, _, f, _, e => by simp only [Ev.setAll, Option.some.injEq] at e; subst e; exact ⟨_, rfl, f⟩
  | i :: is, d :: ds, _, σ, _, f, hc, e => by
    simp only [cleans, Bool.and_eq_true] at hc
    simp only [Ev.setAll] at e ⊢
    exact Fr2.setAll (f.set (.same hc.1) fun t xs h => by subst h; simp [clean] at hc) hc.2 e
  | [], _ :: _, _, _, _, _, _, e => by simp [Ev.setAll] at e
  | _ :: _, [], _, _, _, _, _, e => by simp [Ev.setAll] at e
theorem Fr2.setTg {tg : Tg} {d : D} {σ1 : Sg} (f : Fr2 b A S σh σ) (hc : clean d = true) (e : setTg tg d σh = some σ1) : ∃ σ2, Ev.setTg tg d σ = some σ2 ∧ Fr2 b A S σ1 σ2 := by
  cases tg with
  | nm i =>
    simp only [Ev.setTg, Option.some.injEq] at e ⊢
    subst e
    exact ⟨_, rfl, f.set (.same hc) fun t xs h => by subst h; simp [clean] at hc⟩
  | tp is =>
    cases d <;> simp only [Ev.setTg, reduceCtorEq] at e ⊢
    simp only [clean] at hc
    exact Fr2.setAll f hc e
end
/-! ### results -/
section
variable {α β γ δ : Type} {A A' A1 A2 : Ob} {S S' S1 S2 : Sto} {b l : Nat} {σh σ : Sg} {rel : Ob → Sto → α → β → Prop} {rel' : Ob → Sto → γ → δ → Prop} {E E1 : QX}
theorem W2.step {Q : α → Ob → Prop} {r : R β} (h : W2 rel A1 S1 Q E r) (st : St2 A S A1 S1) : W2 rel A S Q E r := by
  cases r with
  | ok a S2 =>
    obtain ⟨a, A', k, s, r, q⟩ := h
    exact ⟨a, A', k, st.trans s, r, q⟩
  | ex c fs S2 =>
    obtain ⟨A', k, s, x, q⟩ := h
    exact ⟨A', k, st.trans s, x, q⟩
  | stuck => exact h
theorem W2.bind {Q1 : α → Ob → Prop} {Q : γ → Ob → Prop} {x : R β} {f : β → Sto → R δ} (h : W2 rel A S Q1 E x)
    (k : ∀ a A1 c S1, Kn A1 S1 → St2 A S A1 S1 → rel A1 S1 a c → Q1 a A1 → W2 rel' A1 S1 Q E (f c S1)) : W2 rel' A S Q E (x.bind f) := by
  cases x with
  | ok c S1 =>
    obtain ⟨a, A1, kn, st, r, q⟩ := h
    exact W2.step (k a A1 c S1 kn st r q) st
  | ex c fs S1 => exact h
  | stuck => exact h
theorem W2.nox {Q : α → Ob → Prop} {r : R β} (h : W2 rel A S Q noX r) : W2 rel A S Q E r.nox := by
  cases r with
  | ok a S1 => exact h
  | ex c fs S1 =>
    obtain ⟨_, _, _, _, q⟩ := h
    exact q.elim
  | stuck => exact h
theorem W2.ok {Q : α → Ob → Prop} {a : α} {c : β} (kn : Kn A S) (r : rel A S a c) (q : Q a A) : W2 rel A S Q E (.ok c S) := ⟨a, A, kn, St2.refl, r, q⟩
theorem W2.imp {Q Q' : α → Ob → Prop} {r : R β} (h : W2 rel A S Q E r) (k : ∀ a A, Q a A → Q' a A) : W2 rel A S Q' E r := by
  cases r with
  | ok a S2 =>
    obtain ⟨a, A', kn, s, r, q⟩ := h
    exact ⟨a, A', kn, s, r, k _ _ q⟩
  | ex c fs S2 => exact h
  | stuck => exact h
end
/-- a datum, and where it is a new list -/
def VwF (b l : Nat) (A : Ob) (S : Sto) (d d' : D) : Prop := Vw b A S d d' ∧ ∀ xs, d = .vw 2 xs → ∃ n, d' = .ref n ∧ l ≤ n
def eqR {α : Type} : Ob → Sto → α → α → Prop := fun _ _ a c => a = c
section
variable {T : Prg} {k : Nat} {A A1 : Ob} {S S1 : Sto} {b l : Nat} {σh σ : Sg} {E : QX}
theorem VwF.same {d : D} (h : clean d = true) : VwF b l A S d d := ⟨.same h, fun xs e => by subst e; simp [clean] at h⟩
theorem okW_of {r : R D} {P : D → Prop} (h : okW r P) : ∃ d S0, r = .ok d S0 ∧ P d := by
  cases r with
  | ok d S0 => exact ⟨d, S0, rfl, h⟩
  | ex => exact h.elim
  | stuck => exact h.elim
theorem varQ_of {o : Option (Option D)} {P : D → Prop} (h : varQ o P) : ∃ d, o = some (some d) ∧ P d := by
  unfold varQ at h
  split at h
  · exact ⟨_, rfl, h⟩
  · exact h.elim
theorem intQ_of {d : D} {P : Int → Prop} (h : intQ d P) : ∃ i, d = .int i ∧ P i := by
  unfold intQ at h
  split at h
  · exact ⟨_, rfl, h⟩
  · exact h.elim
theorem blQ_of {d : D} {P : Bool → Prop} (h : blQ d P) : ∃ i, d = .bl i ∧ P i := by
  unfold blQ at h
  split at h
  · exact ⟨_, rfl, h⟩
  · exact h.elim
theorem trQ_of {d : D} {P : Bool → Prop} (h : trQ A d P) : ∃ c, truth (fs A) d = some c ∧ P c := by
  unfold trQ at h
  split at h
  · exact ⟨_, by assumption, h⟩
  · exact h.elim
theorem itQ_of {d : D} {P : List D → Prop} (h : itQ A d P) : ∃ c, items (fs A) d = some c ∧ P c := by
  unfold itQ at h
  split at h
  · exact ⟨_, by assumption, h⟩
  · exact h.elim
theorem lsQ_of {d : D} {P : List D → Prop} (h : lsQ A d P) : ∃ c, listOf (fs A) d = some c ∧ P c := by
  unfold lsQ at h
  split at h
  · exact ⟨_, by assumption, h⟩
  · exact h.elim
theorem stQ_of {tg : Tg} {x : D} {σ : Sg} {P : Sg → Prop} (h : stQ tg x σ P) : ∃ σ1, setTg tg x σ = some σ1 ∧ P σ1 := by
  unfold stQ at h
  split at h
  · exact ⟨_, by assumption, h⟩
  · exact h.elim
/-- a run whose datum comes by an operation that changes nothing -/
theorem W2.op {Q : QD} {r : R D} {d : D} (kn : Kn A S) (e : r = .ok d S) (hc : clean d = true) (q : Q d A) : W2 (VwF b l) A S Q E r := by
  subst e
  exact W2.ok kn (VwF.same hc) q
theorem trR {Q : Bool → Ob → Prop} {d d' : D} (kn : Kn A S) (v : Vw b A S d d') (h : trQ A d fun c => Q c A) : W2 eqR A S Q E (tr d' S) := by
  obtain ⟨c, e, q⟩ := trQ_of h
  unfold tr
  rw [v.truth kn e]
  exact W2.ok kn rfl q
/-- a new list -/
theorem newR {Q : QD} {xs : List D} (kn : Kn A S) (hb : b ≤ S.length) (hl : l ≤ S.length) (hc : cleans xs = true) (q : Q (.vw 2 xs) A) : W2 (VwF b l) A S Q E (.ok (.ref S.length) (S ++ [.lst xs])) := by
  have h0 : 0 < S.length := by
    obtain ⟨o, ho, _⟩ := kn.box.ex
    exact (List.getElem?_eq_some_iff.mp ho).1
  have hk : ∀ n, n ∈ A.map (·.1) → n < S.length := fun n hn => by
    obtain ⟨o, ho⟩ := mem_lookup hn
    exact (List.getElem?_eq_some_iff.mp (kn.get n o ho).1).1
  have st : St2 A S A (S ++ [.lst xs]) := ⟨by simp, fun n h _ _ => List.getElem?_append_left h, fun n h => .inl h⟩
  refine ⟨_, A, ⟨?_, kn.nd, kn.n0, fun n o h => ?_⟩, st, ⟨.view hc (by simp) ⟨by omega, by simp, fun h => ?_⟩ (fun h => by cases h), fun _ _ => ⟨_, rfl, hl⟩⟩, q⟩
  · obtain ⟨o, ho, hx⟩ := kn.box.ex
    exact ⟨o, by rw [List.getElem?_append_left h0]; exact ho, hx⟩
  · obtain ⟨h1, h2⟩ := kn.get n o h
    exact ⟨by rw [List.getElem?_append_left (List.getElem?_eq_some_iff.mp h1).1]; exact h1, h2⟩
  · have := hk _ h
    omega
theorem Vw.arg {d d' : D} (v : Vw b A S d d') : Va A S (stab d) d' := by
  cases v with
  | same h => cases d <;> first | exact .same h | (simp [clean] at h)
  | view hc h ok lt => exact .view hc h ok
theorem Vws.args : ∀ {ds ds' : List D}, Vws b A S ds ds' → Vas A S (ds.map stab) ds'
  | _, _, .nil => .nil
  | _, _, .cons h t => .cons h.arg (Vws.args t)
theorem Rt.vw {d d' : D} (h : Rt S1.length A S d d') (hl : l ≤ S1.length) (hb : b ≤ S1.length) : VwF b l A S d d' := by
  cases h with
  | same h => exact VwF.same h
  | new hc h ok le => exact ⟨.view hc h ok (fun z => by cases z), fun _ _ => ⟨_, rfl, Nat.le_trans hl le⟩⟩
theorem W2.rel {α β : Type} {rel rel' : Ob → Sto → α → β → Prop} {Q : α → Ob → Prop} {r : R β} (h : W2 rel A S Q E r) (k : ∀ A S a c, rel A S a c → rel' A S a c) : W2 rel' A S Q E r := by
  cases r with
  | ok a S2 =>
    obtain ⟨a, A', kn, s, r, q⟩ := h
    exact ⟨a, A', kn, s, k _ _ _ _ r, q⟩
  | ex c fs S2 => exact h
  | stuck => exact h
/-- what the layer says of an expression -/
def SndE (T : Prg) (k : Nat) (e : Ev.E) : Prop := ∀ ⦃σh : Sg⦄ ⦃A : Ob⦄ ⦃Q : QD⦄ ⦃E : QX⦄, wE T k e σh A Q E → ∀ ⦃b l : Nat⦄ ⦃S : Sto⦄ ⦃σ : Sg⦄, Kn A S → Fr2 b A S σh σ → l ≤ S.length → W2 (VwF b l) A S Q E (evE (ctxOf T k) e σ S)
/-- new lists stand one above the other -/
inductive FrV : Nat → List D → List D → Prop where
  | nil {l : Nat} : FrV l [] []
  | cons {l m : Nat} {d d' : D} {ds ds' : List D} (h : ∀ xs, d = .vw 2 xs → ∃ n, d' = .ref n ∧ l ≤ n ∧ n < m) (le : l ≤ m) (t : FrV m ds ds') : FrV l (d :: ds) (d' :: ds')
def VwsF (b l : Nat) (A : Ob) (S : Sto) (ds ds' : List D) : Prop := Vws b A S ds ds' ∧ FrV l ds ds'
def SndEsF (T : Prg) (k : Nat) (e : Ev.Es) : Prop := ∀ ⦃σh : Sg⦄ ⦃A : Ob⦄ ⦃Q : List D → Ob → Prop⦄ ⦃E : QX⦄, wEs T k e σh A Q E → ∀ ⦃b l : Nat⦄ ⦃S : Sto⦄ ⦃σ : Sg⦄, Kn A S → Fr2 b A S σh σ → l ≤ S.length → W2 (VwsF b l) A S Q E (evEs (ctxOf T k) e σ S)
def SndEs (T : Prg) (k : Nat) (e : Ev.Es) : Prop := ∀ ⦃σh : Sg⦄ ⦃A : Ob⦄ ⦃Q : List D → Ob → Prop⦄ ⦃E : QX⦄, wEs T k e σh A Q E → ∀ ⦃b : Nat⦄ ⦃S : Sto⦄ ⦃σ : Sg⦄, Kn A S → Fr2 b A S σh σ → W2 (Vws b) A S Q E (evEs (ctxOf T k) e σ S)
theorem SndEsF.weak {e : Ev.Es} (h : SndEsF T k e) : SndEs T k e := fun σh A Q E w b S σ kn fr => by
  have z := h w kn fr (Nat.le_refl _)
  cases hr : evEs (ctxOf T k) e σ S with
  | ok v S1 =>
    rw [hr] at z
    obtain ⟨a, A', z1, z2, z3, z4⟩ := z
    exact ⟨a, A', z1, z2, z3.1, z4⟩
  | ex c fs S1 => rw [hr] at z; exact z
  | stuck => rw [hr] at z; exact z
theorem Vw.lt {b : Nat} {A : Ob} {S : Sto} {xs : List D} {d' : D} {n : Nat} (v : Vw b A S (.vw 2 xs) d') (e : d' = .ref n) : S[n]? = some (.lst xs) ∧ cleans xs = true ∧ okc A S n := by
  subst e
  cases v with
  | view hc h ok lt => exact ⟨h, hc, ok⟩
/-- tracking is sound -/
theorem trk_snd {A0 : Ob} {b : Nat} {S : Sto} : ∀ {vs vs' : List D} {A : Ob} {l : Nat} {K : List D → Ob → Prop}, Kn A S → Vws b A0 S vs vs' → FrV l vs vs' → (∀ n, n ∈ A.map (·.1) → n ∈ A0.map (·.1) ∨ n < l) → trkQ vs A K →
    ∃ A', Kn A' S ∧ (∀ n, n ∈ A'.map (·.1) → n ∈ A.map (·.1) ∨ l ≤ n) ∧ cleans vs' = true ∧ K vs' A'
  | [], [], A, l, K, kn, _, _, _, q => ⟨A, kn, fun n h => .inl h, rfl, q⟩
  | d :: vs, d' :: vs', A, l, K, kn, .cons v vt, .cons (m := m) h le ft, hA, q => by
    by_cases hd : ∃ xs, d = .vw 2 xs
    · obtain ⟨xs, rfl⟩ := hd
      obtain ⟨n, e, h1, h2⟩ := h xs rfl
      obtain ⟨g1, g2, g3⟩ := v.lt e
      subst e
      have hn : n ∉ A.map (·.1) := fun z => (hA n z).elim g3.2.2 fun y => by omega
      have kn' : Kn ((n, .lst xs) :: A) S := ⟨kn.box, by simp only [List.map_cons, List.nodup_cons]; exact ⟨hn, kn.nd⟩, by simp only [List.map_cons, List.mem_cons, not_or]; exact ⟨fun z => g3.1 z.symm, kn.n0⟩, fun j o hj => by
        simp only [List.lookup] at hj
        split at hj
        · rename_i hq
          simp only [beq_iff_eq] at hq
          subst hq
          cases hj
          exact ⟨g1, g2⟩
        · exact kn.get j o hj⟩
      obtain ⟨A', k1, k2, k3, k4⟩ := trk_snd (A := (n, .lst xs) :: A) (l := m) kn' vt ft (fun j hj => by
        simp only [List.map_cons, List.mem_cons] at hj
        rcases hj with rfl | hj
        · exact .inr h2
        · exact (hA j hj).imp id fun y => by omega) (q n g3.1 hn)
      refine ⟨A', k1, fun j hj => ?_, by simp [cleans, clean, k3], k4⟩
      rcases k2 j hj with h | h
      · simp only [List.map_cons, List.mem_cons] at h
        rcases h with rfl | h
        · exact .inr h1
        · exact .inl h
      · exact .inr (by omega)
    · have q' : isVw d = false ∧ trkQ vs A fun ws A => K (d :: ws) A := by
        unfold trkQ at q
        split at q
        · rename_i z; cases z
        · rename_i z; cases z; exact absurd ⟨_, rfl⟩ hd
        · rename_i z; cases z; exact q
      obtain ⟨h1, q'⟩ := q'
      obtain ⟨rfl, hc⟩ := v.atom h1
      obtain ⟨A', k1, k2, k3, k4⟩ := trk_snd (A := A) (l := m) kn vt ft (fun j hj => (hA j hj).imp id fun y => by omega) q'
      exact ⟨A', k1, fun j hj => (k2 j hj).imp id fun y => by omega, by simp [cleans, hc, k3], k4⟩
theorem lc_snd {elt cond : Ev.E} (he : SndE T k elt) (hc : SndE T k cond) {tg : Tg} {d d' : D} {ds : List D} : ∀ (rest : List D) (i : Nat) {acc : List D} {A : Ob} {Q : QD} {S : Sto}, ds.drop i = rest → Kn A S → Fr2 b A S σh σ → Vw b A S d d' → l ≤ S.length → cleans acc = true →
    wLc d ds tg σh (fun σ A Q => wE T k cond σ A Q noX) (fun σ A Q => wE T k elt σ A Q noX) rest acc A Q → W2 (VwF b l) A S Q E (lcGo d' tg σ (evE (ctxOf T k) cond) (evE (ctxOf T k) elt) (rest.length + 1) i acc S)
  | [], i, acc, A, Q, S, hd, kn, fr, v, hl, ha, w => by
    obtain ⟨h1, q⟩ := w
    obtain ⟨h2, _⟩ := v.items kn h1
    have h3 : ds[i]? = none := by rw [List.getElem?_eq_none_iff]; exact List.drop_eq_nil_iff.mp hd
    simp only [lcGo, h2, h3]
    exact W2.ok kn (VwF.same (by simpa [clean] using ha)) q
  | x :: rest, i, acc, A, Q, S, hd, kn, fr, v, hl, ha, w => by
    obtain ⟨h1, q⟩ := w
    obtain ⟨h2, hcl⟩ := v.items kn h1
    have h3 : ds[i]? = some x := by
      have := congrArg (·[0]?) hd
      simpa using this
    have h4 : ds.drop (i + 1) = rest := by
      have := congrArg List.tail hd
      simpa using this
    obtain ⟨σ1, e1, q⟩ := stQ_of q
    obtain ⟨σ2, e2, fr2⟩ := (fr.wipe tg.slots).setTg (cleans_get hcl h3) e1
    show W2 _ A S Q E (lcGo d' tg σ _ _ (rest.length + 1 + 1) i acc S)
    rw [lcGo]
    simp only [h2, h3, e2]
    refine W2.bind (rel := eqR) (Q1 := fun c A => brQ c (wE T k elt σ1 A (fun y A => acc.length < lim ∧ isVw y = false ∧ wLc d ds tg σh (fun σ A Q => wE T k cond σ A Q noX) (fun σ A Q => wE T k elt σ A Q noX) rest (acc ++ [y]) A Q) noX) (wLc d ds tg σh (fun σ A Q => wE T k cond σ A Q noX) (fun σ A Q => wE T k elt σ A Q noX) rest acc A Q)) ?_ ?_
    · refine W2.bind (W2.nox (hc q kn fr2 (Nat.le_refl S.length) (b := b) (l := S.length))) fun c A1 c' S1 kn1 st1 r1 q1 => ?_
      exact trR kn1 r1.1 q1
    · rintro c A1 c' S1 kn1 st1 rfl q1
      cases c with
      | true =>
        refine W2.bind (W2.nox (he (q1.1 rfl) kn1 (fr2.st st1) (Nat.le_refl S1.length) (b := b) (l := S1.length))) fun y A2 y' S2 kn2 st2 r2 q2 => ?_
        obtain ⟨g1, g2, g3⟩ := q2
        obtain ⟨rfl, g4⟩ := r2.1.atom g2
        simp only [g1, if_true]
        exact lc_snd he hc rest (i + 1) h4 kn2 ((fr.st st1).st st2) ((v.st st1).st st2) (Nat.le_trans hl (Nat.le_trans st1.le st2.le)) (cleans_append ha (by simp [cleans, g4])) g3
      | false =>
        exact lc_snd he hc rest (i + 1) h4 kn1 (fr.st st1) (v.st st1) (Nat.le_trans hl st1.le) ha (q1.2 rfl)
theorem lr_snd {elt cond : Ev.E} (he : SndE T k elt) (hc : SndE T k cond) {tg : Tg} {lo : Int} : ∀ (n i : Nat) {acc : List D} {A : Ob} {Q : QD} {S : Sto}, Kn A S → Fr2 b A S σh σ → l ≤ S.length → cleans acc = true →
    wLr tg σh (fun σ A Q => wE T k cond σ A Q noX) (fun σ A Q => wE T k elt σ A Q noX) (rngL lo i n) acc A Q → W2 (VwF b l) A S Q E (lcRg tg σ (evE (ctxOf T k) cond) (evE (ctxOf T k) elt) lo n i acc S)
  | 0, i, acc, A, Q, S, kn, fr, hl, ha, q => by
    simp only [lcRg]
    exact W2.ok kn (VwF.same (by simpa [clean] using ha)) q
  | n + 1, i, acc, A, Q, S, kn, fr, hl, ha, q => by
    obtain ⟨σ1, e1, q⟩ := stQ_of q
    obtain ⟨σ2, e2, fr2⟩ := (fr.wipe tg.slots).setTg (d := .int (lo + i)) rfl e1
    rw [lcRg]
    simp only [e2]
    refine W2.bind (rel := eqR) (Q1 := fun c A => brQ c (wE T k elt σ1 A (fun y A => acc.length < lim ∧ isVw y = false ∧ wLr tg σh (fun σ A Q => wE T k cond σ A Q noX) (fun σ A Q => wE T k elt σ A Q noX) (rngL lo (i + 1) n) (acc ++ [y]) A Q) noX) (wLr tg σh (fun σ A Q => wE T k cond σ A Q noX) (fun σ A Q => wE T k elt σ A Q noX) (rngL lo (i + 1) n) acc A Q)) ?_ ?_
    · refine W2.bind (W2.nox (hc q kn fr2 (Nat.le_refl S.length) (b := b) (l := S.length))) fun c A1 c' S1 kn1 st1 r1 q1 => ?_
      exact trR kn1 r1.1 q1
    · rintro c A1 c' S1 kn1 st1 rfl q1
      cases c with
      | true =>
        refine W2.bind (W2.nox (he (q1.1 rfl) kn1 (fr2.st st1) (Nat.le_refl S1.length) (b := b) (l := S1.length))) fun y A2 y' S2 kn2 st2 r2 q2 => ?_
        obtain ⟨g1, g2, g3⟩ := q2
        obtain ⟨rfl, g4⟩ := r2.1.atom g2
        simp only [g1, if_true]
        exact lr_snd he hc n (i + 1) kn2 ((fr.st st1).st st2) (Nat.le_trans hl (Nat.le_trans st1.le st2.le)) (cleans_append ha (by simp [cleans, g4])) g3
      | false =>
        exact lr_snd he hc n (i + 1) kn1 (fr.st st1) (Nat.le_trans hl st1.le) ha (q1.2 rfl)
end
end Ev

namespace Ev
open PySem L2
section
variable {T : Prg} {k : Nat}
theorem part_snd {e : Ev.E} (he : SndE T k e) {σh σ : Sg} {A : Ob} {Q : Option Int → Ob → Prop} {E : QX} {b : Nat} {S : Sto} (kn : Kn A S) (fr : Fr2 b A S σh σ) (w : partQ e.isNop (fun K => wE T k e σh A K E) A Q) : W2 eqR A S Q E (evPart e.isNop (evE (ctxOf T k) e σ) S) := by
  unfold partQ at w
  unfold evPart
  cases h : e.isNop with
  | true => rw [h] at w; exact W2.ok kn rfl w
  | false =>
    rw [h] at w
    refine W2.bind (he w kn fr (Nat.le_refl _)) fun x A1 x' S1 kn1 st1 r1 q1 => ?_
    obtain ⟨i, rfl, q⟩ := intQ_of q1
    obtain ⟨rfl, _⟩ := r1.1.atom rfl
    exact W2.ok kn1 rfl q
theorem lim_if {P : Prop} [Decidable P] {α : Type} {a c : α} (h : P) : (if P then a else c) = a := if_pos h
theorem selfQ_of {A : Ob} {d : D} {K : Str → List Str → List D → Prop} (h : selfQ A d K) : ∃ c ks ds, selfOf (fs A) d = some (c, ks, ds) ∧ K c ks ds := by
  unfold selfQ at h
  split at h
  · exact ⟨_, _, _, by assumption, h⟩
  · exact h.elim
theorem cleans_fld {f : Str} {d : D} : ∀ {ks : List Str} {ds : List D}, cleans ds = true → fldOf ks ds f = some d → clean d = true
  | [], _, _, e => by simp [fldOf] at e
  | _ :: _, [], _, e => by simp [fldOf] at e
  | k :: ks, x :: ds, h, e => by
    simp only [cleans, Bool.and_eq_true] at h
    unfold fldOf at e
    split at e
    · cases e; exact h.1
    · exact cleans_fld h.2 e
theorem keyQ_of {A : Ob} {S : Sto} {b : Nat} {m v : Str} {d d' : D} {K : Str → Prop} (kn : Kn A S) (r : Vw b A S d d') (h : keyQ T m v A d K) : ∃ f, d' = d ∧ keyD (ctxOf T k) m v d' S = some f ∧ T.hasA f f = true ∧ clean d' = true ∧ K f := by
  obtain ⟨c, ks, ds, e, h1, f, h2, h3, q⟩ := selfQ_of h
  obtain ⟨rfl, e1, _, _, hc⟩ := r.selfOf kn e
  refine ⟨f, rfl, ?_, h3, hc, q⟩
  unfold keyD
  rw [e1]
  simp only [h1, ctx_mth, h2, Bool.false_eq_true, if_false]
theorem post1_ok {w : W1} {d d2 : D} {S S1 S0 : Sto} (hc : clean d = true) (e : w.post d S = .ok d2 S0) : w.post d S1 = .ok d2 S1 ∧ clean d2 = true := by
  unfold W1.post at e ⊢
  split at e
  · split at e
    · rename_i h
      cases e
      exact ⟨by simp [h], rfl⟩
    · cases e
  · cases e
  · cases e
    rename_i h1 h2
    refine ⟨?_, hc⟩
    cases w <;> first | rfl | exact (h2 _ rfl).elim
theorem post2_ok {w : W2o} {d d2 : D} {S S1 S0 : Sto} (e : w.post d S = .ok d2 S0) : w.post d S1 = .ok d2 S1 ∧ clean d2 = true := by
  unfold W2o.post at e ⊢
  split at e
  · cases e; exact ⟨rfl, rfl⟩
  · cases e; exact ⟨rfl, rfl⟩
  · cases e
theorem Rt.atom {b : Nat} {A : Ob} {S : Sto} {d d' : D} (h : Rt b A S d d') (hv : isVw d = false) : d' = d ∧ clean d = true := by
  cases h with
  | same h => exact ⟨rfl, h⟩
  | new => cases hv
mutual
theorem snd_wE : ∀ e : Ev.E, SndE T k e
  | .var i => by
    intro σh A Q E w b l S σ kn fr hl
    simp only [wE] at w
    obtain ⟨d, e, q⟩ := varQ_of w
    obtain ⟨d', h1, h2, h3⟩ := fr.get i d e
    simp only [evE, h1]
    refine W2.ok kn ⟨h2, fun xs hx => ?_⟩ q
    rcases h3 2 xs hx with h | h
    · cases h
    · exact absurd h.1 (by decide)
  | .glob x => by
    intro σh A Q E w b l S σ kn fr hl
    simp only [wE] at w
    obtain ⟨d, e, hv, hc, q⟩ := varQ_of w
    simp only [evE, ctx_con]
    have e' : T.con.lookup x = some d := by simpa using e
    rw [e']
    exact W2.ok kn (VwF.same hc) q
  | .ty n => by intro σh A Q E w b l S σ kn fr hl; exact W2.ok kn (VwF.same rfl) w
  | .cint i => by intro σh A Q E w b l S σ kn fr hl; exact W2.ok kn (VwF.same rfl) w
  | .cstr x => by intro σh A Q E w b l S σ kn fr hl; exact W2.ok kn (VwF.same rfl) w
  | .cbl c => by intro σh A Q E w b l S σ kn fr hl; exact W2.ok kn (VwF.same rfl) w
  | .cnon => by intro σh A Q E w b l S σ kn fr hl; exact W2.ok kn (VwF.same rfl) w
  | .bin op x y => by
    intro σh A Q E w b l S σ kn fr hl
    simp only [wE] at w
    simp only [evE]
    refine W2.bind (snd_wE x w kn fr hl) fun d1 A1 d1' S1 kn1 st1 r1 q1 => ?_
    refine W2.bind (snd_wE y q1 kn1 (fr.st st1) (Nat.le_trans hl st1.le)) fun d2 A2 d2' S2 kn2 st2 r2 q2 => ?_
    obtain ⟨d, S0, e, q⟩ := okW_of q2
    obtain ⟨h1, h2⟩ := bin_ok kn2 (r1.1.st st2) r2.1 e
    exact W2.op kn2 h1 h2 q
  | .neg x => by
    intro σh A Q E w b l S σ kn fr hl
    simp only [wE] at w
    simp only [evE]
    refine W2.bind (snd_wE x w kn fr hl) fun d1 A1 d1' S1 kn1 st1 r1 q1 => ?_
    unfold negQ at q1
    split at q1
    · obtain ⟨rfl, _⟩ := r1.1.atom rfl
      exact W2.op kn1 rfl rfl q1
    · exact q1.elim
  | .not x => by
    intro σh A Q E w b l S σ kn fr hl
    simp only [wE] at w
    simp only [evE]
    refine W2.bind (snd_wE x w kn fr hl) fun d1 A1 d1' S1 kn1 st1 r1 q1 => ?_
    obtain ⟨c, rfl, q⟩ := blQ_of q1
    obtain ⟨rfl, _⟩ := r1.1.atom rfl
    exact W2.op kn1 rfl rfl q
  | .cmp op x y => by
    intro σh A Q E w b l S σ kn fr hl
    simp only [wE] at w
    simp only [evE]
    refine W2.bind (snd_wE x w kn fr hl) fun d1 A1 d1' S1 kn1 st1 r1 q1 => ?_
    refine W2.bind (snd_wE y q1 kn1 (fr.st st1) (Nat.le_trans hl st1.le)) fun d2 A2 d2' S2 kn2 st2 r2 q2 => ?_
    obtain ⟨d, S0, e, q⟩ := okW_of q2
    obtain ⟨h1, h2⟩ := cmp_ok kn2 (r1.1.st st2) r2.1 e
    exact W2.op kn2 h1 h2 q
  | .chain op op2 x y z => by
    intro σh A Q E w b l S σ kn fr hl
    simp only [wE] at w
    simp only [evE]
    refine W2.bind (snd_wE x w kn fr hl) fun d1 A1 d1' S1 kn1 st1 r1 q1 => ?_
    refine W2.bind (snd_wE y q1 kn1 (fr.st st1) (Nat.le_trans hl st1.le)) fun d2 A2 d2' S2 kn2 st2 r2 q2 => ?_
    obtain ⟨d, S0, e, q⟩ := okW_of q2
    obtain ⟨h1, h2⟩ := cmp_ok kn2 (r1.1.st st2) r2.1 e
    obtain ⟨c, rfl, q⟩ := blQ_of q
    rw [h1]
    simp only [R.bind_ok]
    cases c with
    | true =>
      refine W2.bind (snd_wE z (q.1 rfl) kn2 ((fr.st st1).st st2) (Nat.le_trans (Nat.le_trans hl st1.le) st2.le)) fun d3 A3 d3' S3 kn3 st3 r3 q3 => ?_
      obtain ⟨hv, q3⟩ := q3
      obtain ⟨d, S0, e, q⟩ := okW_of q3
      obtain ⟨h1, h2⟩ := cmp_ok kn3 (r2.1.st st3) r3.1 e
      exact W2.op kn3 h1 h2 q
    | false => exact W2.op kn2 rfl rfl (q.2 rfl)
  | .and1 x => by
    intro σh A Q E w b l S σ kn fr hl
    simp only [wE] at w
    simp only [evE]
    exact snd_wE x w kn fr hl
  | .or1 x => by
    intro σh A Q E w b l S σ kn fr hl
    simp only [wE] at w
    simp only [evE]
    exact snd_wE x w kn fr hl
  | .and2 x y => by
    intro σh A Q E w b l S σ kn fr hl
    simp only [wE] at w
    simp only [evE]
    refine W2.bind (snd_wE x w kn fr hl) fun d1 A1 d1' S1 kn1 st1 r1 q1 => ?_
    obtain ⟨c, rfl, q⟩ := blQ_of q1
    obtain ⟨rfl, _⟩ := r1.1.atom rfl
    cases c with
    | true => exact snd_wE y (q.1 rfl) kn1 (fr.st st1) (Nat.le_trans hl st1.le)
    | false => exact W2.op kn1 rfl rfl (q.2 rfl)
  | .or2 x y => by
    intro σh A Q E w b l S σ kn fr hl
    simp only [wE] at w
    simp only [evE]
    refine W2.bind (snd_wE x w kn fr hl) fun d1 A1 d1' S1 kn1 st1 r1 q1 => ?_
    obtain ⟨c, rfl, q⟩ := blQ_of q1
    obtain ⟨rfl, _⟩ := r1.1.atom rfl
    cases c with
    | true => exact W2.op kn1 rfl rfl (q.1 rfl)
    | false => exact snd_wE y (q.2 rfl) kn1 (fr.st st1) (Nat.le_trans hl st1.le)
  | .ife t x y => by
    intro σh A Q E w b l S σ kn fr hl
    simp only [wE] at w
    simp only [evE]
    refine W2.bind (rel := eqR) (Q1 := fun c A => brQ c (wE T k x σh A Q E) (wE T k y σh A Q E)) ?_ ?_
    · refine W2.bind (snd_wE t w kn fr hl) fun d1 A1 d1' S1 kn1 st1 r1 q1 => ?_
      exact trR kn1 r1.1 q1
    · rintro c A1 c' S1 kn1 st1 rfl q1
      cases c with
      | true => exact snd_wE x (q1.1 rfl) kn1 (fr.st st1) (Nat.le_trans hl st1.le)
      | false => exact snd_wE y (q1.2 rfl) kn1 (fr.st st1) (Nat.le_trans hl st1.le)
  | .tup es => by
    intro σh A Q E w b l S σ kn fr hl
    simp only [wE] at w
    simp only [evE]
    refine W2.bind ((snd_wEsF es).weak w kn fr) fun vs A1 vs' S1 kn1 st1 r1 q1 => ?_
    obtain ⟨h1, h2, q⟩ := q1
    obtain ⟨rfl, h3⟩ := r1.atoms h2
    rw [if_pos h1]
    exact W2.op kn1 rfl (by simpa [clean] using h3) q
  | .lst es => by
    intro σh A Q E w b l S σ kn fr hl
    simp only [wE] at w
    simp only [evE]
    have z := snd_wEsF es w kn fr (Nat.le_refl S.length)
    cases hr : evEs (ctxOf T k) es σ S with
    | stuck => rw [hr] at z; exact z.elim
    | ex c fs S1 => rw [hr] at z; exact z
    | ok vs' S1 =>
      rw [hr] at z
      obtain ⟨vs, A1, kn1, st1, r1, h1, q⟩ := z
      rw [R.bind_ok]
      obtain ⟨A', k1, k2, k3, k4⟩ := trk_snd kn1 r1.1 r1.2 (fun _ h => .inl h) q
      have hl1 : vs'.length ≤ lim := by rw [r1.1.length]; exact h1
      rw [if_pos hl1]
      exact ⟨.lv vs', A', k1, ⟨st1.le, st1.keep, fun n hn => (k2 n hn).elim (st1.grow n) .inr⟩, VwF.same (by simpa [clean] using k3), k4⟩
  | .lstM es => by
    intro σh A Q E w b l S σ kn fr hl
    simp only [wE] at w
    simp only [evE]
    refine W2.bind ((snd_wEsF es).weak w kn fr) fun vs A1 vs' S1 kn1 st1 r1 q1 => ?_
    obtain ⟨h1, h2, q⟩ := q1
    obtain ⟨rfl, h3⟩ := r1.atoms h2
    rw [if_pos h1]
    exact newR kn1 (Nat.le_trans fr.hb st1.le) (Nat.le_trans hl st1.le) h3 q
  | .ix x y => by
    intro σh A Q E w b l S σ kn fr hl
    simp only [wE] at w
    simp only [evE]
    refine W2.bind (snd_wE x w kn fr hl) fun d1 A1 d1' S1 kn1 st1 r1 q1 => ?_
    refine W2.bind (snd_wE y q1 kn1 (fr.st st1) (Nat.le_trans hl st1.le)) fun d2 A2 d2' S2 kn2 st2 r2 q2 => ?_
    obtain ⟨d, S0, e, q⟩ := okW_of q2
    obtain ⟨h1, h2⟩ := ix_ok kn2 (r1.1.st st2) r2.1 e
    exact W2.op kn2 h1 h2 q
  | .sl x lo hi => by
    intro σh A Q E w b l S σ kn fr hl
    simp only [wE] at w
    simp only [evE]
    refine W2.bind (snd_wE x w kn fr hl) fun d1 A1 d1' S1 kn1 st1 r1 q1 => ?_
    refine W2.bind (part_snd (snd_wE lo) kn1 (fr.st st1) q1) ?_
    rintro i A2 i' S2 kn2 st2 rfl q2
    refine W2.bind (part_snd (snd_wE hi) kn2 ((fr.st st1).st st2) q2) ?_
    rintro j A3 j' S3 kn3 st3 rfl q3
    obtain ⟨d, S0, e, q⟩ := okW_of q3
    obtain ⟨h1, h2⟩ := sl_ok kn3 ((r1.1.st st2).st st3) e
    exact W2.op kn3 h1 h2 q
  | .nop => by intro σh A Q E w b l S σ kn fr hl; simp only [wE] at w
  | .call x f es => by
    intro σh A Q E w b l S σ kn fr hl
    simp only [wE] at w
    obtain ⟨h1, w⟩ := w
    simp only [evE, ctx_has, h1, gd_t]
    refine W2.bind ((snd_wEsF es).weak w kn fr) fun vs A1 vs' S1 kn1 st1 r1 q1 => ?_
    rw [ctx_call]
    exact W2.rel (q1 x S1 vs' (Prg.has_A h1) kn1 r1.args) fun A S a c h => h.vw (Nat.le_trans hl st1.le) (Nat.le_trans fr.hb st1.le)
  | .blt f es => by
    intro σh A Q E w b l S σ kn fr hl
    simp only [wE] at w
    simp only [evE]
    refine W2.bind ((snd_wEsF es).weak w kn fr) fun vs A1 vs' S1 kn1 st1 r1 q1 => ?_
    obtain ⟨d, S0, e, q⟩ := okW_of q1
    obtain ⟨h1, h2⟩ := blt_ok kn1 r1 e
    exact W2.op kn1 h1 h2 q
  | .bltM f es => by
    intro σh A Q E w b l S σ kn fr hl
    simp only [wE] at w
    simp only [evE]
    refine W2.bind ((snd_wEsF es).weak w kn fr) fun vs A1 vs' S1 kn1 st1 r1 q1 => ?_
    obtain ⟨d, S0, e, q⟩ := okW_of q1
    obtain ⟨h1, h2⟩ := blt_ok kn1 r1 e
    rw [h1, R.bind_ok]
    split at q
    · exact newR kn1 (Nat.le_trans fr.hb st1.le) (Nat.le_trans hl st1.le) (by simpa [clean] using h2) q
    · exact q.elim
  | .meth _ _ _ => by intro σh A Q E w b l S σ kn fr hl; simp only [wE] at w
  | .lc elt tg (.seq e) cond => by
    intro σh A Q E w b l S σ kn fr hl
    simp only [wE] at w
    simp only [evE]
    refine W2.bind (snd_wE e w kn fr hl) fun d1 A1 d1' S1 kn1 st1 r1 q1 => ?_
    obtain ⟨xs, e1, q⟩ := itQ_of q1
    obtain ⟨h1, h2⟩ := r1.1.items kn1 e1
    rw [h1]
    exact lc_snd (snd_wE elt) (snd_wE cond) xs 0 rfl kn1 (fr.st st1) r1.1 (Nat.le_trans hl st1.le) rfl q
  | .lc elt tg (.rng1 e) cond => by
    intro σh A Q E w b l S σ kn fr hl
    simp only [wE] at w
    simp only [evE]
    refine W2.bind (snd_wE e w kn fr hl) fun d1 A1 d1' S1 kn1 st1 r1 q1 => ?_
    obtain ⟨j, rfl, h1, q⟩ := intQ_of q1
    obtain ⟨rfl, _⟩ := r1.1.atom rfl
    simp only [h1, if_true]
    exact lr_snd (snd_wE elt) (snd_wE cond) _ 0 kn1 (fr.st st1) (Nat.le_trans hl st1.le) rfl q
  | .lc elt tg (.rng2 x y) cond => by
    intro σh A Q E w b l S σ kn fr hl
    simp only [wE] at w
    simp only [evE]
    refine W2.bind (snd_wE x w kn fr hl) fun d1 A1 d1' S1 kn1 st1 r1 q1 => ?_
    refine W2.bind (snd_wE y q1 kn1 (fr.st st1) (Nat.le_trans hl st1.le)) fun d2 A2 d2' S2 kn2 st2 r2 q2 => ?_
    obtain ⟨i, rfl, q⟩ := intQ_of q2
    obtain ⟨j, rfl, h1, h2, q⟩ := intQ_of q
    obtain ⟨rfl, _⟩ := r1.1.atom rfl
    obtain ⟨rfl, _⟩ := r2.1.atom rfl
    simp only [h1, h2, Bool.and_self, if_true]
    exact lr_snd (snd_wE elt) (snd_wE cond) _ 0 kn2 ((fr.st st1).st st2) (Nat.le_trans (Nat.le_trans hl st1.le) st2.le) rfl q
  | .frz _ => by intro σh A Q E w b l S σ kn fr hl; simp only [wE] at w
  | .rev x => by
    intro σh A Q E w b l S σ kn fr hl
    simp only [wE] at w
    simp only [evE]
    refine W2.bind (snd_wE x w kn fr hl) fun d1 A1 d1' S1 kn1 st1 r1 q1 => ?_
    obtain ⟨d, S0, e, q⟩ := okW_of q1
    obtain ⟨h1, h2⟩ := rev_ok kn1 r1.1 e
    exact W2.op kn1 h1 h2 q
  | .binM x y => by
    intro σh A Q E w b l S σ kn fr hl
    simp only [wE] at w
    simp only [evE]
    refine W2.bind (snd_wE x w kn fr hl) fun d1 A1 d1' S1 kn1 st1 r1 q1 => ?_
    refine W2.bind (snd_wE y q1 kn1 (fr.st st1) (Nat.le_trans hl st1.le)) fun d2 A2 d2' S2 kn2 st2 r2 q2 => ?_
    obtain ⟨xs, e1, q⟩ := lsQ_of q2
    obtain ⟨ys, e2, h, q⟩ := lsQ_of q
    obtain ⟨g1, c1⟩ := (r1.1.st st2).listOf kn2 e1
    obtain ⟨g2, c2⟩ := r2.1.listOf kn2 e2
    unfold catM
    rw [g1, g2]
    simp only [h, if_true]
    exact newR kn2 (Nat.le_trans (Nat.le_trans fr.hb st1.le) st2.le) (Nat.le_trans (Nat.le_trans hl st1.le) st2.le) (cleans_append c1 c2) q
  | .fld a f => by
    intro σh A Q E w b l S σ kn fr hl
    simp only [wE] at w
    simp only [evE]
    refine W2.bind (snd_wE a w kn fr hl) fun d1 A1 d1' S1 kn1 st1 r1 q1 => ?_
    obtain ⟨c, ks, ds, e, h1, q⟩ := selfQ_of q1
    obtain ⟨rfl, e1, h2, _, _⟩ := r1.1.selfOf kn1 e
    obtain ⟨d, e2, q⟩ := varQ_of q
    have e2 : fldOf ks ds f = some d := by simpa using e2
    unfold fldD
    rw [e1]
    simp only [ctx_fk, h1, gd_t, e2, ofOpt_some]
    exact W2.ok kn1 (VwF.same (cleans_fld h2 e2)) q
  | .prop a f => by
    intro σh A Q E w b l S σ kn fr hl
    simp only [wE] at w
    simp only [evE]
    refine W2.bind (snd_wE a w kn fr hl) fun d1 A1 d1' S1 kn1 st1 r1 q1 => ?_
    obtain ⟨g, rfl, e1, hA, hc, q⟩ := keyQ_of kn1 r1.1 q1
    unfold propD
    rw [e1]
    simp only [ctx_call]
    exact W2.nox (W2.rel (q g S1 [d1'] hA kn1 (.cons (.same hc) .nil)) fun A S a c h => h.vw (Nat.le_trans hl st1.le) (Nat.le_trans fr.hb st1.le))
  | .mc m v a es => by
    intro σh A Q E w b l S σ kn fr hl
    simp only [wE] at w
    simp only [evE]
    refine W2.bind (snd_wE a w kn fr hl) fun d1 A1 d1' S1 kn1 st1 r1 q1 => ?_
    obtain ⟨g, rfl, e1, hA, hc, hv, q⟩ := keyQ_of kn1 r1.1 q1
    rw [e1]
    simp only [ctx_call, decide_eq_true hv, gd_t]
    refine W2.bind ((snd_wEsF es).weak q kn1 (fr.st st1)) fun vs A2 vs' S2 kn2 st2 r2 q2 => ?_
    exact W2.rel (q2 g S2 (d1' :: vs') hA kn2 (.cons (.same hc) r2.args)) fun A S a c h => h.vw (Nat.le_trans (Nat.le_trans hl st1.le) st2.le) (Nat.le_trans (Nat.le_trans fr.hb st1.le) st2.le)
  | .o1 w a => by
    intro σh A Q E w0 b l S σ kn fr hl
    simp only [wE] at w0
    simp only [evE]
    refine W2.bind (snd_wE a w0 kn fr hl) fun d1 A1 d1' S1 kn1 st1 r1 q1 => ?_
    obtain ⟨g, rfl, e1, hA, hc, q⟩ := keyQ_of kn1 r1.1 q1
    unfold o1D
    rw [e1]
    simp only [ctx_call]
    refine W2.bind (W2.nox (q g S1 [d1'] hA kn1 (.cons (.same hc) .nil))) fun d2 A2 d2' S2 kn2 st2 r2 q2 => ?_
    obtain ⟨hv, q2⟩ := q2
    obtain ⟨rfl, h3⟩ := r2.atom hv
    obtain ⟨d, S0, e, q2⟩ := okW_of q2
    obtain ⟨e3, h4⟩ := post1_ok h3 e
    exact W2.op kn2 e3 h4 q2
  | .o2 w x y => by
    intro σh A Q E w0 b l S σ kn fr hl
    simp only [wE] at w0
    simp only [evE]
    refine W2.bind (snd_wE x w0 kn fr hl) fun d1 A1 d1' S1 kn1 st1 r1 q1 => ?_
    refine W2.bind (snd_wE y q1 kn1 (fr.st st1) (Nat.le_trans hl st1.le)) fun d2 A2 d2' S2 kn2 st2 r2 q2 => ?_
    obtain ⟨g, rfl, e1, hA, hc, q⟩ := keyQ_of kn2 r2.1 q2
    unfold o2D
    rw [e1]
    simp only [ctx_call]
    refine W2.bind (W2.nox (q g S2 [d2', d1'] hA kn2 (.cons (.same hc) (.cons (r1.1.st st2).arg .nil)))) fun d3 A3 d3' S3 kn3 st3 r3 q3 => ?_
    obtain ⟨hv, q3⟩ := q3
    obtain ⟨rfl, h3⟩ := r3.atom hv
    obtain ⟨d, S0, e, q3⟩ := okW_of q3
    obtain ⟨e3, h4⟩ := post2_ok e
    exact W2.op kn3 e3 h4 q3
  | .kc c f => by
    intro σh A Q E w b l S σ kn fr hl
    simp only [wE] at w
    obtain ⟨d, e, hc, q⟩ := varQ_of w
    simp only [evE, ctx_kc]
    have e' : T.kcs.lookup (c, f) = some d := by simpa using e
    rw [e']
    exact W2.ok kn (VwF.same hc) q
  | .oe x y => by
    intro σh A Q E w0 b l S σ kn fr hl
    simp only [wE] at w0
    simp only [evE]
    refine W2.bind (snd_wE x w0 kn fr hl) fun d1 A1 d1' S1 kn1 st1 r1 q1 => ?_
    refine W2.bind (snd_wE y q1 kn1 (fr.st st1) (Nat.le_trans hl st1.le)) fun d2 A2 d2' S2 kn2 st2 r2 q2 => ?_
    obtain ⟨h1, h2, v, h3, q⟩ := q2
    obtain ⟨rfl, _⟩ := r1.1.atom h1
    obtain ⟨rfl, _⟩ := r2.1.atom h2
    exact W2.op kn2 (h3 S2 kn2) rfl q
  | .isc c a => by
    intro σh A Q E w b l S σ kn fr hl
    simp only [wE] at w
    obtain ⟨hg, w⟩ := w
    simp only [evE, hg, gd_t]
    refine W2.bind (snd_wE a w kn fr hl) fun d1 A1 d1' S1 kn1 st1 r1 q1 => ?_
    obtain ⟨c1, ks, ds, e, q⟩ := selfQ_of q1
    obtain ⟨rfl, e1, _, _, _⟩ := r1.1.selfOf kn1 e
    unfold optQ at q
    split at q
    · rename_i v e2
      unfold iscD
      rw [e1]
      simp only [ctx_isc, e2]
      exact W2.ok kn1 (VwF.same rfl) q
    · exact q.elim
  | .trk a => by
    intro σh A Q E w b l S σ kn fr hl
    simp only [wE] at w
    simp only [evE]
    have z := snd_wE a w kn fr (Nat.le_refl S.length)
    cases hr : evE (ctxOf T k) a σ S with
    | stuck => rw [hr] at z; exact z.elim
    | ex c fs S1 => rw [hr] at z; exact z
    | ok d' S1 =>
      rw [hr] at z
      obtain ⟨d, A1, kn1, st1, r1, q⟩ := z
      have fr1 : FrV S.length [d] [d'] := .cons (m := S1.length) (fun xs e => by
        obtain ⟨n, e1, e2⟩ := r1.2 xs e
        subst e
        exact ⟨n, e1, e2, (r1.1.lt e1).2.2.2.1⟩) st1.le .nil
      obtain ⟨A', k1, k2, k3, k4⟩ := trk_snd kn1 (.cons r1.1 .nil) fr1 (fun _ h => .inl h) q
      exact ⟨d', A', k1, ⟨st1.le, st1.keep, fun n hn => (k2 n hn).elim (st1.grow n) .inr⟩, VwF.same (by simpa [cleans] using k3), k4⟩
  | .thw a => by
    intro σh A Q E w b l S σ kn fr hl
    simp only [wE] at w
    simp only [evE]
    refine W2.bind (snd_wE a w kn fr hl) fun d1 A1 d1' S1 kn1 st1 r1 q1 => ?_
    unfold thwQ at q1
    split at q1
    · obtain ⟨rfl, h2⟩ := r1.1.atom rfl
      exact newR kn1 (Nat.le_trans fr.hb st1.le) (Nat.le_trans hl st1.le) (by simpa [clean] using h2) q1
    · exact q1.elim
theorem snd_wEsF : ∀ es : Ev.Es, SndEsF T k es
  | .nil => by
    intro σh A Q E w b l S σ kn fr hl
    simp only [wEs] at w
    exact W2.ok kn ⟨.nil, .nil⟩ w
  | .cons e es => by
    intro σh A Q E w b l S σ kn fr hl
    simp only [wEs] at w
    simp only [evEs]
    refine W2.bind (snd_wE e w kn fr hl) fun d1 A1 d1' S1 kn1 st1 r1 q1 => ?_
    refine W2.bind (snd_wEsF es q1 kn1 (fr.st st1) (Nat.le_refl _)) fun d2 A2 d2' S2 kn2 st2 r2 q2 => ?_
    refine W2.ok kn2 ⟨.cons (r1.1.st st2) r2.1, .cons (m := S1.length) (fun xs e => ?_) (Nat.le_trans hl st1.le) r2.2⟩ q2
    obtain ⟨n, e1, e2⟩ := r1.2 xs e
    subst e
    exact ⟨n, e1, e2, (r1.1.lt e1).2.2.2.1⟩
end
theorem snd_wEs (es : Ev.Es) : SndEs T k es := (snd_wEsF es).weak
end
end Ev

namespace Ev
open PySem L2
structure St3 (c : Nat) (A : Ob) (S : Sto) (A' : Ob) (S' : Sto) : Prop where
  le : S.length ≤ S'.length
  keep : ∀ n, n < c → n ≠ 0 → n ∉ A.map (·.1) → S'[n]? = S[n]?
  grow : ∀ n, n ∈ A'.map (·.1) → n ∈ A.map (·.1) ∨ c ≤ n
def FlR (b : Nat) (A : Ob) (S : Sto) : Fl → Fl → Prop
  | .nx σh, .nx σ => Fr2 b A S σh σ
  | .bk σh, .bk σ => Fr2 b A S σh σ
  | .ct σh, .ct σ => Fr2 b A S σh σ
  | .rt d, .rt d' => Rt b A S d d'
  | .ex σh c fs, .ex σ c' fs' => Fr2 b A S σh σ ∧ c = c' ∧ fs = fs' ∧ xcl fs = true
  | _, _ => False
def WF (b c : Nat) (A : Ob) (S : Sto) (Q : QF) (σh σ : Sg) : R Fl → Prop
  | .ok fl' S' => ∃ fl A', Kn A' S' ∧ St3 c A S A' S' ∧ FlR b A' S' fl fl' ∧ Q fl A'
  | .ex x fs S' => ∃ A', Kn A' S' ∧ St3 c A S A' S' ∧ Fr2 b A' S' σh σ ∧ xcl fs = true ∧ Q (.ex σh x fs) A'
  | .stuck => False
def WN (b c : Nat) (A : Ob) (S : Sto) (Q : QF) : R Fl → Prop
  | .ok fl' S' => ∃ fl A', Kn A' S' ∧ St3 c A S A' S' ∧ FlR b A' S' fl fl' ∧ Q fl A'
  | _ => False
section
variable {T : Prg} {k : Nat} {A A' A1 A2 : Ob} {S S' S1 S2 : Sto} {b c c' l n : Nat} {σh σ : Sg} {Q : QF} {E : QX}
theorem St3.refl : St3 c A S A S := ⟨Nat.le_refl _, fun _ _ _ _ => rfl, fun _ h => .inl h⟩
theorem St3.trans (a : St3 c A S A1 S1) (e : St3 c A1 S1 A2 S2) : St3 c A S A2 S2 := by
  refine ⟨Nat.le_trans a.le e.le, fun n h1 h2 h3 => ?_, fun n h => ?_⟩
  · have h4 : n ∉ A1.map (·.1) := fun h => (a.grow n h).elim h3 fun z => by omega
    rw [e.keep n h1 h2 h4, a.keep n h1 h2 h3]
  · rcases e.grow n h with h | h
    · exact a.grow n h
    · exact .inr h
theorem St3.weak (a : St3 c A S A1 S1) (h : c' ≤ c) : St3 c' A S A1 S1 := ⟨a.le, fun n h1 h2 h3 => a.keep n (by omega) h2 h3, fun n hn => (a.grow n hn).imp id fun z => by omega⟩
theorem St2.st3 (a : St2 A S A1 S1) (h : c ≤ S.length) : St3 c A S A1 S1 := ⟨a.le, fun n h1 h2 h3 => a.keep n (by omega) h2 h3, fun n hn => (a.grow n hn).imp id fun z => by omega⟩
theorem Vw.st3 {d d' : D} (v : Vw b A S d d') (st : St3 c A S A' S') (h : ∀ n, isVw d = true → d' = .ref n → n < c) : Vw b A' S' d d' := by
  cases v with
  | same hc => exact .same hc
  | view hc h1 ok lt =>
    have hn := h _ rfl rfl
    exact .view hc (by rw [st.keep _ hn ok.1 ok.2.2]; exact h1) ⟨ok.1, Nat.lt_of_lt_of_le ok.2.1 st.le, fun z => (st.grow _ z).elim ok.2.2 fun w => by omega⟩ lt
theorem WN.step {r : R Fl} (h : WN b c A1 S1 Q r) (st : St3 c A S A1 S1) : WN b c A S Q r := by
  cases r with
  | ok fl S2 =>
    obtain ⟨fl, A', kn, s, r, q⟩ := h
    exact ⟨fl, A', kn, st.trans s, r, q⟩
  | ex => exact h
  | stuck => exact h
theorem WF.step {r : R Fl} (h : WF b c A1 S1 Q σh σ r) (st : St3 c A S A1 S1) : WF b c A S Q σh σ r := by
  cases r with
  | ok fl S2 =>
    obtain ⟨fl, A', kn, s, r, q⟩ := h
    exact ⟨fl, A', kn, st.trans s, r, q⟩
  | ex =>
    obtain ⟨A', kn, s, r, x, q⟩ := h
    exact ⟨A', kn, st.trans s, r, x, q⟩
  | stuck => exact h
theorem WN.wf {r : R Fl} (h : WN b c A S Q r) : WF b c A S Q σh σ r := by
  cases r with
  | ok fl S2 => exact h
  | ex => exact h.elim
  | stuck => exact h
theorem WN.weak {r : R Fl} (h : WN b c A S Q r) (hc : c' ≤ c) : WN b c' A S Q r := by
  cases r with
  | ok fl S2 =>
    obtain ⟨fl, A', kn, s, r, q⟩ := h
    exact ⟨fl, A', kn, s.weak hc, r, q⟩
  | ex => exact h
  | stuck => exact h
theorem WF.bindE {α β : Type} {rel : Ob → Sto → α → β → Prop} {Q1 : α → Ob → Prop} {x : R β} {f : β → Sto → R Fl} (fr : Fr2 b A S σh σ) (hc : c ≤ S.length) (h : W2 rel A S Q1 (exS σh Q) x)
    (k : ∀ a A1 e S1, Kn A1 S1 → St2 A S A1 S1 → rel A1 S1 a e → Q1 a A1 → WF b c A1 S1 Q σh σ (f e S1)) : WF b c A S Q σh σ (x.bind f) := by
  cases x with
  | ok e S1 =>
    obtain ⟨a, A1, kn, st, r, q⟩ := h
    exact WF.step (k a A1 e S1 kn st r q) (st.st3 hc)
  | ex x fs S1 =>
    obtain ⟨A1, kn, st, xc, q⟩ := h
    exact ⟨A1, kn, st.st3 hc, fr.st st, xc, q⟩
  | stuck => exact h
theorem WN.bind {Q1 : QF} {x : R Fl} {f : Fl → Sto → R Fl} (h : WN b c A S Q1 x) (k : ∀ fl A1 fl' S1, Kn A1 S1 → St3 c A S A1 S1 → FlR b A1 S1 fl fl' → Q1 fl A1 → WN b c A1 S1 Q (f fl' S1)) : WN b c A S Q (x.bind f) := by
  cases x with
  | ok e S1 =>
    obtain ⟨a, A1, kn, st, r, q⟩ := h
    exact WN.step (k a A1 e S1 kn st r q) st
  | ex x fs S1 => exact h.elim
  | stuck => exact h
theorem WF.ok {fl fl' : Fl} (kn : Kn A S) (r : FlR b A S fl fl') (q : Q fl A) : WF b c A S Q σh σ (.ok fl' S) := ⟨fl, A, kn, St3.refl, r, q⟩
theorem WN.ok {fl fl' : Fl} (kn : Kn A S) (r : FlR b A S fl fl') (q : Q fl A) : WN b c A S Q (.ok fl' S) := ⟨fl, A, kn, St3.refl, r, q⟩
/-! ### changes of a list of one's own -/
theorem Fr2.setOwn {i : Nat} {xs : List D} (f : Fr2 b A S σh σ) (st : St2 A S A1 S1) (v : Vw b A1 S1 (.vw 2 xs) (.ref n)) (hl : S.length ≤ n) : Fr2 b A1 S1 (σh.set i (some (.vw 1 xs))) (σ.set i (some (.ref n))) := by
  have v1 : Vw b A1 S1 (.vw 1 xs) (.ref n) := by
    cases v with
    | view hc h ok lt => exact .view hc h ok fun z => by cases z
  have key : ∀ (j : Nat) (ys : List D), σh[j]? = some (some (.vw 1 ys)) → σ[j]? ≠ some (some (.ref n)) := fun j ys h1 h2 => by
    obtain ⟨d', g1, g2, g3⟩ := f.get j _ h1
    rw [h2] at g1
    cases g1
    cases g2 with
    | view hc h ok lt => have := ok.2.1; omega
  refine ⟨by simp [f.len], Nat.le_trans f.hb st.le, fun j e he => ?_, fun j k m ys zs hjk h1 h2 h3 => ?_⟩
  · by_cases hj : i = j
    · subst hj
      have hi : i < σh.length := by
        have := (List.getElem?_eq_some_iff.mp he).1
        simpa using this
      rw [List.getElem?_set_self hi] at he
      cases he
      exact ⟨_, by rw [List.getElem?_set_self (by rw [← f.len]; exact hi)], v1, fun t ys e => .inr ⟨by cases e; rfl, n, rfl, Nat.le_trans f.hb hl⟩⟩
    · rw [List.getElem?_set_ne hj] at he ⊢
      exact (f.st st).get j e he
  · by_cases a1 : i = j
    · subst a1
      have a2 : i ≠ k := hjk
      have hi : i < σh.length := by
        have := (List.getElem?_eq_some_iff.mp h1).1
        simpa using this
      rw [List.getElem?_set_self (by rw [← f.len]; exact hi)] at h3
      cases h3
      rw [List.getElem?_set_ne a2] at h2 ⊢
      exact key k zs h2
    · rw [List.getElem?_set_ne a1] at h1 h3
      by_cases a2 : i = k
      · subst a2
        have hi : i < σh.length := by
          have := (List.getElem?_eq_some_iff.mp h2).1
          simpa using this
        rw [List.getElem?_set_self (by rw [← f.len]; exact hi)]
        intro q
        cases q
        exact key j ys h1 h3
      · rw [List.getElem?_set_ne a2] at h2 ⊢
        exact f.dis j k m ys zs hjk h1 h2 h3
theorem Kn.other {o : O} (kn : Kn A S) (h : okc A S n) : Kn A (S.set n o) := by
  refine ⟨?_, kn.nd, kn.n0, fun m p hm => ?_⟩
  · obtain ⟨u, hu, hb⟩ := kn.box.ex
    exact ⟨u, by rw [List.getElem?_set_ne h.1]; exact hu, hb⟩
  · have : n ≠ m := fun e => h.2.2 (e ▸ lookup_mem hm)
    rw [List.getElem?_set_ne this]
    exact kn.get m p hm
theorem st3_own {o : O} (h : b ≤ n) : St3 b A S A (S.set n o) := ⟨by simp, fun m h1 _ _ => by rw [List.getElem?_set_ne (by omega)], fun m h => .inl h⟩
/-- the own list in slot j changed -/
theorem Fr2.chg {j : Nat} {xs ys : List D} (f : Fr2 b A S σh σ) (h : σh[j]? = some (some (.vw 1 xs))) (hn : σ[j]? = some (some (.ref n))) (hc : cleans ys = true) : Fr2 b A (S.set n (.lst ys)) (σh.set j (some (.vw 1 ys))) σ := by
  obtain ⟨d', g1, g2, g3⟩ := f.get j _ h
  rw [hn] at g1
  cases g1
  have hbn : b ≤ n := by
    rcases g3 1 xs rfl with z | ⟨_, m, e, z⟩
    · cases z
    · cases e; exact z
  cases g2 with
  | view hcx hs ok lt =>
    refine ⟨by simp [f.len], by simp; exact f.hb, fun i e he => ?_, fun i i2 m zs ws hii h1 h2 h3 => ?_⟩
    · by_cases hj : j = i
      · subst hj
        rw [List.getElem?_set_self (List.getElem?_eq_some_iff.mp h).1] at he
        cases he
        refine ⟨_, hn, .view hc (by rw [List.getElem?_set_self ok.2.1]) ⟨ok.1, by simp; exact ok.2.1, ok.2.2⟩ (fun z => by cases z), fun t zs e => .inr ⟨by cases e; rfl, n, rfl, hbn⟩⟩
      · rw [List.getElem?_set_ne hj] at he
        obtain ⟨e', k1, k2, k3⟩ := f.get i e he
        refine ⟨e', k1, ?_, k3⟩
        cases k2 with
        | same hc => exact .same hc
        | @view t m zs hc2 hs2 ok2 lt2 =>
          have : n ≠ m := by
            rcases k3 t zs rfl with z | ⟨z, m2, e2, z2⟩
            · have := lt2 z; omega
            · subst z
              intro q
              subst q
              exact f.dis i j n zs xs (fun q => hj q.symm) he h k1 hn
          exact .view hc2 (by rw [List.getElem?_set_ne this]; exact hs2) ⟨ok2.1, by simp; exact ok2.2.1, ok2.2.2⟩ lt2
    · have e1 : ∀ (i : Nat) (zs : List D), (σh.set j (some (D.vw 1 ys)))[i]? = some (some (D.vw 1 zs)) → ∃ us : List D, σh[i]? = some (some (D.vw 1 us)) := fun i zs q => by
        by_cases hj : j = i
        · subst hj; exact ⟨xs, h⟩
        · rw [List.getElem?_set_ne hj] at q; exact ⟨zs, q⟩
      obtain ⟨u1, q1⟩ := e1 i zs h1
      obtain ⟨u2, q2⟩ := e1 i2 ws h2
      exact f.dis i i2 m u1 u2 hii q1 q2 h3
theorem Fr2.cell {o : O} (f : Fr2 b A S σh σ) (h : n ∈ A.map (·.1)) : Fr2 b A (S.set n o) σh σ := by
  refine ⟨f.len, by simp; exact f.hb, fun i d e => ?_, f.dis⟩
  obtain ⟨d', k1, k2, k3⟩ := f.get i d e
  refine ⟨d', k1, ?_, k3⟩
  cases k2 with
  | same hc => exact .same hc
  | @view t m xs hc2 hs2 ok2 lt2 =>
    exact .view hc2 (by rw [List.getElem?_set_ne (show n ≠ m from fun q => ok2.2.2 (q ▸ h))]; exact hs2) ⟨ok2.1, by simp; exact ok2.2.1, ok2.2.2⟩ lt2
theorem putA_keys {o : O} : (putA A n o).map (·.1) = A.map (·.1) := by
  unfold putA
  rw [List.map_map]
  apply List.map_congr_left
  intro p _
  simp only [Function.comp]
  split
  · rename_i h; exact h.symm
  · rfl
theorem putA_lookup {n : Nat} {o : O} : ∀ {A : Ob} {m : Nat}, (putA A n o).lookup m = if m = n then (A.lookup n).map fun _ => o else A.lookup m
  | [], m => by unfold putA; simp
  | (i, p) :: A, m => by
    have ih := @putA_lookup n o A m
    unfold putA at ih ⊢
    simp only [List.map_cons]
    by_cases h : i = n
    · subst h
      simp only [if_true, List.lookup]
      by_cases hm : m = i
      · subst hm; simp
      · rw [show (m == i) = false by simpa using hm]
        simp only [hm, if_false] at ih ⊢
        exact ih
    · simp only [h, if_false, List.lookup]
      by_cases hm : m = i
      · subst hm
        simp [h]
      · rw [show (m == i) = false by simpa using hm]
        rw [show (n == i) = false by simpa using fun q => h q.symm]
        simp only
        exact ih
theorem Kn.put {o o1 : O} (kn : Kn A S) (h : A.lookup n = some o1) (hc : ocl o = true) : Kn (putA A n o) (S.set n o) := by
  have hn := (List.getElem?_eq_some_iff.mp (kn.get n _ h).1).1
  refine ⟨?_, by rw [putA_keys]; exact kn.nd, by rw [putA_keys]; exact kn.n0, fun m p hm => ?_⟩
  · obtain ⟨u, hu, hb⟩ := kn.box.ex
    refine ⟨u, by rw [List.getElem?_set_ne (show n ≠ 0 from fun q => kn.n0 (q ▸ lookup_mem h))]; exact hu, hb⟩
  · rw [putA_lookup] at hm
    split at hm
    · rename_i e
      subst e
      rw [h] at hm
      cases hm
      exact ⟨by rw [List.getElem?_set_self hn], hc⟩
    · rename_i e
      rw [List.getElem?_set_ne (show n ≠ m from fun q => e q.symm)]
      exact kn.get m p hm
theorem st3_put {o o1 : O} (h : A.lookup n = some o1) : St3 c A S (putA A n o) (S.set n o) := ⟨by simp, fun m _ _ h2 => by rw [List.getElem?_set_ne (show n ≠ m from fun q => h2 (q ▸ lookup_mem h))], fun m hm => by rw [putA_keys] at hm; exact .inl hm⟩
theorem Fr2.keys {A2 : Ob} (f : Fr2 b A S σh σ) (h : A2.map (·.1) = A.map (·.1)) : Fr2 b A2 S σh σ := by
  refine ⟨f.len, f.hb, fun i d e => ?_, f.dis⟩
  obtain ⟨d', k1, k2, k3⟩ := f.get i d e
  refine ⟨d', k1, ?_, k3⟩
  cases k2 with
  | same hc => exact .same hc
  | view hc2 hs2 ok2 lt2 => exact .view hc2 hs2 ⟨ok2.1, ok2.2.1, by rw [h]; exact ok2.2.2⟩ lt2
theorem run_clean {m : Mth} {xs vs ys : List D} {d : D} (e : m.run xs vs = some (d, ys)) (h1 : cleans xs = true) (h2 : cleans vs = true) : clean d = true ∧ cleans ys = true := by
  cases m <;> simp only [Mth.run] at e
  · unfold appF at e
    split at e
    · split at e
      · cases e
        exact ⟨rfl, cleans_append h1 (by simpa [cleans] using h2)⟩
      · cases e
    · cases e
  · unfold insF at e
    split at e
    · split at e
      · cases e
        simp only [cleans, Bool.and_eq_true] at h2
        refine ⟨rfl, cleans_append (cleans_of_sub h1 fun d hd => List.mem_of_mem_take hd) ?_⟩
        simp only [cleans, Bool.and_eq_true]
        exact ⟨h2.2.1, cleans_of_sub h1 fun d hd => List.mem_of_mem_drop hd⟩
      · cases e
    · cases e
  · unfold popF at e
    split at e
    · split at e
      · split at e
        · rename_i hx
          cases e
          exact ⟨cleans_get h1 hx, cleans_of_sub h1 fun d hd => List.mem_of_mem_eraseIdx hd⟩
        · cases e
      · cases e
    · cases e
end
end Ev

namespace Ev
open PySem L2
section
variable {T : Prg} {k : Nat}
/-! ### what a handler gives -/
theorem ofOpt_ok {α : Type} {S S0 : Sto} {o : Option α} {a : α} (h : ofOpt S o = .ok a S0) : o = some a := by
  cases o with
  | none => cases h
  | some z => cases h; rfl
theorem lookup_cl {fs : List (Str × D)} {f : Str} {d : D} (h : xcl fs = true) (e : fs.lookup f = some d) : clean d = true := by
  have hm := PySem.mem_of_lookup e
  exact List.all_eq_true.mp h _ hm
mutual
theorem evH_snd {c : Str} {fs : List (Str × D)} {b : Nat} {A : Ob} {S : Sto} {σh σ : Sg} (fr : Fr2 b A S σh σ) (hx : xcl fs = true) : ∀ (h : HE) {d : D} {S0 : Sto}, evH (ctxOf T k) c fs h σh [] = .ok d S0 → clean d = true → evH (ctxOf T k) c fs h σ S = .ok d S
  | .kinds f, d, S0, e, hc => by
    simp only [evH] at e ⊢
    split at e
    · rename_i hq
      cases e
      rw [if_pos hq]
    · cases e
  | .fld f, d, S0, e, hc => by
    simp only [evH] at e ⊢
    cases h : (ctxOf T k).fok c f with
    | false => rw [h] at e; cases e
    | true =>
      rw [h] at e
      simp only [gd_t] at e ⊢
      rw [ofOpt_ok e]
      rfl
  | .var i, d, S0, e, hc => by
    simp only [evH] at e ⊢
    split at e
    · rename_i d1 h1
      cases e
      obtain ⟨d', h2, h3, _⟩ := fr.get i d h1
      rw [h2]
      cases h3 with
      | same => rfl
      | view => simp [clean] at hc
    · cases e
  | .cstr x, d, S0, e, hc => by simp only [evH] at e ⊢; cases e; rfl
  | .cint x, d, S0, e, hc => by simp only [evH] at e ⊢; cases e; rfl
  | .cbl x, d, S0, e, hc => by simp only [evH] at e ⊢; cases e; rfl
  | .cnon, d, S0, e, hc => by simp only [evH] at e ⊢; cases e; rfl
  | .lst hs, d, S0, e, hc => by
    simp only [evH] at e ⊢
    cases h : evHs (ctxOf T k) c fs hs σh [] with
    | ok vs S1 =>
      rw [h, R.bind_ok] at e
      split at e
      · rename_i hl
        cases e
        simp only [clean] at hc
        rw [evHs_snd fr hx hs h hc, R.bind_ok, if_pos hl]
      · cases e
    | ex => rw [h] at e; cases e
    | stuck => rw [h] at e; cases e
  | .tup hs, d, S0, e, hc => by
    simp only [evH] at e ⊢
    cases h : evHs (ctxOf T k) c fs hs σh [] with
    | ok vs S1 =>
      rw [h, R.bind_ok] at e
      split at e
      · rename_i hl
        cases e
        simp only [clean] at hc
        rw [evHs_snd fr hx hs h hc, R.bind_ok, if_pos hl]
      · cases e
    | ex => rw [h] at e; cases e
    | stuck => rw [h] at e; cases e
theorem evH_nil {c : Str} {fs : List (Str × D)} {σh : Sg} : ∀ (h : HE) {d : D} {S0 : Sto}, evH (ctxOf T k) c fs h σh [] = .ok d S0 → S0 = []
  | .kinds f, d, S0, e => by
    simp only [evH] at e
    split at e
    · cases e; rfl
    · cases e
  | .fld f, d, S0, e => by
    simp only [evH] at e
    cases h : (ctxOf T k).fok c f with
    | false => rw [h] at e; cases e
    | true =>
      rw [h] at e
      simp only [gd_t] at e
      cases h2 : fs.lookup f with
      | none => rw [h2] at e; cases e
      | some z => rw [h2] at e; cases e; rfl
  | .var i, d, S0, e => by
    simp only [evH] at e
    split at e
    · cases e; rfl
    · cases e
  | .cstr x, d, S0, e => by simp only [evH] at e; cases e; rfl
  | .cint x, d, S0, e => by simp only [evH] at e; cases e; rfl
  | .cbl x, d, S0, e => by simp only [evH] at e; cases e; rfl
  | .cnon, d, S0, e => by simp only [evH] at e; cases e; rfl
  | .lst hs, d, S0, e => by
    simp only [evH] at e
    cases h : evHs (ctxOf T k) c fs hs σh [] with
    | ok vs S1 =>
      rw [h, R.bind_ok] at e
      split at e
      · cases e; exact evHs_nil hs h
      · cases e
    | ex => rw [h] at e; cases e
    | stuck => rw [h] at e; cases e
  | .tup hs, d, S0, e => by
    simp only [evH] at e
    cases h : evHs (ctxOf T k) c fs hs σh [] with
    | ok vs S1 =>
      rw [h, R.bind_ok] at e
      split at e
      · cases e; exact evHs_nil hs h
      · cases e
    | ex => rw [h] at e; cases e
    | stuck => rw [h] at e; cases e
theorem evHs_nil {c : Str} {fs : List (Str × D)} {σh : Sg} : ∀ (h : HEs) {d : List D} {S0 : Sto}, evHs (ctxOf T k) c fs h σh [] = .ok d S0 → S0 = []
  | .nil, d, S0, e => by simp only [evHs] at e; cases e; rfl
  | .cons h hs, d, S0, e => by
    simp only [evHs] at e
    cases h1 : evH (ctxOf T k) c fs h σh [] with
    | ok v S1 =>
      rw [h1, R.bind_ok] at e
      have := evH_nil h h1
      subst this
      cases h2 : evHs (ctxOf T k) c fs hs σh [] with
      | ok vs S2 =>
        rw [h2, R.bind_ok] at e
        cases e
        exact evHs_nil hs h2
      | ex => rw [h2] at e; cases e
      | stuck => rw [h2] at e; cases e
    | ex => rw [h1] at e; cases e
    | stuck => rw [h1] at e; cases e
theorem evHs_snd {c : Str} {fs : List (Str × D)} {b : Nat} {A : Ob} {S : Sto} {σh σ : Sg} (fr : Fr2 b A S σh σ) (hx : xcl fs = true) : ∀ (h : HEs) {d : List D} {S0 : Sto}, evHs (ctxOf T k) c fs h σh [] = .ok d S0 → cleans d = true → evHs (ctxOf T k) c fs h σ S = .ok d S
  | .nil, d, S0, e, hc => by simp only [evHs] at e ⊢; cases e; rfl
  | .cons h hs, d, S0, e, hc => by
    simp only [evHs] at e ⊢
    cases h1 : evH (ctxOf T k) c fs h σh [] with
    | ok v S1 =>
      rw [h1, R.bind_ok] at e
      have := evH_nil h h1
      subst this
      cases h2 : evHs (ctxOf T k) c fs hs σh [] with
      | ok vs S2 =>
        rw [h2, R.bind_ok] at e
        cases e
        simp only [cleans, Bool.and_eq_true] at hc
        rw [evH_snd fr hx h h1 hc.1, R.bind_ok, evHs_snd fr hx hs h2 hc.2, R.bind_ok]
      | ex => rw [h2] at e; cases e
      | stuck => rw [h2] at e; cases e
    | ex => rw [h1] at e; cases e
    | stuck => rw [h1] at e; cases e
end
/-! ### statements -/
def SndS (T : Prg) (k : Nat) (s : Ev.S) : Prop := ∀ ⦃σh : Sg⦄ ⦃A : Ob⦄ ⦃Q : QF⦄, wS T k s σh A Q → ∀ ⦃b c : Nat⦄ ⦃S : Sto⦄ ⦃σ : Sg⦄, Kn A S → Fr2 b A S σh σ → b ≤ c → c ≤ S.length → (noMut s = true ∨ c = b) → WF b c A S Q σh σ (evS (ctxOf T k) s σ S)
def SndSs (T : Prg) (k : Nat) (s : Ev.Ss) : Prop := ∀ ⦃σh : Sg⦄ ⦃A : Ob⦄ ⦃Q : QF⦄, wSs T k s σh A Q → ∀ ⦃b c : Nat⦄ ⦃S : Sto⦄ ⦃σ : Sg⦄, Kn A S → Fr2 b A S σh σ → b ≤ c → c ≤ S.length → (noMuts s = true ∨ c = b) → WN b c A S Q (evSs (ctxOf T k) s σ S)
variable {A A1 : Ob} {S S1 : Sto} {b c l n : Nat} {σh σ : Sg} {Q : QF} {E : QX}
theorem refQ_of {d : D} {P : Nat → List D → Prop} (h : refQ A d P) : ∃ n xs, d = .ref n ∧ A.lookup n = some (.lst xs) ∧ P n xs := by
  unfold refQ at h
  split at h
  · split at h
    · exact ⟨_, _, rfl, by assumption, h⟩
    · exact h.elim
  · exact h.elim
theorem mthQ_of {m : Mth} {xs vs : List D} {P : D → List D → Prop} (h : mthQ m xs vs P) : ∃ d ys, m.run xs vs = some (d, ys) ∧ vs.any isVw = false ∧ P d ys := by
  unfold mthQ at h
  split at h
  · exact ⟨_, _, by assumption, h⟩
  · exact h.elim
theorem ixQ_of {xs : List D} {i : D} {P : Nat → Prop} (h : ixQ xs i P) : ∃ j n, i = .int j ∧ ixN xs.length j = some n ∧ P n := by
  unfold ixQ at h
  split at h
  · split at h
    · exact ⟨_, _, rfl, by assumption, h⟩
    · exact h.elim
  · exact h.elim
/-- the slot of an own list -/
theorem Fr2.own {j : Nat} {xs : List D} (f : Fr2 b A S σh σ) (h : σh[j]? = some (some (.vw 1 xs))) : ∃ n, σ[j]? = some (some (.ref n)) ∧ S[n]? = some (.lst xs) ∧ cleans xs = true ∧ okc A S n ∧ b ≤ n := by
  obtain ⟨d', g1, g2, g3⟩ := f.get j _ h
  rcases g3 1 xs rfl with z | ⟨_, n, rfl, z⟩
  · cases z
  cases g2 with
  | view hc h ok lt => exact ⟨n, g1, h, hc, ok, z⟩
theorem WF.okS {fl fl' : Fl} (kn : Kn A1 S1) (st : St3 c A S A1 S1) (r : FlR b A1 S1 fl fl') (q : Q fl A1) : WF b c A S Q σh σ (.ok fl' S1) := ⟨fl, A1, kn, st, r, q⟩
/-- an assignment -/
theorem asg_snd {tg : Tg} {d d' : D} (fr : Fr2 b A S σh σ) (st : St2 A S A1 S1) (r : VwF b S.length A1 S1 d d') {P : Sg → Prop} (q : asgQ tg d σh P) : ∃ σ1 σ2, setTg tg d' σ = some σ2 ∧ Fr2 b A1 S1 σ1 σ2 ∧ P σ1 := by
  unfold asgQ at q
  cases e : asgV d with
  | none => rw [e] at q; exact q.elim
  | some y =>
    rw [e] at q
    obtain ⟨σ1, e1, q9⟩ := stQ_of q
    clear q
    unfold asgV at e
    split at e
    · cases e
      rename_i xs
      cases tg with
      | tp is => simp [setTg] at e1
      | nm i =>
        simp only [setTg, Option.some.injEq] at e1
        subst e1
        obtain ⟨n, rfl, hn⟩ := r.2 xs rfl
        exact ⟨_, _, rfl, fr.setOwn st r.1 hn, q9⟩
    · cases e
      rename_i xs
      cases tg with
      | tp is => simp [setTg] at e1
      | nm i =>
        simp only [setTg, Option.some.injEq] at e1
        subst e1
        exact ⟨_, _, rfl, (fr.st st).set r.1 fun t ys h => by cases h; rfl, q9⟩
    · cases e
    · cases e
      rename_i n1 n2 n3
      obtain ⟨rfl, hc⟩ := r.1.atom (by cases d <;> first | rfl | exact (n3 _ _ rfl).elim)
      obtain ⟨σ2, e2, f2⟩ := (fr.st st).setTg hc e1
      exact ⟨_, _, e2, f2, q9⟩
/-- a method that changes a list, as a run with new slots -/
theorem meth_snd {m : Mth} {a : Ev.E} {es : Es} {K : D → Sg → Ob → Prop} (kn : Kn A S) (fr : Fr2 b A S σh σ) (w : methQ T k m a es σh A K (exS σh Q)) {f : D → Sto → R Fl} (hb : b ≤ S.length)
    (h : ∀ d A1 S1 σ1, Kn A1 S1 → St3 b A S A1 S1 → Fr2 b A1 S1 σ1 σ → clean d = true → K d σ1 A1 → WF b b A1 S1 Q σh σ (f d S1)) : WF b b A S Q σh σ ((evE (ctxOf T k) (.meth m a es) σ S).bind f) := by
  have tracked : ∀ {A1 : Ob} {S1 : Sto} {o : D} {o' : D} , Kn A1 S1 → St2 A S A1 S1 → Vw b A1 S1 o o' → refQ A1 o (fun _ _ => wEs T k es σh A1 (fun vs A => refQ A o fun n xs => mthQ m xs vs fun d ys => K d σh (putA A n (.lst ys))) (exS σh Q)) →
      WF b b A1 S1 Q σh σ ((match listOf S1 o' with | some _ => (evEs (ctxOf T k) es σ S1).bind fun vs S => methD m o' vs S | none => .stuck).bind f) := by
    intro A1 S1 o o' kn1 st1 v q
    obtain ⟨n, xs, rfl, h1, q⟩ := refQ_of q
    obtain ⟨rfl, _⟩ := v.atom rfl
    have h2 := (kn1.get n _ h1).1
    have h3 : listOf S1 (.ref n) = some xs := by simp [listOf, h2]
    rw [h3]
    simp only
    have assoc : ∀ {α β γ : Type} (r : R α) (g : α → Sto → R β) (h : β → Sto → R γ), (r.bind g).bind h = r.bind fun a S => (g a S).bind h := fun r g h => by cases r <;> rfl
    rw [assoc]
    refine WF.bindE (fr.st st1) (Nat.le_trans hb st1.le) (snd_wEs es q kn1 (fr.st st1)) fun vs A2 vs' S2 kn2 st2 r2 q2 => ?_
    obtain ⟨n2, xs2, e2, h4, q2⟩ := refQ_of q2
    cases e2
    obtain ⟨d, ys, h5, h6, q3⟩ := mthQ_of q2
    clear q2
    obtain ⟨rfl, h7⟩ := r2.atoms h6
    obtain ⟨g1, g2⟩ := kn2.get n _ h4
    obtain ⟨g3, g4⟩ := run_clean h5 g2 h7
    simp only [methD, g1, h5, R.bind_ok]
    have sst : St3 b A S (putA A2 n (.lst ys)) (S2.set n (.lst ys)) := ((st1.trans st2).st3 hb).trans (st3_put h4)
    exact WF.step (h d _ _ σh (kn2.put h4 g4) sst ((((fr.st st1).st st2).cell (lookup_mem h4)).keys putA_keys) g3 q3) (st3_put h4)
  unfold methQ at w
  split at w
  · rename_i j
    split at w
    · rename_i xs hj
      obtain ⟨n, g1, g2, g3, g4, g5⟩ := fr.own hj
      have e0 : evE (ctxOf T k) (.meth m (.var j) es) σ S = (evEs (ctxOf T k) es σ S).bind fun vs S => methD m (.ref n) vs S := by
        simp only [evE, g1, R.bind_ok, listOf, g2]
      rw [e0]
      have assoc : ∀ {α β γ : Type} (r : R α) (g : α → Sto → R β) (h : β → Sto → R γ), (r.bind g).bind h = r.bind fun a S => (g a S).bind h := fun r g h => by cases r <;> rfl
      rw [assoc]
      refine WF.bindE fr hb (snd_wEs es w kn fr) fun vs A2 vs' S2 kn2 st2 r2 q2 => ?_
      obtain ⟨d, ys, h5, h6, q3⟩ := mthQ_of q2
      clear q2
      obtain ⟨rfl, h7⟩ := r2.atoms h6
      obtain ⟨h8, h9⟩ := run_clean h5 g3 h7
      have g6 : S2[n]? = some (.lst xs) := by rw [st2.keep n g4.2.1 g4.1 g4.2.2]; exact g2
      simp only [methD, g6, h5, R.bind_ok]
      have sst : St3 b A S A2 (S2.set n (.lst ys)) := (st2.st3 hb).trans (st3_own g5)
      exact WF.step (h d _ _ _ (kn2.other (g4.st st2)) sst ((fr.st st2).chg hj g1 h9) h8 q3) (st3_own g5)
    · rename_i d hv hj
      obtain ⟨d', g1, g2, _⟩ := fr.get j d hj
      have e0 : evE (ctxOf T k) (.meth m (.var j) es) σ S = match listOf S d' with | some _ => (evEs (ctxOf T k) es σ S).bind fun vs S => methD m d' vs S | none => .stuck := by
        simp only [evE, g1, R.bind_ok] <;> rfl
      rw [e0]
      exact tracked kn St2.refl g2 w
    · exact w.elim
  · have assoc : ∀ {α β γ : Type} (r : R α) (g : α → Sto → R β) (h : β → Sto → R γ), (r.bind g).bind h = r.bind fun a S => (g a S).bind h := fun r g h => by cases r <;> rfl
    rw [show evE (ctxOf T k) (.meth m a es) σ S = (evE (ctxOf T k) a σ S).bind (fun o S => match listOf S o with | some _ => (evEs (ctxOf T k) es σ S).bind fun vs S => methD m o vs S | none => .stuck) by simp only [evE] <;> rfl, assoc]
    refine WF.bindE fr hb (snd_wE a w kn fr (Nat.le_refl _)) fun o A1 o' S1 kn1 st1 r1 q1 => ?_
    exact tracked kn1 st1 r1.1 q1
end
end Ev

namespace Ev
open PySem L2
section
variable {T : Prg} {k : Nat} {A A1 : Ob} {S S1 : Sto} {b c l n : Nat} {σh σ : Sg} {Q : QF} {E : QX}
theorem R.assoc {α β γ : Type} (r : R α) (g : α → Sto → R β) (h : β → Sto → R γ) : (r.bind g).bind h = r.bind fun a S => (g a S).bind h := by cases r <;> rfl
/-- a store to a place, as a run with new slots -/
theorem seti_snd {o i : Ev.E} {x : D} {K : Sg → Ob → Prop} (kn : Kn A S) (fr : Fr2 b A S σh σ) (hb : b ≤ S.length) {x' : D} (vx : Vw b A S x x') (w : setQ T k o i x σh A K (exS σh Q))
    (hK : ∀ σ A, K σ A → Q (.nx σ) A) : WF b b A S Q σh σ ((evE (ctxOf T k) o σ S).bind fun o S => (evE (ctxOf T k) i σ S).bind fun i S => (setiD o i x' S).bind fun _ S => .ok (.nx σ) S) := by
  have tracked : ∀ {A1 : Ob} {S1 : Sto} {o o' : D}, Kn A1 S1 → St2 A S A1 S1 → Vw b A1 S1 o o' → wE T k i σh A1 (fun i A => refQ A o fun n xs => ixQ xs i fun j => isVw x = false ∧ K σh (putA A n (.lst (xs.set j x)))) (exS σh Q) →
      WF b b A1 S1 Q σh σ ((evE (ctxOf T k) i σ S1).bind fun i S => (setiD o' i x' S).bind fun _ S => .ok (.nx σ) S) := by
    intro A1 S1 o o' kn1 st1 v q
    refine WF.bindE (fr.st st1) (Nat.le_trans hb st1.le) (snd_wE i q kn1 (fr.st st1) (Nat.le_refl _)) fun j A2 j' S2 kn2 st2 r2 q2 => ?_
    obtain ⟨n, xs, rfl, h1, q3⟩ := refQ_of q2
    obtain ⟨j, m, rfl, h2, h3, q4⟩ := ixQ_of q3
    obtain ⟨rfl, _⟩ := v.atom rfl
    obtain ⟨rfl, _⟩ := r2.1.atom rfl
    obtain ⟨ex, hx⟩ := vx.atom h3
    rw [ex]
    obtain ⟨g1, g2⟩ := kn2.get n _ h1
    simp only [setiD, g1, h2, R.bind_ok]
    have hc : ocl (.lst (xs.set m x)) = true := by
      simp only [ocl]
      exact cleans_mem.mpr fun d hd => (List.mem_or_eq_of_mem_set hd).elim (fun z => cleans_mem.mp g2 d z) fun z => z ▸ hx
    exact WF.okS (fl := .nx σh) (kn2.put h1 hc) (st3_put h1) ((((fr.st st1).st st2).cell (lookup_mem h1)).keys putA_keys) (hK _ _ q4)
  unfold setQ at w
  split at w
  · rename_i j
    split at w
    · rename_i xs hj
      obtain ⟨n, g1, g2, g3, g4, g5⟩ := fr.own hj
      simp only [evE, g1, R.bind_ok]
      refine WF.bindE fr hb (snd_wE i w kn fr (Nat.le_refl _)) fun i1 A2 i' S2 kn2 st2 r2 q2 => ?_
      obtain ⟨i1, m, rfl, h2, h3, q4⟩ := ixQ_of q2
      obtain ⟨rfl, _⟩ := r2.1.atom rfl
      obtain ⟨ex, hx⟩ := vx.atom h3
      rw [ex]
      have g6 : S2[n]? = some (.lst xs) := by rw [st2.keep n g4.2.1 g4.1 g4.2.2]; exact g2
      simp only [setiD, g6, h2, R.bind_ok]
      have hc : cleans (xs.set m x) = true := cleans_mem.mpr fun d hd => (List.mem_or_eq_of_mem_set hd).elim (fun z => cleans_mem.mp g3 d z) fun z => z ▸ hx
      exact WF.okS (fl := .nx _) (kn2.other (g4.st st2)) (st3_own g5) ((fr.st st2).chg hj g1 hc) (hK _ _ q4)
    · rename_i d hv hj
      obtain ⟨d', g1, g2, _⟩ := fr.get j d hj
      simp only [evE, g1, R.bind_ok]
      exact tracked kn St2.refl g2 w
    · exact w.elim
  · refine WF.bindE fr hb (snd_wE o w kn fr (Nat.le_refl _)) fun o1 A1 o' S1 kn1 st1 r1 q1 => ?_
    refine tracked kn1 st1 r1.1 q1
theorem ret_snd {e : Ev.E} (kn : Kn A S) (fr : Fr2 b A S σh σ) (hbc : b ≤ c) (hc : c ≤ S.length) (hm : noMut (.ret e) = true ∨ c = b) (w : retE T k e σh A Q) : WF b c A S Q σh σ (evS (ctxOf T k) (.ret e) σ S) := by
  simp only [evS]
  unfold retE at w
  split at w
  · split at w
    · rename_i i xs hj
      obtain ⟨n, g1, g2, g3, g4, g5⟩ := fr.own hj
      have : c = b := by
        rcases hm with h | h
        · simp [noMut, E.isFrz] at h
        · exact h
      subst this
      simp only [evE, g1, R.bind_ok, frzD, g2]
      exact WF.okS (fl := .rt (.lv xs)) (kn.other g4) (st3_own g5) (Rt.same (by simpa [clean] using g3)) w
    · exact w.elim
  · split at w
    · rename_i i xs hj
      obtain ⟨n, g1, g2, g3, g4, g5⟩ := fr.own hj
      simp only [evE, g1, R.bind_ok]
      exact WF.okS (fl := .rt (.vw 2 xs)) kn St3.refl (Rt.new g3 g2 g4 g5) w
    · rename_i i _ d hv hj
      obtain ⟨d', g1, g2, _⟩ := fr.get i d hj
      obtain ⟨h1, q⟩ := w
      obtain ⟨rfl, h2⟩ := g2.atom h1
      simp only [evE, g1, R.bind_ok]
      exact WF.okS (fl := .rt d') kn St3.refl (Rt.same h2) q
    · exact w.elim
  · refine WF.bindE fr hc (snd_wE _ w kn fr (Nat.le_refl S.length)) fun d A1 d' S1 kn1 st1 r1 q1 => ?_
    unfold retQ at q1
    split at q1
    · rename_i xs
      obtain ⟨n, rfl, hn⟩ := r1.2 xs rfl
      cases r1.1 with
      | view hc h ok lt => exact WF.okS (fl := .rt (.vw 2 xs)) kn1 St3.refl (Rt.new hc h ok (by omega)) q1
    · exact q1.elim
    · rename_i n1 n2
      obtain ⟨rfl, h2⟩ := r1.1.atom (by cases d <;> first | rfl | exact (n2 _ _ rfl).elim)
      exact WF.okS (fl := .rt d') kn1 St3.refl (Rt.same h2) q1
theorem for_snd {bs : Ss} (hs : SndSs T k bs) {tg : Tg} {d d' : D} {ds : List D} (hbc : b ≤ c) (hm : noMuts bs = true ∨ c = b) : ∀ (rest : List D) (i : Nat) {A : Ob} {S : Sto} {σh σ : Sg}, ds.drop i = rest → Kn A S → Fr2 b A S σh σ → c ≤ S.length → Vw b A S d d' → (∀ n, isVw d = true → d' = .ref n → n < c) →
    wFor d ds tg (wSs T k bs) rest σh A Q → WN b c A S Q (forGo d' tg (evSs (ctxOf T k) bs) (rest.length + 1) i σ S)
  | [], i, A, S, σh, σ, hd, kn, fr, hl, v, hv, w => by
    obtain ⟨h1, q⟩ := w
    obtain ⟨h2, _⟩ := v.items kn h1
    have h3 : ds[i]? = none := by rw [List.getElem?_eq_none_iff]; exact List.drop_eq_nil_iff.mp hd
    simp only [forGo, h2, h3]
    exact WN.ok (fl := .nx σh) kn fr q
  | x :: rest, i, A, S, σh, σ, hd, kn, fr, hl, v, hv, w => by
    obtain ⟨h1, q⟩ := w
    obtain ⟨h2, hcl⟩ := v.items kn h1
    have h3 : ds[i]? = some x := by
      have := congrArg (·[0]?) hd
      simpa using this
    have h4 : ds.drop (i + 1) = rest := by
      have := congrArg List.tail hd
      simpa using this
    obtain ⟨σ1, e1, q⟩ := stQ_of q
    obtain ⟨σ2, e2, fr2⟩ := fr.setTg (cleans_get hcl h3) e1
    show WN b c A S Q (forGo d' tg _ (rest.length + 1 + 1) i σ S)
    rw [forGo]
    simp only [h2, h3, e2]
    refine WN.bind (hs q kn fr2 hbc hl hm) fun fl A1 fl' S1 kn1 st1 r1 q1 => ?_
    cases fl <;> cases fl' <;> try exact r1.elim
    · exact for_snd hs hbc hm rest (i + 1) h4 kn1 r1 (Nat.le_trans hl st1.le) (v.st3 st1 hv) hv q1
    · exact WN.ok (fl := .rt _) kn1 r1 q1
    · exact WN.ok (fl := .nx _) kn1 r1 q1
    · exact for_snd hs hbc hm rest (i + 1) h4 kn1 r1 (Nat.le_trans hl st1.le) (v.st3 st1 hv) hv q1
    · obtain ⟨g1, rfl, rfl, g4⟩ := r1
      exact WN.ok (fl := .ex _ _ _) kn1 ⟨g1, rfl, rfl, g4⟩ q1
theorem fr_snd {bs : Ss} (hs : SndSs T k bs) {tg : Tg} {lo : Int} (hbc : b ≤ c) (hm : noMuts bs = true ∨ c = b) : ∀ (n i : Nat) {A : Ob} {S : Sto} {σh σ : Sg}, Kn A S → Fr2 b A S σh σ → c ≤ S.length →
    wFr tg (wSs T k bs) (rngL lo i n) σh A Q → WN b c A S Q (forRg tg (evSs (ctxOf T k) bs) lo n i σ S)
  | 0, i, A, S, σh, σ, kn, fr, hl, q => by
    simp only [forRg]
    exact WN.ok (fl := .nx σh) kn fr q
  | n + 1, i, A, S, σh, σ, kn, fr, hl, q => by
    obtain ⟨σ1, e1, q⟩ := stQ_of q
    obtain ⟨σ2, e2, fr2⟩ := fr.setTg (d := .int (lo + i)) rfl e1
    rw [forRg]
    simp only [e2]
    refine WN.bind (hs q kn fr2 hbc hl hm) fun fl A1 fl' S1 kn1 st1 r1 q1 => ?_
    cases fl <;> cases fl' <;> try exact r1.elim
    · exact fr_snd hs hbc hm n (i + 1) kn1 r1 (Nat.le_trans hl st1.le) q1
    · exact WN.ok (fl := .rt _) kn1 r1 q1
    · exact WN.ok (fl := .nx _) kn1 r1 q1
    · exact fr_snd hs hbc hm n (i + 1) kn1 r1 (Nat.le_trans hl st1.le) q1
    · obtain ⟨g1, rfl, rfl, g4⟩ := r1
      exact WN.ok (fl := .ex _ _ _) kn1 ⟨g1, rfl, rfl, g4⟩ q1
theorem wh_snd {t : Ev.E} {bs : Ss} (hs : SndSs T k bs) (hbc : b ≤ c) (hm : noMuts bs = true ∨ c = b) : ∀ (n : Nat) {A : Ob} {S : Sto} {σh σ : Sg}, Kn A S → Fr2 b A S σh σ → c ≤ S.length →
    wWh (fun σ A Q => wE T k t σ A Q noX) (wSs T k bs) n σh A Q → WN b c A S Q (whGo (evE (ctxOf T k) t) (evSs (ctxOf T k) bs) n σ S)
  | 0, A, S, σh, σ, kn, fr, hl, q => q.elim
  | n + 1, A, S, σh, σ, kn, fr, hl, q => by
    rw [whGo]
    have h : W2 eqR A S (fun x A => brQ x (wSs T k bs σh A (loopQ (wWh (fun σ A Q => wE T k t σ A Q noX) (wSs T k bs) n) Q)) (Q (.nx σh) A)) noX (((evE (ctxOf T k) t σ S).nox).bind tr) := by
      refine W2.bind (W2.nox (snd_wE t q kn fr (Nat.le_refl _))) fun d A1 d' S1 kn1 st1 r1 q1 => ?_
      exact trR kn1 r1.1 q1
    cases hr : ((evE (ctxOf T k) t σ S).nox).bind tr with
    | ex => rw [hr] at h; obtain ⟨_, _, _, _, z⟩ := h; exact z.elim
    | stuck => rw [hr] at h; exact h.elim
    | ok v S1 =>
      rw [hr] at h
      obtain ⟨v', A1, kn1, st1, rfl, q1⟩ := h
      rw [R.bind_ok]
      cases v' with
      | false => exact ⟨.nx σh, A1, kn1, st1.st3 hl, fr.st st1, q1.2 rfl⟩
      | true =>
        refine WN.step (WN.bind (hs (q1.1 rfl) kn1 (fr.st st1) hbc (Nat.le_trans hl st1.le) hm) fun fl A2 fl' S2 kn2 st2 r2 q2 => ?_) (st1.st3 hl)
        cases fl <;> cases fl' <;> try exact r2.elim
        · exact wh_snd hs hbc hm n kn2 r2 (Nat.le_trans (Nat.le_trans hl st1.le) st2.le) q2
        · exact WN.ok (fl := .rt _) kn2 r2 q2
        · exact WN.ok (fl := .nx _) kn2 r2 q2
        · exact wh_snd hs hbc hm n kn2 r2 (Nat.le_trans (Nat.le_trans hl st1.le) st2.le) q2
        · obtain ⟨g1, rfl, rfl, g4⟩ := r2
          exact WN.ok (fl := .ex _ _ _) kn2 ⟨g1, rfl, rfl, g4⟩ q2
theorem try_snd {c0 : Str} {i : Nat} {h : HE} {fl fl' : Fl} (kn : Kn A S) (r : FlR b A S fl fl') (w : tryQ T k c0 i h Q fl A) : WF b c A S Q σh σ (tryK (ctxOf T k) c0 i h fl' S) := by
  cases fl <;> cases fl' <;> try exact r.elim
  · exact WF.ok (fl := .nx _) kn r w
  · exact WF.ok (fl := .rt _) kn r w
  · exact WF.ok (fl := .bk _) kn r w
  · exact WF.ok (fl := .ct _) kn r w
  · obtain ⟨g1, rfl, rfl, g4⟩ := r
    obtain ⟨h1, q⟩ := w
    simp only [tryK, ctx_exc, h1, if_true, ctx_sub]
    rename_i σ1 c1 fs1 σ2
    cases hd : decide ((c1, c0) ∈ T.sub) with
    | true =>
      have q1 := q.1 hd
      unfold hanQ at q1
      split at q1
      · rename_i d S0 e
        simp only
        rw [evH_snd (g1.wipe1 i) g4 h e q1.1]
        exact WF.ok (fl := .rt _) kn (Rt.same q1.1) q1.2
      · exact q1.elim
    | false => exact WF.ok (fl := .ex _ _ _) kn ⟨g1, rfl, rfl, g4⟩ (q.2 hd)
theorem hsel_snd {c1 : Str} {fs1 : List (Str × Ev.D)} {σ1 σ2 : Sg} (kn : Kn A S) (g1 : Fr2 b A S σ1 σ2) (g4 : xcl fs1 = true) (h1 : (T.exc.lookup c1).isSome = true) : ∀ {cs : List (Str × Nat × HE)}, hselQ T k c1 fs1 Q cs σ1 A → WF b c A S Q σh σ (hsel (ctxOf T k) c1 fs1 cs σ2 S)
  | [], q => WF.ok (fl := .ex _ _ _) kn ⟨g1, rfl, rfl, g4⟩ q
  | (c0, i, h) :: cs, q => by
    simp only [hsel, ctx_sub]
    unfold hselQ at q
    cases hd : decide ((c1, c0) ∈ T.sub) with
    | true =>
      have q1 := q.1 hd
      unfold hanQ at q1
      split at q1
      · rename_i d S0 e
        simp only
        rw [evH_snd (g1.wipe1 i) g4 h e q1.1]
        exact WF.ok (fl := .rt _) kn (Rt.same q1.1) q1.2
      · exact q1.elim
    | false => exact hsel_snd kn g1 g4 h1 (q.2 hd)
theorem trym_snd {cs : List (Str × Nat × HE)} {fl fl' : Fl} (kn : Kn A S) (r : FlR b A S fl fl') (w : trymQ T k cs Q fl A) : WF b c A S Q σh σ (trymK (ctxOf T k) cs fl' S) := by
  cases fl <;> cases fl' <;> try exact r.elim
  · exact WF.ok (fl := .nx _) kn r w
  · exact WF.ok (fl := .rt _) kn r w
  · exact WF.ok (fl := .bk _) kn r w
  · exact WF.ok (fl := .ct _) kn r w
  · obtain ⟨g1, rfl, rfl, g4⟩ := r
    obtain ⟨h1, q⟩ := w
    simp only [trymK, ctx_exc, h1, if_true]
    exact hsel_snd kn g1 g4 h1 q
theorem WF.bindN {Q1 : QF} {x : R Fl} {f : Fl → Sto → R Fl} (h : WN b c A S Q1 x) (k : ∀ fl A1 fl' S1, Kn A1 S1 → St3 c A S A1 S1 → FlR b A1 S1 fl fl' → Q1 fl A1 → WF b c A1 S1 Q σh σ (f fl' S1)) : WF b c A S Q σh σ (x.bind f) := by
  cases x with
  | ok e S1 =>
    obtain ⟨a, A1, kn, st, r, q⟩ := h
    exact WF.step (k a A1 e S1 kn st r q) st
  | ex x fs S1 => exact h.elim
  | stuck => exact h
theorem cleans_put {f : Str} {d : D} (hd : clean d = true) : ∀ {ks : List Str} {ds : List D}, cleans ds = true → cleans (putDs f d ks ds) = true
  | [], _, _ => by simp [putDs, cleans, hd]
  | _ :: _, [], _ => by simp [putDs, cleans, hd]
  | k :: ks, x :: ds, h => by
    simp only [cleans, Bool.and_eq_true] at h
    unfold putDs
    split
    · simp [cleans, hd, h.2]
    · simp [cleans, h.1, cleans_put hd h.2]
mutual
theorem snd_wS : ∀ s : Ev.S, SndS T k s
  | .raise_ x es => by
    intro σh A Q w b c S σ kn fr hbc hc hm
    simp only [wS] at w
    obtain ⟨h1, w⟩ := w
    simp only [evS, h1, gd_t]
    refine WF.bindE fr hc (snd_wEs es w kn fr) fun vs A1 vs' S1 kn1 st1 r1 q1 => ?_
    unfold raiseD
    rw [ctx_exc]
    split at q1
    · rename_i ps hp
      obtain ⟨g1, g2, g3, g4⟩ := q1
      obtain ⟨rfl, g5⟩ := r1.atoms g3
      try rw [hp]
      simp only [g1, g2, and_self, if_true]
      refine ⟨A1, kn1, St3.refl, fr.st st1, ?_, g4⟩
      refine List.all_eq_true.mpr fun p hp2 => ?_
      have := List.mem_reverse.mp hp2
      exact cleans_mem.mp g5 _ (List.of_mem_zip this).2
    · exact q1.elim
  | .raise0 x => by
    intro σh A Q w b c S σ kn fr hbc hc hm
    simp only [wS] at w
    simp only [evS, raise0D, ctx_exc, w.1]
    exact ⟨A, kn, St3.refl, fr, rfl, w.2⟩
  | .try_ bs c0 i h => by
    intro σh A Q w b c S σ kn fr hbc hc hm
    simp only [wS] at w
    obtain ⟨h1, w⟩ := w
    simp only [evS, h1, gd_t]
    refine WF.bindN (snd_wSs bs w kn fr hbc hc (by simpa [noMut] using hm)) fun fl A1 fl' S1 kn1 st1 r1 q1 => ?_
    exact try_snd kn1 r1 q1
  | .trym bs cs => by
    intro σh A Q w b c S σ kn fr hbc hc hm
    simp only [wS] at w
    obtain ⟨h1, w⟩ := w
    simp only [evS, h1, gd_t]
    refine WF.bindN (snd_wSs bs w kn fr hbc hc (by simpa [noMut] using hm)) fun fl A1 fl' S1 kn1 st1 r1 q1 => ?_
    exact trym_snd kn1 r1 q1
  | .asg tg e => by
    intro σh A Q w b c S σ kn fr hbc hc hm
    simp only [wS] at w
    simp only [evS]
    split at w
    · have : c = b := by
        rcases hm with h | h
        · simp [noMut, E.isMeth] at h
        · exact h
      subst this
      refine meth_snd kn fr w hc fun d A1 S1 σ1 kn1 st1 fr1 hcl q1 => ?_
      obtain ⟨σ2, σ3, e2, f2, q2⟩ := asg_snd fr1 St2.refl (VwF.same hcl) q1
      rw [e2]
      exact WF.ok (fl := .nx σ2) kn1 f2 q2
    · refine WF.bindE fr hc (snd_wE _ w kn fr (Nat.le_refl S.length)) fun d A1 d' S1 kn1 st1 r1 q1 => ?_
      obtain ⟨σ2, σ3, e2, f2, q2⟩ := asg_snd fr st1 r1 q1
      rw [e2]
      exact WF.ok (fl := .nx σ2) kn1 f2 q2
  | .seti o i e => by
    intro σh A Q w b c S σ kn fr hbc hc hm
    have : c = b := by
      rcases hm with h | h
      · simp [noMut] at h
      · exact h
    subst this
    simp only [wS] at w
    simp only [evS]
    refine WF.bindE fr hc (snd_wE e w kn fr (Nat.le_refl S.length)) fun d A1 d' S1 kn1 st1 r1 q1 => ?_
    exact seti_snd kn1 (fr.st st1) (Nat.le_trans hc st1.le) r1.1 q1 fun _ _ h => h
  | .setf o f e => by
    intro σh A Q w b c S σ kn fr hbc hc hm
    simp only [wS] at w
    simp only [evS]
    refine WF.bindE fr hc (snd_wE e w kn fr (Nat.le_refl S.length)) fun d A1 d' S1 kn1 st1 r1 q1 => ?_
    refine WF.bindE (fr.st st1) (Nat.le_trans hc st1.le) (snd_wE o q1 kn1 (fr.st st1) (Nat.le_refl S1.length)) fun o1 A2 o' S2 kn2 st2 r2 q2 => ?_
    unfold setfQ at q2
    split at q2
    · rename_i n
      split at q2
      · rename_i cl ks ds hA
        obtain ⟨h1, h2, h3, q⟩ := q2
        obtain ⟨rfl, _⟩ := r2.1.atom rfl
        obtain ⟨ex, hx⟩ := (r1.1.st st2).atom h3
        rw [ex]
        obtain ⟨g1, g2⟩ := kn2.get n _ hA
        simp only [setfD, g1, ctx_fk, h1, gd_t, h2, if_true, R.bind_ok]
        have hc : ocl (.ins cl (putKs f ks) (putDs f d ks ds)) = true := cleans_put hx g2
        exact WF.okS (fl := .nx σh) (kn2.put hA hc) (st3_put hA) ((((fr.st st1).st st2).cell (lookup_mem hA)).keys putA_keys) q
      · exact q2.elim
    · exact q2.elim
  | .expr e => by
    intro σh A Q w b c S σ kn fr hbc hc hm
    simp only [wS] at w
    simp only [evS]
    split at w
    · have : c = b := by
        rcases hm with h | h
        · simp [noMut, E.isMeth] at h
        · exact h
      subst this
      refine meth_snd kn fr w hc fun d A1 S1 σ1 kn1 st1 fr1 hcl q1 => ?_
      exact WF.ok (fl := .nx σ1) kn1 fr1 q1
    · refine WF.bindE fr hc (snd_wE _ w kn fr (Nat.le_refl S.length)) fun d A1 d' S1 kn1 st1 r1 q1 => ?_
      exact WF.ok (fl := .nx σh) kn1 (fr.st st1) q1
  | .ret e => by
    intro σh A Q w b c S σ kn fr hbc hc hm
    simp only [wS] at w
    exact ret_snd kn fr hbc hc hm w
  | .retN => by
    intro σh A Q w b c S σ kn fr hbc hc hm
    simp only [wS] at w
    exact WF.ok (fl := .rt .non) kn (Rt.same rfl) w
  | .ifs t x y => by
    intro σh A Q w b c S σ kn fr hbc hc hm
    simp only [wS] at w
    simp only [evS]
    have hm2 : (noMuts x = true ∧ noMuts y = true) ∨ c = b := by simpa [noMut] using hm
    refine WF.bindE fr hc (rel := eqR) (Q1 := fun v A => brQ v (wSs T k x σh A Q) (wSs T k y σh A Q)) ?_ ?_
    · refine W2.bind (snd_wE t w kn fr (Nat.le_refl S.length)) fun d1 A1 d1' S1 kn1 st1 r1 q1 => ?_
      exact trR kn1 r1.1 q1
    · rintro v A1 v' S1 kn1 st1 rfl q1
      cases v with
      | true => exact WN.wf (snd_wSs x (q1.1 rfl) kn1 (fr.st st1) hbc (Nat.le_trans hc st1.le) (hm2.imp (·.1) id))
      | false => exact WN.wf (snd_wSs y (q1.2 rfl) kn1 (fr.st st1) hbc (Nat.le_trans hc st1.le) (hm2.imp (·.2) id))
  | .for_ tg (.seq e) bs => by
    intro σh A Q w b c S σ kn fr hbc hc hm
    simp only [wS] at w
    simp only [evS]
    have hm2 : noMuts bs = true ∨ c = b := by simpa [noMut] using hm
    refine WF.bindE fr hc (snd_wE e w kn fr (Nat.le_refl S.length)) fun d A1 d' S1 kn1 st1 r1 q1 => ?_
    obtain ⟨xs, e1, h1, q⟩ := itQ_of q1
    obtain ⟨h2, _⟩ := r1.1.items kn1 e1
    rw [h2]
    have hc1 := Nat.le_trans hc st1.le
    refine WN.wf ?_
    cases hv : isVw d with
    | false => exact for_snd (snd_wSs bs) hbc hm2 xs 0 rfl kn1 (fr.st st1) hc1 r1.1 (fun n z => by rw [hv] at z; cases z) q
    | true =>
      cases r1.1 with
      | same h => cases d <;> simp [isVw] at hv; simp [clean] at h
      | @view t m ys hcl hs ok lt =>
        by_cases ht : t = 0
        · have := lt ht
          exact for_snd (snd_wSs bs) hbc hm2 xs 0 rfl kn1 (fr.st st1) hc1 (.view hcl hs ok lt) (fun n _ z => by cases z; omega) q
        · have hnm : noMuts bs = true := by
            unfold itOk at h1
            split at h1
            · rename_i z; cases z; exact absurd rfl ht
            · exact h1
            · rename_i z1 z2; exact (z2 _ _ rfl).elim
          refine WN.weak (for_snd (c := S1.length) (snd_wSs bs) (Nat.le_trans hbc hc1) (.inl hnm) xs 0 rfl kn1 (fr.st st1) (Nat.le_refl _) (.view hcl hs ok lt) (fun n _ z => by cases z; exact ok.2.1) q) hc1
  | .for_ tg (.rng1 e) bs => by
    intro σh A Q w b c S σ kn fr hbc hc hm
    simp only [wS] at w
    simp only [evS]
    have hm2 : noMuts bs = true ∨ c = b := by simpa [noMut] using hm
    refine WF.bindE fr hc (snd_wE e w kn fr (Nat.le_refl S.length)) fun d A1 d' S1 kn1 st1 r1 q1 => ?_
    obtain ⟨j, rfl, h1, q⟩ := intQ_of q1
    obtain ⟨rfl, _⟩ := r1.1.atom rfl
    simp only [h1, if_true]
    exact WN.wf (fr_snd (snd_wSs bs) hbc hm2 _ 0 kn1 (fr.st st1) (Nat.le_trans hc st1.le) q)
  | .for_ tg (.rng2 x y) bs => by
    intro σh A Q w b c S σ kn fr hbc hc hm
    simp only [wS] at w
    simp only [evS]
    have hm2 : noMuts bs = true ∨ c = b := by simpa [noMut] using hm
    refine WF.bindE fr hc (snd_wE x w kn fr (Nat.le_refl S.length)) fun d1 A1 d1' S1 kn1 st1 r1 q1 => ?_
    refine WF.bindE (fr.st st1) (Nat.le_trans hc st1.le) (snd_wE y q1 kn1 (fr.st st1) (Nat.le_refl S1.length)) fun d2 A2 d2' S2 kn2 st2 r2 q2 => ?_
    obtain ⟨i, rfl, q⟩ := intQ_of q2
    obtain ⟨j, rfl, h1, h2, q⟩ := intQ_of q
    obtain ⟨rfl, _⟩ := r1.1.atom rfl
    obtain ⟨rfl, _⟩ := r2.1.atom rfl
    simp only [h1, h2, Bool.and_self, if_true]
    exact WN.wf (fr_snd (snd_wSs bs) hbc hm2 _ 0 kn2 ((fr.st st1).st st2) (Nat.le_trans (Nat.le_trans hc st1.le) st2.le) q)
  | .whl t bs => by
    intro σh A Q w b c S σ kn fr hbc hc hm
    simp only [wS] at w
    simp only [evS]
    have hm2 : noMuts bs = true ∨ c = b := by simpa [noMut] using hm
    exact WN.wf (wh_snd (snd_wSs bs) hbc hm2 _ kn fr hc w)
  | .pass => by
    intro σh A Q w b c S σ kn fr hbc hc hm
    simp only [wS] at w
    exact WF.ok (fl := .nx σh) kn fr w
  | .brk => by
    intro σh A Q w b c S σ kn fr hbc hc hm
    simp only [wS] at w
    exact WF.ok (fl := .bk σh) kn fr w
  | .ctn => by
    intro σh A Q w b c S σ kn fr hbc hc hm
    simp only [wS] at w
    exact WF.ok (fl := .ct σh) kn fr w
  | .never => by
    intro σh A Q w b c S σ kn fr hbc hc hm
    simp only [wS] at w
theorem snd_wSs : ∀ ss : Ev.Ss, SndSs T k ss
  | .nil => by
    intro σh A Q w b c S σ kn fr hbc hc hm
    simp only [wSs] at w
    exact WN.ok (fl := .nx σh) kn fr w
  | .cons s ss => by
    intro σh A Q w b c S σ kn fr hbc hc hm
    simp only [wSs] at w
    have hm2 : (noMut s = true ∧ noMuts ss = true) ∨ c = b := by simpa [noMuts] using hm
    have h := snd_wS s w kn fr hbc hc (hm2.imp (·.1) id)
    simp only [evSs]
    cases hr : evS (ctxOf T k) s σ S with
    | stuck => rw [hr] at h; exact h.elim
    | ex x fs S1 =>
      rw [hr] at h
      obtain ⟨A1, kn1, st1, fr1, xc, q⟩ := h
      exact ⟨.ex σh x fs, A1, kn1, st1, ⟨fr1, rfl, rfl, xc⟩, q⟩
    | ok fl' S1 =>
      rw [hr] at h
      obtain ⟨fl, A1, kn1, st1, r1, q⟩ := h
      rw [R.bindC_ok]
      refine WN.step ?_ st1
      cases fl <;> cases fl' <;> try exact r1.elim
      · exact snd_wSs ss q kn1 r1 hbc (Nat.le_trans hc st1.le) (hm2.imp (·.2) id)
      · exact WN.ok (fl := .rt _) kn1 r1 q
      · exact WN.ok (fl := .bk _) kn1 r1 q
      · exact WN.ok (fl := .ct _) kn1 r1 q
      · obtain ⟨g1, rfl, rfl, g4⟩ := r1
        exact WN.ok (fl := .ex _ _ _) kn1 ⟨g1, rfl, rfl, g4⟩ q
end
/-- a call, by its body -/
theorem call_body {F : Fn} {ds ds' : List D} {Q : QD} {S : Sto} (kn : Kn A S) (v : Vas A S ds ds') (h : wSs T k F.body (ds.map some ++ List.replicate (F.ns.length - ds.length) none) A (retF Q E)) :
    W2 (Rt S.length) A S Q E ((evSs (ctxOf T k) F.body (ds'.map some ++ List.replicate (F.ns.length - ds'.length) none) S).bind retK) := by
  have hl' : ds'.length = ds.length := by
    clear h
    induction v with
    | nil => rfl
    | cons _ _ ih => simp [ih]
  have fr : Fr2 S.length A S (ds.map some ++ List.replicate (F.ns.length - ds.length) none) (ds'.map some ++ List.replicate (F.ns.length - ds'.length) none) := by
    have key : ∀ {ds ds' : List D}, Vas A S ds ds' → ∀ (i : Nat) (d : D), ds[i]? = some d → ∃ d', ds'[i]? = some d' ∧ Va A S d d' := by
      intro ds ds' v
      induction v with
      | nil => intro i d h; simp at h
      | cons hv t ih =>
        intro i d h
        cases i with
        | zero => simp at h; subst h; exact ⟨_, rfl, hv⟩
        | succ i => exact ih i d (by simpa using h)
    have none1 : ∀ (m : Nat) (i : Nat) (d : D), (List.replicate m (none : Option D))[i]? ≠ some (some d) := fun m i d h => by
      rw [List.getElem?_replicate] at h
      split at h <;> cases h
    have at1 : ∀ (i : Nat) (d : D), (ds.map some ++ List.replicate (F.ns.length - ds.length) none)[i]? = some (some d) → i < ds.length ∧ ds[i]? = some d := fun i d e => by
      by_cases hi : i < ds.length
      · rw [List.getElem?_append_left (by simpa using hi), List.getElem?_map] at e
        refine ⟨hi, ?_⟩
        cases q : ds[i]? with
        | none => rw [q] at e; cases e
        | some z => rw [q] at e; cases e; rfl
      · rw [List.getElem?_append_right (by simpa using hi)] at e
        exact (none1 _ _ _ e).elim
    refine ⟨by simp [hl'], Nat.le_refl _, fun i d e => ?_, fun i j m xs ys _ h1 _ _ => ?_⟩
    · obtain ⟨hi, e1⟩ := at1 i d e
      obtain ⟨d', h1, h2⟩ := key v i d e1
      refine ⟨d', by rw [List.getElem?_append_left (by simp; omega), List.getElem?_map, h1]; rfl, ?_⟩
      cases h2 with
      | same hc => exact ⟨.same hc, fun t xs e => by subst e; simp [clean] at hc⟩
      | view hc hs ok => exact ⟨.view hc hs ok fun _ => ok.2.1, fun t xs e => by cases e; exact .inl rfl⟩
    · obtain ⟨hi, e1⟩ := at1 i _ h1
      obtain ⟨d', g1, g2⟩ := key v i _ e1
      cases g2 with
      | same hc => simp [clean] at hc
  have w := snd_wSs F.body h kn fr (Nat.le_refl _) (Nat.le_refl _) (.inr rfl)
  cases hr : evSs (ctxOf T k) F.body (ds'.map some ++ List.replicate (F.ns.length - ds'.length) none) S with
  | stuck => rw [hr] at w; exact w.elim
  | ex x fs S1 => rw [hr] at w; exact w.elim
  | ok fl' S1 =>
    rw [hr] at w
    obtain ⟨fl, A1, kn1, st1, r1, q⟩ := w
    rw [R.bind_ok]
    have st2 : St2 A S A1 S1 := ⟨st1.le, st1.keep, st1.grow⟩
    cases fl <;> cases fl' <;> try exact r1.elim
    · exact ⟨.non, A1, kn1, st2, .same rfl, q⟩
    · exact ⟨_, A1, kn1, st2, r1, q⟩
    · exact q.elim
    · exact q.elim
    · obtain ⟨g1, rfl, rfl, g4⟩ := r1
      exact ⟨A1, kn1, st2, g4, q⟩
theorem Vas.length : ∀ {ds ds' : List D} {S : Sto}, Vas A S ds ds' → ds'.length = ds.length
  | _, _, _, .nil => rfl
  | _, _, _, .cons _ t => by simp [Vas.length t]
theorem call_of {f : Str} {F : Fn} {ds : List D} {Q : QD} (hf : T.fns.lookup f = some F) (hl : ds.length = F.ps.length) (h : wSs T k F.body (ds.map some ++ List.replicate (F.ns.length - ds.length) none) A (retF Q E)) (hs : F.star = false := by rfl) : callQ T (k + 1) f ds A Q E := by
  intro x S ds' hx kn v
  have hb : x = F.base := by
    have := hx
    unfold Prg.hasA at this
    rw [hf] at this
    simpa [eq_comm] using this
  rw [callN_eq hf hb (by rw [v.length]; exact hl) hs]
  exact call_body kn v h
theorem Vas.split : ∀ {ds ds' : List D} {S : Sto} (n : Nat), Vas A S ds ds' → Vas A S (ds.take n) (ds'.take n) ∧ Vas A S (ds.drop n) (ds'.drop n)
  | _, _, _, 0, v => ⟨by simp; exact .nil, by simpa using v⟩
  | _, _, _, n + 1, .nil => ⟨.nil, .nil⟩
  | _, _, _, n + 1, .cons h t => ⟨.cons h (Vas.split n t).1, (Vas.split n t).2⟩
theorem Vas.app : ∀ {ds ds' es es' : List D} {S : Sto}, Vas A S ds ds' → Vas A S es es' → Vas A S (ds ++ es) (ds' ++ es')
  | _, _, _, _, _, .nil, v => v
  | _, _, _, _, _, .cons h t, v => .cons h (Vas.app t v)
theorem Vas.atoms : ∀ {ds ds' : List D} {S : Sto}, Vas A S ds ds' → ds.any isVw = false → ds' = ds ∧ cleans ds = true
  | _, _, _, .nil, _ => ⟨rfl, rfl⟩
  | d :: ds, _, _, .cons h t, hv => by
    simp only [List.any_cons, Bool.or_eq_false_iff] at hv
    obtain ⟨rfl, h2⟩ := Vas.atoms t hv.2
    cases h with
    | same h => exact ⟨rfl, by simp [cleans, h, h2]⟩
    | view => cases hv.1
/-- .. of a def with a star parameter; n parameters ahead of it -/
theorem call_star (n : Nat) {f : Str} {F : Fn} {ds : List D} {Q : QD} (hf : T.fns.lookup f = some F) (hs : F.star = true) (hn : F.ps.length = n + 1) (hl : n ≤ ds.length) (hm : ds.length ≤ lim) (hv : (ds.drop n).any isVw = false)
    (h : wSs T k F.body ((ds.take n ++ [D.tup (ds.drop n)]).map some ++ List.replicate (F.ns.length - (n + 1)) none) A (retF Q E)) : callQ T (k + 1) f ds A Q E := by
  intro x S ds' hx kn v
  have hb : x = F.base := by
    have := hx
    unfold Prg.hasA at this
    rw [hf] at this
    simpa [eq_comm] using this
  have hlen := v.length
  obtain ⟨v1, v2⟩ := v.split n
  obtain ⟨e2, c2⟩ := v2.atoms hv
  have ha : argsD F ds' = some (ds'.take n ++ [D.tup (ds.drop n)]) := by
    unfold argsD
    rw [hs, hn]
    simp only [Nat.add_sub_cancel]
    rw [if_pos ⟨by omega, by omega, by omega⟩, e2]
  have v3 : Vas A S (ds.take n ++ [D.tup (ds.drop n)]) (ds'.take n ++ [D.tup (ds.drop n)]) := v1.app (.cons (.same (by simpa [clean] using c2)) .nil)
  have hk : (ds.take n ++ [D.tup (ds.drop n)]).length = n + 1 := by simp; omega
  have := call_body (F := F) kn v3 (by rw [hk]; exact h)
  show W2 (Rt S.length) A S Q E (callN T (k + 1) x f ds' S)
  simp only [callN, hf, hb, if_true, ha]
  exact this
/-- a key one level lower -/
theorem call_low {f g : Str} {ds : List D} {Q : QD} (hf : T.fns.lookup f = none) (he : T.eks.lookup f = some (.low g)) (hg : T.hasA g g = true) (h : callQ T k g ds A Q E) : callQ T (k + 1) f ds A Q E := by
  intro x S ds' hx kn v
  show W2 (Rt S.length) A S Q E (callN T (k + 1) x f ds' S)
  simp only [callN, hf, he]
  exact h g S ds' hg kn v
def dropA (A : Ob) (n : Nat) : Ob := A.filter fun p => p.1 != n
/-- a class: its __init__ at a new instance, which is a value from then on -/
theorem call_mk {f b i : Str} {ds : List D} {Q : QD} (hf : T.fns.lookup f = none) (he : T.eks.lookup f = some (.mk b i true)) (hi : T.hasA i i = true)
    (h : ∀ n, n ≠ 0 → n ∉ A.map (·.1) → callQ T k i (.ref n :: ds) ((n, .ins b [] []) :: A) (fun v A' => v = .non ∧ ∃ ks xs, A'.lookup n = some (.ins b ks xs) ∧ Q (.ob b ks xs) (dropA A' n)) E) : callQ T (k + 1) f ds A Q E := by
  intro x S ds' hx kn v
  have hb : x = b := by
    have := hx
    unfold Prg.hasA at this
    rw [hf] at this
    simp only [he, decide_eq_true_eq] at this
    exact this.symm
  show W2 (Rt S.length) A S Q E (callN T (k + 1) x f ds' S)
  simp only [callN, hf, he, hb, if_true]
  have h0 : 0 < S.length := by
    obtain ⟨o, ho, _⟩ := kn.box.ex
    exact (List.getElem?_eq_some_iff.mp ho).1
  have hk : ∀ n, n ∈ A.map (·.1) → n < S.length := fun n hn => by
    obtain ⟨o, ho⟩ := mem_lookup hn
    exact (List.getElem?_eq_some_iff.mp (kn.get n o ho).1).1
  have hN : S.length ∉ A.map (·.1) := fun z => by have := hk _ z; omega
  have kn1 : Kn ((S.length, .ins b [] []) :: A) (S ++ [.ins b [] []]) := by
    refine ⟨?_, ?_, ?_, fun n o hn => ?_⟩
    · obtain ⟨o, ho, hx⟩ := kn.box.ex
      exact ⟨o, by rw [List.getElem?_append_left h0]; exact ho, hx⟩
    · simp only [List.map_cons, List.nodup_cons]; exact ⟨hN, kn.nd⟩
    · simp only [List.map_cons, List.mem_cons, not_or]; exact ⟨by omega, kn.n0⟩
    · simp only [List.lookup] at hn
      split at hn
      · rename_i hq
        simp only [beq_iff_eq] at hq
        subst hq
        cases hn
        exact ⟨by simp, rfl⟩
      · obtain ⟨g1, g2⟩ := kn.get n o hn
        exact ⟨by rw [List.getElem?_append_left (List.getElem?_eq_some_iff.mp g1).1]; exact g1, g2⟩
  have st1 : St2 A S ((S.length, .ins b [] []) :: A) (S ++ [.ins b [] []]) := ⟨by simp, fun n h _ _ => List.getElem?_append_left h, fun n h => by
    simp only [List.map_cons, List.mem_cons] at h
    rcases h with rfl | h
    · exact .inr (Nat.le_refl _)
    · exact .inl h⟩
  have v1 : Vas ((S.length, .ins b [] []) :: A) (S ++ [.ins b [] []]) (.ref S.length :: ds) (.ref S.length :: ds') := by
    refine .cons (.same rfl) ?_
    clear h
    induction v with
    | nil => exact .nil
    | cons hd t ih =>
      refine .cons ?_ ih
      cases hd with
      | same hc => exact .same hc
      | view hc hs ok => exact .view hc (by rw [List.getElem?_append_left ok.2.1]; exact hs) ⟨ok.1, by have := ok.2.1; simp; omega, by simp only [List.map_cons, List.mem_cons, not_or]; exact ⟨by have := ok.2.1; omega, ok.2.2⟩⟩
  have run := h S.length (by omega) hN i _ _ hi kn1 v1
  refine W2.step ?_ st1
  cases hr : callN T k i i (.ref S.length :: ds') (S ++ [.ins b [] []]) with
  | stuck => rw [hr] at run; exact run.elim
  | ex x fs S1 =>
    rw [hr] at run
    exact run
  | ok d S1 =>
    rw [hr] at run
    obtain ⟨d0, A1, kn2, st2, r2, rfl, ks, xs, hA, q⟩ := run
    obtain ⟨rfl, _⟩ := r2.atom rfl
    obtain ⟨g1, g2⟩ := kn2.get _ _ hA
    rw [R.bind_ok]
    simp only [mkK, frzD, g1]
    have hmem : ∀ m, m ∈ (dropA A1 S.length).map (·.1) ↔ m ∈ A1.map (·.1) ∧ m ≠ S.length := fun m => by
      unfold dropA
      simp only [List.mem_map, List.mem_filter, bne_iff_ne]
      constructor
      · rintro ⟨p, ⟨h1, h2⟩, rfl⟩; exact ⟨⟨p, h1, rfl⟩, h2⟩
      · rintro ⟨⟨p, h1, rfl⟩, h2⟩; exact ⟨p, ⟨h1, h2⟩, rfl⟩
    have hlk : ∀ (B : Ob) (m : Nat) (o : O), (dropA B S.length).lookup m = some o → m ≠ S.length ∧ B.lookup m = some o := fun B m o => by
      unfold dropA
      induction B with
      | nil => intro h; simp at h
      | cons p B ih =>
        intro h
        by_cases hp : p.1 = S.length
        · rw [List.filter_cons_of_neg (by simpa using hp)] at h
          obtain ⟨h1, h2⟩ := ih h
          refine ⟨h1, ?_⟩
          obtain ⟨p1, p2⟩ := p
          simp only at hp
          subst hp
          simp only [List.lookup]
          rw [show (m == S.length) = false from by simpa using h1]
          exact h2
        · rw [List.filter_cons_of_pos (by simpa using hp)] at h
          obtain ⟨p1, p2⟩ := p
          simp only [List.lookup] at h ⊢
          split at h
          · rename_i hq
            simp only [beq_iff_eq] at hq
            cases h
            exact ⟨by rw [hq]; exact hp, rfl⟩
          · exact ih h
    have hS : S.length < S1.length := (List.getElem?_eq_some_iff.mp g1).1
    refine ⟨.ob b ks xs, dropA A1 S.length, ⟨?_, ?_, fun z => kn2.n0 ((hmem 0).mp z).1, fun m o hm => ?_⟩, ⟨by have := st2.le; simpa using this, fun m h1 h2 h3 => ?_, fun m hm => ?_⟩, .same g2, q⟩
    · obtain ⟨o, ho, hx⟩ := kn2.box.ex
      exact ⟨o, by rw [List.getElem?_set_ne (by omega)]; exact ho, hx⟩
    · have : ((dropA A1 S.length).map (·.1)).Sublist (A1.map (·.1)) := (List.filter_sublist).map _
      exact this.nodup kn2.nd
    · obtain ⟨h1, h2⟩ := hlk A1 m o hm
      obtain ⟨g3, g4⟩ := kn2.get m o h2
      exact ⟨by rw [List.getElem?_set_ne (fun z => h1 z.symm)]; exact g3, g4⟩
    · simp only [List.map_cons, List.mem_cons, not_or] at h3
      rw [List.getElem?_set_ne (fun z => h3.1 z.symm)]
      exact st2.keep m h1 h2 (by simp only [List.map_cons, List.mem_cons, not_or]; exact h3)
    · obtain ⟨h1, h2⟩ := (hmem m).mp hm
      exact st2.grow m h1
end
end Ev

namespace Ev
open PySem L2
/-! ### the evaluator, a step at a time: what is to come stands in a name -/
def k2 (f : D → D → Sto → R D) (g : Sto → R D) (x : D) (S : Sto) : R D := (g S).bind (f x)
def negK (x : D) (S : Sto) : R D := match x with | .int i => .ok (.int (-i)) S | _ => .stuck
def notK (x : D) (S : Sto) : R D := match x with | .bl b => .ok (.bl (!b)) S | _ => .stuck
def chK1 (o o2 : COp) (g h : Sto → R D) (x : D) (S : Sto) : R D := (g S).bind fun y S => (cmpD o x y S).bind fun k S => match k with
    | .bl true => (h S).bind fun z S => cmpD o2 y z S
    | .bl false => .ok (.bl false) S
    | _ => .stuck
def chK2 (o2 : COp) (h : Sto → R D) (y : D) (k : D) (S : Sto) : R D := match k with
    | .bl true => (h S).bind (cmpD o2 y)
    | .bl false => .ok (.bl false) S
    | _ => .stuck
def chK3 (o o2 : COp) (h : Sto → R D) (x y : D) (S : Sto) : R D := (cmpD o x y S).bind (chK2 o2 h y)
def andK (g : Sto → R D) (x : D) (S : Sto) : R D := match x with | .bl true => g S | .bl false => .ok (.bl false) S | _ => .stuck
def orK (g : Sto → R D) (x : D) (S : Sto) : R D := match x with | .bl true => .ok (.bl true) S | .bl false => g S | _ => .stuck
def iteK {α : Type} (f g : Sto → R α) (b : Bool) (S : Sto) : R α := match b with | true => f S | false => g S
def tupK (vs : List D) (S : Sto) : R D := if vs.length ≤ lim then .ok (.tup vs) S else .stuck
def lstK (vs : List D) (S : Sto) : R D := if vs.length ≤ lim then .ok (.lv vs) S else .stuck
def lstMK (vs : List D) (S : Sto) : R D := if vs.length ≤ lim then thaw (.lv vs) S else .stuck
def slK1 (g h : Sto → R (Option Int)) (x : D) (S : Sto) : R D := (g S).bind fun l S => (h S).bind fun u S => slD x l u S
def slK2 (h : Sto → R (Option Int)) (x : D) (l : Option Int) (S : Sto) : R D := (h S).bind fun u S => slD x l u S
def bltMK (f : Blt) (vs : List D) (S : Sto) : R D := (bltD f vs S).bind thaw
def methK (m : Mth) (g : Sto → R (List D)) (o : D) (S : Sto) : R D := match listOf S o with
    | some _ => (g S).bind (methD m o)
    | none => .stuck
def lcK (elt cond : Sg → Sto → R D) (tg : Tg) (σ : Sg) (d : D) (S : Sto) : R D := match items S d with
    | some xs => lcGo d tg σ cond elt (xs.length + 1) 0 [] S
    | none => .stuck
def lcK1 (elt cond : Sg → Sto → R D) (tg : Tg) (σ : Sg) (d : D) (S : Sto) : R D := match d with
    | .int j => if rngOk j then lcRg tg σ cond elt 0 j.toNat 0 [] S else .stuck
    | _ => .stuck
def consK (g : Sto → R (List D)) (x : D) (S : Sto) : R (List D) := (g S).bind fun xs S => .ok (x :: xs) S
def asgK (tg : Tg) (σ : Sg) (x : D) (S : Sto) : R Fl := match setTg tg x σ with
    | some σ1 => .ok (.nx σ1) S
    | none => .stuck
def stK1 (g h : Sto → R D) (σ : Sg) (x : D) (S : Sto) : R Fl := (g S).bind fun o S => (h S).bind fun i S => (setiD o i x S).bind fun _ S => .ok (.nx σ) S
def stK2 (h : Sto → R D) (σ : Sg) (x o : D) (S : Sto) : R Fl := (h S).bind fun i S => (setiD o i x S).bind fun _ S => .ok (.nx σ) S
def stK3 (σ : Sg) (x o i : D) (S : Sto) : R Fl := (setiD o i x S).bind fun _ S => .ok (.nx σ) S
def stK4 (σ : Sg) (_ : Unit) (S : Sto) : R Fl := .ok (.nx σ) S
def expK (σ : Sg) (_ : D) (S : Sto) : R Fl := .ok (.nx σ) S
def rtK (x : D) (S : Sto) : R Fl := .ok (.rt x) S
def forK (tg : Tg) (body : Sg → Sto → R Fl) (σ : Sg) (d : D) (S : Sto) : R Fl := match items S d with
    | some xs => forGo d tg body (xs.length + 1) 0 σ S
    | none => .stuck
def forK1 (tg : Tg) (body : Sg → Sto → R Fl) (σ : Sg) (d : D) (S : Sto) : R Fl := match d with
    | .int j => if rngOk j then forRg tg body 0 j.toNat 0 σ S else .stuck
    | _ => .stuck
def varK (o : Option (Option D)) (S : Sto) : R D := match o with
    | some (some d) => .ok d S
    | _ => .stuck
section
variable {Γ : Ctx} {σ : Sg} {S : Sto} {a b c t e lo hi elt cond : E} {es : Es} {op : BOp} {o o2 : COp} {x y : D} {g h : Sto → R D} {i : Nat} {tg : Tg} {d : D}
theorem eE_var : evE Γ (.var i) σ S = varK σ[i]? S := by rw [evE.eq_def]; rfl
theorem varK_s : varK (some (some d)) S = .ok d S := (rfl)
theorem eE_glob {z : Str} : evE Γ (.glob z) σ S = ofOpt S (Γ.con z) := by rw [evE.eq_def]
theorem eE_ty {z : String} : evE Γ (.ty z) σ S = .ok (.ty z) S := by rw [evE.eq_def]
theorem eE_int {z : Int} : evE Γ (.cint z) σ S = .ok (.int z) S := by rw [evE.eq_def]
theorem eE_str {z : Str} : evE Γ (.cstr z) σ S = .ok (.str z) S := by rw [evE.eq_def]
theorem eE_bl {z : Bool} : evE Γ (.cbl z) σ S = .ok (.bl z) S := by rw [evE.eq_def]
theorem eE_non : evE Γ .cnon σ S = .ok .non S := by rw [evE.eq_def]
theorem eE_bin : evE Γ (.bin op a b) σ S = (evE Γ a σ S).bind (k2 (binD op) (evE Γ b σ)) := by rw [evE.eq_def]; rfl
theorem eE_binM : evE Γ (.binM a b) σ S = (evE Γ a σ S).bind (k2 catM (evE Γ b σ)) := by rw [evE.eq_def]; rfl
theorem eE_cmp : evE Γ (.cmp o a b) σ S = (evE Γ a σ S).bind (k2 (cmpD o) (evE Γ b σ)) := by rw [evE.eq_def]; rfl
theorem eE_ix : evE Γ (.ix a b) σ S = (evE Γ a σ S).bind (k2 ixD (evE Γ b σ)) := by rw [evE.eq_def]; rfl
theorem k2_ap {f : D → D → Sto → R D} : k2 f g x S = (g S).bind (f x) := (rfl)
theorem eE_neg : evE Γ (.neg a) σ S = (evE Γ a σ S).bind negK := by rw [evE.eq_def]; rfl
theorem negK_i {z : Int} : negK (.int z) S = .ok (.int (-z)) S := (rfl)
theorem eE_not : evE Γ (.not a) σ S = (evE Γ a σ S).bind notK := by rw [evE.eq_def]; rfl
theorem notK_b {z : Bool} : notK (.bl z) S = .ok (.bl (!z)) S := (rfl)
theorem eE_chain : evE Γ (.chain o o2 a b c) σ S = (evE Γ a σ S).bind (chK1 o o2 (evE Γ b σ) (evE Γ c σ)) := by rw [evE.eq_def]; rfl
theorem chK1_ap : chK1 o o2 g h x S = (g S).bind (chK3 o o2 h x) := (rfl)
theorem chK3_ap : chK3 o o2 h x y S = (cmpD o x y S).bind (chK2 o2 h y) := (rfl)
theorem chK2_t : chK2 o2 h y (.bl true) S = (h S).bind (cmpD o2 y) := (rfl)
theorem chK2_f : chK2 o2 h y (.bl false) S = .ok (.bl false) S := (rfl)
theorem eE_and1 : evE Γ (.and1 a) σ S = evE Γ a σ S := by rw [evE.eq_def]
theorem eE_or1 : evE Γ (.or1 a) σ S = evE Γ a σ S := by rw [evE.eq_def]
theorem eE_and2 : evE Γ (.and2 a b) σ S = (evE Γ a σ S).bind (andK (evE Γ b σ)) := by rw [evE.eq_def]; rfl
theorem andK_t : andK g (.bl true) S = g S := (rfl)
theorem andK_f : andK g (.bl false) S = .ok (.bl false) S := (rfl)
theorem eE_or2 : evE Γ (.or2 a b) σ S = (evE Γ a σ S).bind (orK (evE Γ b σ)) := by rw [evE.eq_def]; rfl
theorem orK_t : orK g (.bl true) S = .ok (.bl true) S := (rfl)
theorem orK_f : orK g (.bl false) S = g S := (rfl)
theorem eE_ife : evE Γ (.ife t a b) σ S = ((evE Γ t σ S).bind tr).bind (iteK (evE Γ a σ) (evE Γ b σ)) := by rw [evE.eq_def]; rfl
theorem iteK_t {α : Type} {f g : Sto → R α} : iteK f g true S = f S := (rfl)
theorem iteK_f {α : Type} {f g : Sto → R α} : iteK f g false S = g S := (rfl)
theorem eE_tup : evE Γ (.tup es) σ S = (evEs Γ es σ S).bind tupK := by rw [evE.eq_def]; rfl
theorem eE_lst : evE Γ (.lst es) σ S = (evEs Γ es σ S).bind lstK := by rw [evE.eq_def]; rfl
theorem eE_lstM : evE Γ (.lstM es) σ S = (evEs Γ es σ S).bind lstMK := by rw [evE.eq_def]; rfl
theorem tupK_1 : tupK [x] S = .ok (.tup [x]) S := (rfl)
theorem tupK_2 : tupK [x, y] S = .ok (.tup [x, y]) S := (rfl)
theorem lstK_0 : lstK [] S = .ok (.lv []) S := (rfl)
theorem lstK_1 : lstK [x] S = .ok (.lv [x]) S := (rfl)
theorem lstK_n {vs : List D} (h : vs.length ≤ lim) : lstK vs S = .ok (.lv vs) S := by unfold lstK; rw [if_pos h]
theorem lstMK_n {vs : List D} (h : vs.length ≤ lim) : lstMK vs S = .ok (.ref S.length) (S ++ [.lst vs]) := by unfold lstMK; rw [if_pos h]; rfl
theorem eE_sl : evE Γ (.sl a lo hi) σ S = (evE Γ a σ S).bind (slK1 (evPart lo.isNop (evE Γ lo σ)) (evPart hi.isNop (evE Γ hi σ))) := by rw [evE.eq_def]; rfl
theorem slK1_ap {g h : Sto → R (Option Int)} : slK1 g h x S = (g S).bind (slK2 h x) := (rfl)
theorem slK2_ap {h : Sto → R (Option Int)} {l : Option Int} : slK2 h x l S = (h S).bind (slD x l) := (rfl)
theorem part_no {f : Sto → R D} : evPart true f S = .ok none S := (rfl)
theorem part_some {f : Sto → R D} {z : Int} {S' : Sto} (h : f S = .ok (.int z) S') : evPart false f S = .ok (some z) S' := by simp [evPart, h]
theorem eE_call {z f : Str} : evE Γ (.call z f es) σ S = gd (Γ.ok z f) ((evEs Γ es σ S).bind (Γ.call z f)) := by rw [evE.eq_def]
theorem eE_blt {f : Blt} : evE Γ (.blt f es) σ S = (evEs Γ es σ S).bind (bltD f) := by rw [evE.eq_def]
theorem eE_bltM {f : Blt} : evE Γ (.bltM f es) σ S = (evEs Γ es σ S).bind (bltMK f) := by rw [evE.eq_def]; rfl
theorem bltMK_ap {f : Blt} {vs : List D} : bltMK f vs S = (bltD f vs S).bind thaw := (rfl)
theorem thaw_lv {vs : List D} : thaw (.lv vs) S = .ok (.ref S.length) (S ++ [.lst vs]) := (rfl)
theorem eE_meth {m : Mth} : evE Γ (.meth m a es) σ S = (evE Γ a σ S).bind (methK m (evEs Γ es σ)) := by rw [evE.eq_def]; rfl
theorem methK_ref {m : Mth} {g : Sto → R (List D)} {n : Nat} {xs : List D} (hs : S[n]? = some (.lst xs)) : methK m g (.ref n) S = (g S).bind (methD m (.ref n)) := by simp [methK, listOf, hs]
theorem eE_lcS : evE Γ (.lc elt tg (.seq e) cond) σ S = (evE Γ e σ S).bind (lcK (evE Γ elt) (evE Γ cond) tg σ) := by rw [evE.eq_def]; rfl
theorem eE_lcR : evE Γ (.lc elt tg (.rng1 e) cond) σ S = (evE Γ e σ S).bind (lcK1 (evE Γ elt) (evE Γ cond) tg σ) := by rw [evE.eq_def]; rfl
theorem eE_frz : evE Γ (.frz a) σ S = (evE Γ a σ S).bind frzD := by rw [evE.eq_def]
theorem eE_rev : evE Γ (.rev a) σ S = (evE Γ a σ S).bind revD := by rw [evE.eq_def]
theorem rev_lv {vs : List D} : revD (.lv vs) S = .ok (.lv vs.reverse) S := (rfl)
theorem frz_ref {n : Nat} {xs : List D} (hs : S[n]? = some (.lst xs)) : frzD (.ref n) S = .ok (.lv xs) (S.set n .dead) := by simp [frzD, hs]
theorem eEs_nil : evEs Γ .nil σ S = .ok [] S := by rw [evEs.eq_def]
theorem eEs_cons : evEs Γ (.cons e es) σ S = (evE Γ e σ S).bind (consK (evEs Γ es σ)) := by rw [evEs.eq_def]; rfl
def cnsK (x : D) (xs : List D) (S : Sto) : R (List D) := .ok (x :: xs) S
theorem consK_ap {g : Sto → R (List D)} : consK g x S = (g S).bind (cnsK x) := (rfl)
theorem cnsK_ap {xs : List D} : cnsK x xs S = .ok (x :: xs) S := (rfl)
variable {s : Ev.S} {ss p q : Ss}
theorem eSs_nil : evSs Γ .nil σ S = .ok (.nx σ) S := by rw [evSs.eq_def]
theorem eSs_cons : evSs Γ (.cons s ss) σ S = (evS Γ s σ S).bindC σ (seqK (evSs Γ ss)) := by rw [evSs.eq_def]
theorem eS_asg : evS Γ (.asg tg e) σ S = (evE Γ e σ S).bind (asgK tg σ) := by rw [evS.eq_def]; rfl
theorem asgK_nm : asgK (.nm i) σ x S = .ok (.nx (σ.set i (some x))) S := (rfl)
theorem eS_seti : evS Γ (.seti a b e) σ S = (evE Γ e σ S).bind (stK1 (evE Γ a σ) (evE Γ b σ) σ) := by rw [evS.eq_def]; rfl
theorem stK1_ap : stK1 g h σ x S = (g S).bind (stK2 h σ x) := (rfl)
theorem stK2_ap : stK2 h σ x y S = (h S).bind (stK3 σ x y) := (rfl)
theorem stK3_ap : stK3 σ x y d S = (setiD y d x S).bind (stK4 σ) := (rfl)
theorem stK4_ap {u : Unit} : stK4 σ u S = .ok (.nx σ) S := (rfl)
theorem eS_expr : evS Γ (.expr e) σ S = (evE Γ e σ S).bind (expK σ) := by rw [evS.eq_def]; rfl
theorem expK_ap : expK σ x S = .ok (.nx σ) S := (rfl)
theorem eS_ret : evS Γ (.ret e) σ S = (evE Γ e σ S).bind rtK := by rw [evS.eq_def]; rfl
theorem rtK_ap : rtK x S = .ok (.rt x) S := (rfl)
theorem eS_ifs : evS Γ (.ifs t p q) σ S = ((evE Γ t σ S).bind tr).bind (iteK (evSs Γ p σ) (evSs Γ q σ)) := by rw [evS.eq_def]; rfl
theorem eS_forS : evS Γ (.for_ tg (.seq e) p) σ S = (evE Γ e σ S).bind (forK tg (evSs Γ p) σ) := by rw [evS.eq_def]; rfl
theorem eS_forR : evS Γ (.for_ tg (.rng1 e) p) σ S = (evE Γ e σ S).bind (forK1 tg (evSs Γ p) σ) := by rw [evS.eq_def]; rfl
theorem eS_whl : evS Γ (.whl t p) σ S = whGo (evE Γ t) (evSs Γ p) Γ.w σ S := by rw [evS.eq_def]
theorem eS_pass : evS Γ .pass σ S = .ok (.nx σ) S := by rw [evS.eq_def]
theorem eS_ctn : evS Γ .ctn σ S = .ok (.ct σ) S := by rw [evS.eq_def]
theorem eS_brk : evS Γ .brk σ S = .ok (.bk σ) S := by rw [evS.eq_def]
theorem eS_retN : evS Γ .retN σ S = .ok (.rt .non) S := by rw [evS.eq_def]
end
/-! ### loops as folds -/
/-- a loop over range(n), by an invariant of the turn, the slots and the store -/
theorem forRg_inv {tg : Tg} {body : Sg → Sto → R Fl} {lo : Int} (P : Nat → Sg → Sto → Prop) {N : Nat} (hs : ∀ i σ S, i < N → P i σ S → ∃ σ1, setTg tg (.int (lo + i)) σ = some σ1 ∧ ((∃ σ2 S2, body σ1 S = .ok (.nx σ2) S2 ∧ P (i + 1) σ2 S2))) :
    ∀ n i σ S, i + n = N → P i σ S → ∃ σ' S', forRg tg body lo n i σ S = .ok (.nx σ') S' ∧ P N σ' S'
  | 0, i, σ, S, e, p => ⟨σ, S, rfl, by have : i = N := by omega
                                       subst this; exact p⟩
  | n + 1, i, σ, S, e, p => by
    obtain ⟨σ1, e1, σ2, S2, e2, p2⟩ := hs i σ S (by omega) p
    obtain ⟨σ', S', e3, p3⟩ := forRg_inv P hs n (i + 1) σ2 S2 (by omega) p2
    refine ⟨σ', S', ?_, p3⟩
    simp only [forRg, e1, e2, R.bind_ok, loopK_nx, e3]
theorem forK1_nat {tg : Tg} {body : Sg → Sto → R Fl} {σ : Sg} {S : Sto} {n : Nat} (h : n < 2 ^ 62) : forK1 tg body σ (.int n) S = forRg tg body 0 n 0 σ S := by
  have : rngOk (n : Int) = true := by
    unfold rngOk
    rw [decide_eq_true_eq]
    have : ((2 : Int) ^ 62) = ((2 ^ 62 : Nat) : Int) := by norm_cast
    omega
  simp [forK1, this]
end Ev
namespace Ev
open PySem L2
theorem lcK_pure {elt cond : Sg → Sto → R D} {tg : Tg} {σ : Sg} {d : D} {S : Sto} {xs : List D} (p : D → Bool) (f : D → D) (hi : items S d = some xs) (hl : xs.length ≤ lim)
    (h : ∀ x, x ∈ xs → ∃ σ1, setTg tg x (wipeD σ tg.slots) = some σ1 ∧ cond σ1 S = .ok (.bl (p x)) S ∧ (p x = true → elt σ1 S = .ok (f x) S)) : lcK elt cond tg σ d S = .ok (.lv ((xs.filter p).map f)) S := by
  unfold lcK
  simp only [hi]
  rw [lcGo_pure hi hl h (xs.length + 1) 0 [] (by omega) (by omega) (by simp)]
  simp
end Ev
namespace Ev
open PySem L2
def partK (x : D) (S : Sto) : R (Option Int) := match x with
  | .int i => .ok (some i) S
  | _ => .stuck
theorem part_f {f : Sto → R D} {S : Sto} : evPart false f S = (f S).bind partK := by unfold evPart; rfl
theorem partK_i {i : Int} {S : Sto} : partK (.int i) S = .ok (some i) S := (rfl)
theorem sl_strD {x : Str} (h : x.length ≤ lim) (lo hi : Option Int) (S : Sto) : slD (.str x) lo hi S = .ok (.str (cutS x lo hi)) S := by simp [slD, h]
theorem cutS_list (x : Str) (lo hi : Option Int) : (cutS x lo hi).cps.toList = (x.cps.toList.drop (HT.sIx x.length 0 lo)).take (HT.sIx x.length x.length hi - HT.sIx x.length 0 lo) := by simp [cutS]
theorem cutS_len (x : Str) (lo hi : Option Int) : (cutS x lo hi).length ≤ x.length := by
  have h1 : (cutS x lo hi).length = (cutS x lo hi).cps.toList.length := by simp [Str.length]
  have h2 : x.length = x.cps.toList.length := by simp [Str.length]
  rw [h1, cutS_list, List.length_take, List.length_drop, ← h2]
  omega
end Ev
namespace Ev
open PySem L2
theorem lcRg_pure {tg : Tg} {σ : Sg} {cond elt : Sg → Sto → R D} {lo : Int} {S : Sto} {f : Nat → D} {N : Nat} (h : ∀ i, i < N → ∃ σ1, setTg tg (.int (lo + i)) (wipeD σ tg.slots) = some σ1 ∧ cond σ1 S = .ok (.bl true) S ∧ elt σ1 S = .ok (f i) S) :
    ∀ n i acc, i + n = N → acc.length + n ≤ lim → lcRg tg σ cond elt lo n i acc S = .ok (.lv (acc ++ (List.range' i n).map f)) S
  | 0, i, acc, _, _ => by simp [lcRg]
  | n + 1, i, acc, e, hl => by
    obtain ⟨σ1, e1, e2, e3⟩ := h i (by omega)
    unfold lcRg
    simp only [e1, e2, e3, R.nox_ok, R.bind_ok, tr_bl]
    rw [if_pos (by omega), lcRg_pure h n (i + 1) _ (by omega) (by simp; omega), List.range'_succ, List.map_cons, List.append_assoc]
    rfl
theorem lcK1_pure {tg : Tg} {σ : Sg} {cond elt : Sg → Sto → R D} {S : Sto} {n : Nat} (f : Nat → D) (hn : n ≤ lim) (h : ∀ i, i < n → ∃ σ1, setTg tg (.int (0 + (i : Int))) (wipeD σ tg.slots) = some σ1 ∧ cond σ1 S = .ok (.bl true) S ∧ elt σ1 S = .ok (f i) S) :
    lcK1 elt cond tg σ (.int n) S = .ok (.lv ((List.range n).map f)) S := by
  have hlim : lim = 100000 := rfl
  have hr : rngOk (n : Int) = true := by
    unfold rngOk
    rw [decide_eq_true_eq]
    have : ((2 : Int) ^ 62) = ((2 ^ 62 : Nat) : Int) := by norm_cast
    omega
  have e : lcK1 elt cond tg σ (.int n) S = lcRg tg σ cond elt 0 n 0 [] S := by simp [lcK1, hr]
  rw [e, lcRg_pure h n 0 [] (by omega) (by simp; omega), List.range_eq_range']
  simp
theorem eS_rz {Γ : Ctx} {σ : Sg} {S : Sto} {y : Str} {es : Es} : evS Γ (.raise_ y es) σ S = gd (Γ.rok y) ((evEs Γ es σ S).bind (raiseD Γ y)) := by rw [evS.eq_def]
theorem eS_rz0 {Γ : Ctx} {σ : Sg} {S : Sto} {y : Str} : evS Γ (.raise0 y) σ S = raise0D Γ y S := by rw [evS.eq_def]
theorem eS_try {Γ : Ctx} {σ : Sg} {S : Sto} {b : Ss} {c : Str} {i : Nat} {h : HE} : evS Γ (.try_ b c i h) σ S = gd (Γ.tok c) ((evSs Γ b σ S).bind (tryK Γ c i h)) := by rw [evS.eq_def]
end Ev

namespace Ev
open PySem L2
/-! ### loops over sequences -/
theorem forGo_inv {d : D} {tg : Tg} {body : Sg → Sto → R Fl} {xs : List D} (P : Nat → Sg → Sto → Prop) (hi : ∀ i σ S, P i σ S → items S d = some xs)
    (hs : ∀ i σ S (h : i < xs.length), P i σ S → ∃ σ1, setTg tg xs[i] σ = some σ1 ∧ ∃ σ2 S2, body σ1 S = .ok (.nx σ2) S2 ∧ P (i + 1) σ2 S2) :
    ∀ n i σ S, i + n = xs.length + 1 → i ≤ xs.length → P i σ S → ∃ σ' S', forGo d tg body n i σ S = .ok (.nx σ') S' ∧ P xs.length σ' S'
  | 0, i, σ, S, e, h2, p => by omega
  | n + 1, i, σ, S, e, h2, p => by
    unfold forGo
    simp only [hi i σ S p]
    by_cases hx : i < xs.length
    · rw [List.getElem?_eq_getElem hx]
      obtain ⟨σ1, e1, σ2, S2, e2, p2⟩ := hs i σ S hx p
      simp only [e1, e2, R.bind_ok, loopK_nx]
      exact forGo_inv P hi hs n (i + 1) σ2 S2 (by omega) (by omega) p2
    · rw [List.getElem?_eq_none (by omega)]
      have : i = xs.length := by omega
      subst this
      exact ⟨σ, S, rfl, p⟩
theorem forK_inv {d : D} {tg : Tg} {body : Sg → Sto → R Fl} {xs : List D} {σ : Sg} {S : Sto} (P : Nat → Sg → Sto → Prop) (hi : ∀ i σ S, P i σ S → items S d = some xs)
    (hs : ∀ i σ S (h : i < xs.length), P i σ S → ∃ σ1, setTg tg xs[i] σ = some σ1 ∧ ∃ σ2 S2, body σ1 S = .ok (.nx σ2) S2 ∧ P (i + 1) σ2 S2) (p : P 0 σ S) :
    ∃ σ' S', forK tg body σ d S = .ok (.nx σ') S' ∧ P xs.length σ' S' := by
  unfold forK
  simp only [hi 0 σ S p]
  exact forGo_inv P hi hs (xs.length + 1) 0 σ S (by omega) (by omega) p
/-! ### pairs of numbers -/
def pr (p : Int × Int) : D := .tup [.int p.1, .int p.2]
def pl (l : List (Int × Int)) : List D := l.map pr
theorem pl_len (l : List (Int × Int)) : (pl l).length = l.length := List.length_map ..
theorem pl_app (l m : List (Int × Int)) : pl (l ++ m) = pl l ++ pl m := List.map_append ..
theorem pl_at {l : List (Int × Int)} {i : Nat} (h : i < (pl l).length) : (pl l)[i] = pr (l[i]'(by rw [pl_len] at h; exact h)) := List.getElem_map ..
theorem pr_0 (p : Int × Int) (S : Sto) : ixD (pr p) (.int 0) S = .ok (.int p.1) S := (rfl)
theorem pr_1 (p : Int × Int) (S : Sto) : ixD (pr p) (.int 1) S = .ok (.int p.2) S := (rfl)
def pLt (p q : Int × Int) : Bool := decide (p.1 < q.1 ∨ p.1 = q.1 ∧ p.2 < q.2)
theorem pr_lt (p q : Int × Int) (S : Sto) : cmpD .lt (pr p) (pr q) S = .ok (.bl (pLt p q)) S := by
  have : HT.lexLt [p.1, p.2] [q.1, q.2] = pLt p q := by
    simp [HT.lexLt, pLt]
    by_cases h : p.1 = q.1
    · by_cases h2 : p.2 < q.2
      · have : ¬ p.2 = q.2 := by omega
        simp [h, h2, this]
      · simp [h, h2]
    · simp [h]
  simp [cmpD, cmpO, ltD, pr, intsOf, this]
def plP (l : List (Int × Int)) : List PyData := l.map fun p => .tuple [.int p.1, .int p.2]
theorem toPys_pl (l : List (Int × Int)) : toPys (pl l) = some (plP l) := by
  induction l with
  | nil => rfl
  | cons p r ih =>
    have : toPy (pr p) = some (.tuple [.int p.1, .int p.2]) := by simp [pr, toPy, toPys]
    show toPys (pr p :: pl r) = _
    simp [toPys, this, ih, plP]
theorem plP_shape (l : List (Int × Int)) : PyData.canLayAll0 (plP l) = true ∧ PyData.depthAll (plP l) ≤ 1 := by
  induction l with
  | nil => exact ⟨rfl, by decide⟩
  | cons p r ih =>
    obtain ⟨h1, h2⟩ := ih
    refine ⟨?_, ?_⟩
    · show PyData.canLayAll0 (_ :: plP r) = true
      simp [PyData.canLayAll0, PyData.canLay0, h1]
    · show PyData.depthAll (_ :: plP r) ≤ 1
      simp [PyData.depthAll, PyData.depth]
      omega
theorem shaped_pl (l : List (Int × Int)) : SeqAt.shaped (.list (plP l)) = true := by
  obtain ⟨h1, h2⟩ := plP_shape l
  simp [SeqAt.shaped, PyData.canLay0, PyData.depth, h1]
  omega
theorem eq_nil {d : D} {l : List (Int × Int)} {S : Sto} (h : topPy S d = some (.list (plP l))) (hs : eqS d (.lv []) = none) : cmpD .eq d (.lv []) S = .ok (.bl l.isEmpty) S := by
  have hn : topPy S (.lv []) = some (.list (plP [])) := by simp [topPy, toPy, toPys, plP]
  have e : eqD S d (.lv []) = some l.isEmpty := by
    unfold eqD
    rw [hs]
    simp only [h, hn, shaped_pl, Bool.and_self, if_true]
    cases l <;> simp [PyData.eqv, PyData.eqvAll, plP]
  simp [cmpD, cmpO, e]
theorem top_lv (l : List (Int × Int)) (S : Sto) : topPy S (.lv (pl l)) = some (.list (plP l)) := by simp [topPy, toPy, toPys_pl]
theorem top_ref {l : List (Int × Int)} {S : Sto} {n : Nat} (h : S[n]? = some (.lst (pl l))) : topPy S (.ref n) = some (.list (plP l)) := by simp [topPy, h, toPys_pl]
theorem eq_nil_ref {l : List (Int × Int)} {S : Sto} {n : Nat} (h : S[n]? = some (.lst (pl l))) : cmpD .eq (.ref n) (.lv []) S = .ok (.bl l.isEmpty) S := eq_nil (top_ref h) rfl
theorem ne_nil_lv (l : List (Int × Int)) (S : Sto) : cmpD .ne (.lv (pl l)) (.lv []) S = .ok (.bl (!l.isEmpty)) S := by
  have e := eq_nil (top_lv l S) rfl
  simp only [cmpD, cmpO] at e ⊢
  cases h : eqD S (.lv (pl l)) (.lv []) with
  | none => rw [h] at e; simp [ofOpt, R.bind] at e
  | some k => rw [h] at e; simp at e; simp [e]
/-! ### lists in the store -/
theorem get_app {S : Sto} {o : O} : (S ++ [o])[S.length]? = some o := by simp
theorem app_ref {n : Nat} {xs : List D} {d : D} {S : Sto} (hs : S[n]? = some (.lst xs)) (hl : xs.length < lim) : methD .append (.ref n) [d] S = .ok .non (S.set n (.lst (xs ++ [d]))) := by
  simp [methD, hs, Mth.run, appF, hl]
theorem ins_ref {n : Nat} {xs : List D} {d : D} {i : Int} {S : Sto} (hs : S[n]? = some (.lst xs)) (hl : xs.length < lim) (h0 : 0 ≤ i) (h1 : i ≤ 1000000) : methD .insert (.ref n) [.int i, d] S = .ok .non (S.set n (.lst (xs.take i.toNat ++ d :: xs.drop i.toNat))) := by
  have h2 : i < 2 ^ 62 := Int.lt_of_le_of_lt h1 (by decide)
  simp only [methD, hs, Mth.run, insF, hl, h0, h2, and_self, if_true]
theorem cat_ref {a b : D} {xs ys : List D} {S : Sto} (ha : listOf S a = some xs) (hb : listOf S b = some ys) (hl : xs.length + ys.length ≤ lim) (hx : ∀ i j, a = .int i → b = .int j → False) : catM a b S = .ok (.ref S.length) (S ++ [.lst (xs ++ ys)]) := by
  simp [catM, ha, hb, hl]
theorem add_lvref {xs ys : List D} {n : Nat} {S : Sto} (h : S[n]? = some (.lst ys)) (hl : xs.length + ys.length ≤ lim) : binD .add (.lv xs) (.ref n) S = .ok (.lv (xs ++ ys)) S := by
  simp [binD, listOf, h, hl]
theorem len_ref {n : Nat} {xs : List D} {S : Sto} (h : S[n]? = some (.lst xs)) : bltD .len [.ref n] S = .ok (.int xs.length) S := by simp [bltD, lenD, lengthOf, items, h]
theorem max_int (i j : Int) (S : Sto) : bltD .max [.int i, .int j] S = .ok (.int (if j > i then j else i)) S := (rfl)
theorem min_int (i j : Int) (S : Sto) : bltD .min [.int i, .int j] S = .ok (.int (if j < i then j else i)) S := (rfl)
theorem sl_lvD (xs : List D) (lo hi : Option Int) (S : Sto) : slD (.lv xs) lo hi S = .ok (.lv (cutD xs lo hi)) S := (rfl)
theorem sl_refD {n : Nat} {xs : List D} {S : Sto} (h : S[n]? = some (.lst xs)) (lo hi : Option Int) : slD (.ref n) lo hi S = .ok (.lv (cutD xs lo hi)) S := by simp [slD, listOf, h]
theorem six_nat (l d n : Nat) (h : n ≤ l) : HT.sIx l d (some (n : Int)) = n := by
  unfold HT.sIx
  simp only
  rw [if_neg (by omega)]
  omega
theorem cut_from (xs : List D) {n : Nat} (h : n ≤ xs.length) : cutD xs (some (n : Int)) none = xs.drop n := by
  unfold cutD
  rw [six_nat _ _ _ h]
  simp only [HT.sIx]
  rw [List.take_of_length_le (by simp)]
theorem cut_to (xs : List D) {n : Nat} (h : n ≤ xs.length) : cutD xs none (some (n : Int)) = xs.take n := by
  unfold cutD
  rw [six_nat _ _ _ h]
  simp [HT.sIx]
theorem cut_mid (xs : List D) {n m : Nat} (h : n ≤ m) (h2 : m ≤ xs.length) : cutD xs (some (n : Int)) (some (m : Int)) = (xs.drop n).take (m - n) := by
  unfold cutD
  rw [six_nat _ _ _ h2, six_nat _ _ _ (Nat.le_trans h h2)]
theorem ixN_last (n : Nat) : ixN (n + 1) (-1) = some n := by
  simp [ixN]
  omega
theorem ix_last_ref {n : Nat} {xs : List D} {d : D} {S : Sto} (hs : S[n]? = some (.lst (xs ++ [d]))) : ixD (.ref n) (.int (-1)) S = .ok d S := by
  apply ix_ref hs
  simp [atI, ixN_last]
theorem set_last_ref {n : Nat} {xs : List D} {d d' : D} {S : Sto} (hs : S[n]? = some (.lst (xs ++ [d]))) : setiD (.ref n) (.int (-1)) d' S = .ok () (S.set n (.lst (xs ++ [d']))) := by
  have := seti_ref (d := d') (j := xs.length) hs (i := -1) (by rw [List.length_append]; exact ixN_last _)
  rw [this]
  simp
theorem ref_lt {S : Sto} {n : Nat} {o : O} (h : S[n]? = some o) : n < S.length := by
  rcases Nat.lt_or_ge n S.length with h2 | h2
  · exact h2
  · rw [List.getElem?_eq_none h2] at h; cases h
theorem get_ne {S : Sto} {n m : Nat} {o : O} (h : n ≠ m) : (S.set n o)[m]? = S[m]? := List.getElem?_set_ne h
theorem get_old {S : Sto} {n : Nat} {o o' : O} (h : S[n]? = some o) : (S ++ [o'])[n]? = some o := by
  rw [List.getElem?_append_left (ref_lt h)]; exact h
/-! ### values that are compared with themselves -/
mutual
def depD : D → Nat
  | .tup xs => depDs xs + 1
  | .lv xs => depDs xs + 1
  | _ => 1
def depDs : List D → Nat
  | [] => 0
  | d :: ds => max (depD d) (depDs ds)
end
mutual
def okD : D → Bool
  | .non => true | .bl _ => true | .int _ => true | .str _ => true
  | .tup xs => decide (xs.length ≤ lim) && okDs xs
  | .lv xs => decide (xs.length ≤ lim) && okDs xs
  | _ => false
def okDs : List D → Bool
  | [] => true
  | d :: ds => okD d && okDs ds
end
theorem depDs_mem : ∀ {xs : List D} {d : D}, d ∈ xs → depD d ≤ depDs xs
  | a :: xs, d, h => by
    rcases List.mem_cons.mp h with rfl | h
    · simp only [depDs]; omega
    · have := depDs_mem h
      simp only [depDs]; omega
theorem okDs_mem : ∀ {xs : List D} {d : D}, okDs xs = true → d ∈ xs → okD d = true
  | a :: xs, d, ho, h => by
    simp only [okDs, Bool.and_eq_true] at ho
    rcases List.mem_cons.mp h with rfl | h
    · exact ho.1
    · exact okDs_mem ho.2 h
theorem isi_t {d : D} {S : Sto} {t n : String} {v : Bool} (h : tyName S d = some t) (k : kitB t n = some v) : bltD .isi [d, .ty n] S = .ok (.bl v) S := by simp [bltD, isiD, h, k]
theorem kb_lb : kitB "list" "bool" = some false := by decide +kernel
theorem kb_li : kitB "list" "int" = some false := by decide +kernel
theorem kb_ls : kitB "list" "str" = some false := by decide +kernel
theorem kb_lt : kitB "list" "tuple" = some false := by decide +kernel
theorem kb_ll : kitB "list" "list" = some true := by decide +kernel
theorem kb_tb : kitB "tuple" "bool" = some false := by decide +kernel
theorem kb_ti : kitB "tuple" "int" = some false := by decide +kernel
theorem kb_ts : kitB "tuple" "str" = some false := by decide +kernel
theorem kb_tt : kitB "tuple" "tuple" = some true := by decide +kernel
theorem kb_tl : kitB "tuple" "list" = some false := by decide +kernel
theorem kb_bb : kitB "bool" "bool" = some true := by decide +kernel
theorem kb_bi : kitB "bool" "int" = some true := by decide +kernel
theorem kb_ib : kitB "int" "bool" = some false := by decide +kernel
theorem kb_ii : kitB "int" "int" = some true := by decide +kernel
theorem kb_sb : kitB "str" "bool" = some false := by decide +kernel
theorem kb_si : kitB "str" "int" = some false := by decide +kernel
theorem kb_ss : kitB "str" "str" = some true := by decide +kernel
theorem cmp_is_non (S : Sto) : cmpD .is_ .non .non S = .ok (.bl true) S := (rfl)
theorem okD_pl {l : List (Int × Int)} (h : l.length ≤ lim) : okD (.lv (pl l)) = true ∧ depD (.lv (pl l)) ≤ 3 := by
  have h1 : okDs (pl l) = true := by
    induction l with
    | nil => rfl
    | cons p r ih =>
      show okDs (pr p :: pl r) = true
      have := ih (by simp at h; omega)
      simp [okDs, this, pr, okD, lim]
  have h2 : depDs (pl l) ≤ 2 := by
    clear h h1
    induction l with
    | nil => simp [pl, depDs]
    | cons p r ih =>
      show depDs (pr p :: pl r) ≤ 2
      simp [depDs, pr, depD]
      omega
  refine ⟨?_, ?_⟩
  · simp [okD, h1, pl_len, h]
  · simp [depD]; omega
end Ev

/-! Spans of whole numbers: separated lists, their members, merging, sweeping. -/
namespace Sp
open Ev (pLt)
abbrev Pt := Int × Int
def has (l : List Pt) (x : Int) : Prop := ∃ p, p ∈ l ∧ p.1 ≤ x ∧ x ≤ p.2
def Sep : List Pt → Prop
  | [] => True
  | p :: r => p.1 ≤ p.2 ∧ (∀ q, q ∈ r → p.2 + 1 < q.1) ∧ Sep r
theorem has_nil (x : Int) : ¬ has [] x := by rintro ⟨p, h, _⟩; cases h
theorem has_cons (p : Pt) (r : List Pt) (x : Int) : has (p :: r) x ↔ (p.1 ≤ x ∧ x ≤ p.2) ∨ has r x := by
  constructor
  · rintro ⟨q, h, h2⟩
    rcases List.mem_cons.mp h with rfl | h
    · exact .inl h2
    · exact .inr ⟨q, h, h2⟩
  · rintro (h | ⟨q, h, h2⟩)
    · exact ⟨p, List.mem_cons_self, h⟩
    · exact ⟨q, List.mem_cons_of_mem _ h, h2⟩
theorem has_app (l r : List Pt) (x : Int) : has (l ++ r) x ↔ has l x ∨ has r x := by
  constructor
  · rintro ⟨q, h, h2⟩
    rcases List.mem_append.mp h with h | h
    · exact .inl ⟨q, h, h2⟩
    · exact .inr ⟨q, h, h2⟩
  · rintro (⟨q, h, h2⟩ | ⟨q, h, h2⟩)
    · exact ⟨q, List.mem_append_left _ h, h2⟩
    · exact ⟨q, List.mem_append_right _ h, h2⟩
theorem Sep.ok {l : List Pt} (h : Sep l) : ∀ p, p ∈ l → p.1 ≤ p.2 := by
  induction l with
  | nil => intro p hp; cases hp
  | cons a r ih =>
    intro p hp
    rcases List.mem_cons.mp hp with rfl | hp
    · exact h.1
    · exact ih h.2.2 p hp
theorem sep_app {l r : List Pt} : Sep (l ++ r) ↔ Sep l ∧ Sep r ∧ ∀ p, p ∈ l → ∀ q, q ∈ r → p.2 + 1 < q.1 := by
  induction l with
  | nil => simp [Sep]
  | cons a l ih =>
    constructor
    · intro h
      obtain ⟨h1, h2, h3⟩ := h
      obtain ⟨i1, i2, i3⟩ := ih.mp h3
      refine ⟨⟨h1, fun q hq => h2 q (List.mem_append_left _ hq), i1⟩, i2, fun p hp q hq => ?_⟩
      rcases List.mem_cons.mp hp with rfl | hp
      · exact h2 q (List.mem_append_right _ hq)
      · exact i3 p hp q hq
    · rintro ⟨⟨h1, h2, h3⟩, h4, h5⟩
      refine ⟨h1, fun q hq => ?_, ih.mpr ⟨h3, h4, fun p hp => h5 p (List.mem_cons_of_mem _ hp)⟩⟩
      rcases List.mem_append.mp hq with hq | hq
      · exact h2 q hq
      · exact h5 a List.mem_cons_self q hq
/-- two separated lists with the same members are equal -/
theorem sep_eq : ∀ (l m : List Pt), Sep l → Sep m → (∀ x, has l x ↔ has m x) → l = m
  | [], [], _, _, _ => rfl
  | [], q :: m, _, hm, h => absurd ((h q.1).mpr ((has_cons q m _).mpr (.inl ⟨Int.le_refl _, hm.1⟩))) (has_nil _)
  | p :: l, [], hl, _, h => absurd ((h p.1).mp ((has_cons p l _).mpr (.inl ⟨Int.le_refl _, hl.1⟩))) (has_nil _)
  | p :: l, q :: m, hl, hm, h => by
    have low : ∀ (p : Pt) (l : List Pt), Sep (p :: l) → ∀ x, has (p :: l) x → p.1 ≤ x := by
      rintro p l ⟨h1, h2, h3⟩ x hx
      rcases (has_cons p l x).mp hx with hx | ⟨q, hq, hx⟩
      · exact hx.1
      · have := h2 q hq; omega
    have rest : ∀ (p : Pt) (l : List Pt), Sep (p :: l) → ∀ x, has l x → p.2 + 1 < x := by
      rintro p l ⟨h1, h2, h3⟩ x ⟨q, hq, hx⟩
      have := h2 q hq; omega
    have e1 : p.1 = q.1 := by
      have a1 := low q m hm p.1 ((h _).mp ((has_cons p l _).mpr (.inl ⟨Int.le_refl _, hl.1⟩)))
      have a2 := low p l hl q.1 ((h _).mpr ((has_cons q m _).mpr (.inl ⟨Int.le_refl _, hm.1⟩)))
      omega
    have half : ∀ (p : Pt) (l : List Pt) (q : Pt) (m : List Pt), Sep (p :: l) → Sep (q :: m) → p.1 = q.1 → (∀ x, has (p :: l) x ↔ has (q :: m) x) → ¬ p.2 < q.2 := by
      intro p l q m hl hm e h hlt
      have hp := hl.1
      rcases (has_cons p l _).mp ((h (p.2 + 1)).mpr ((has_cons q m _).mpr (.inl ⟨by omega, by omega⟩))) with h | h
      · omega
      · have := rest p l hl _ h; omega
    have e2 : p.2 = q.2 := by
      have a1 := half p l q m hl hm e1 h
      have a2 := half q m p l hm hl e1.symm (fun x => (h x).symm)
      omega
    have e : p = q := Prod.ext e1 e2
    subst e
    rw [sep_eq l m hl.2.2 hm.2.2 (fun x => ?_)]
    constructor
    · intro hx
      rcases (has_cons p m x).mp ((h x).mp ((has_cons p l x).mpr (.inr hx))) with h2 | h2
      · have := rest p l hl x hx; omega
      · exact h2
    · intro hx
      rcases (has_cons p l x).mp ((h x).mpr ((has_cons p m x).mpr (.inr hx))) with h2 | h2
      · have := rest p m hm x hx; omega
      · exact h2
/-! ### merging -/
def mgA (l : List Pt) (lo : Int) : List Pt := l.filter fun p => decide (p.2 + 1 < lo)
def mgB (l : List Pt) (hi : Int) : List Pt := l.filter fun p => decide (hi + 1 < p.1)
def mgM (l : List Pt) (lo hi : Int) : List Pt := (l.drop (mgA l lo).length).take (l.length - (mgB l hi).length - (mgA l lo).length)
def foldM (l : List Pt) (a : Pt) : Pt := l.foldl (fun a p => (if p.1 < a.1 then p.1 else a.1, if p.2 > a.2 then p.2 else a.2)) a
def merged (l : List Pt) (lo hi : Int) : List Pt := mgA l lo ++ [foldM (mgM l lo hi) (lo, hi)] ++ mgB l hi
theorem mg_split {lo hi : Int} (h : lo ≤ hi) : ∀ {l : List Pt}, Sep l → ∃ M, l = mgA l lo ++ M ++ mgB l hi ∧ ∀ p, p ∈ M → lo ≤ p.2 + 1 ∧ p.1 ≤ hi + 1
  | [], _ => ⟨[], rfl, fun p hp => by cases hp⟩
  | p :: r, hs => by
    obtain ⟨M, e, hM⟩ := mg_split h hs.2.2
    have h1 := hs.1
    by_cases ha : p.2 + 1 < lo
    · refine ⟨M, ?_, hM⟩
      have e1 : mgA (p :: r) lo = p :: mgA r lo := by unfold mgA; rw [List.filter_cons_of_pos (by simpa using ha)]
      have e2 : mgB (p :: r) hi = mgB r hi := by unfold mgB; rw [List.filter_cons_of_neg (by simp; omega)]
      rw [e1, e2, List.cons_append, List.cons_append, ← e]
    · have e1 : mgA (p :: r) lo = [] := by
        unfold mgA
        rw [List.filter_eq_nil_iff]
        intro q hq
        rcases List.mem_cons.mp hq with rfl | hq
        · simpa using ha
        · have a1 := hs.2.1 q hq
          have a2 := hs.2.2.ok q hq
          simp; omega
      have e3 : mgA r lo = [] := by
        unfold mgA at e1 ⊢
        rw [List.filter_eq_nil_iff] at e1 ⊢
        exact fun q hq => e1 q (List.mem_cons_of_mem _ hq)
      by_cases hb : hi + 1 < p.1
      · have e2 : mgB (p :: r) hi = p :: r := by
          unfold mgB
          rw [List.filter_eq_self]
          intro q hq
          rcases List.mem_cons.mp hq with rfl | hq
          · simpa using hb
          · have a1 := hs.2.1 q hq
            simp; omega
        exact ⟨[], by rw [e1, e2]; rfl, fun p hp => by cases hp⟩
      · have e2 : mgB (p :: r) hi = mgB r hi := by unfold mgB; rw [List.filter_cons_of_neg (by simpa using hb)]
        refine ⟨p :: M, ?_, fun q hq => ?_⟩
        · rw [e1, e2]
          rw [e3] at e
          rw [List.nil_append] at e ⊢
          rw [List.cons_append, ← e]
        · rcases List.mem_cons.mp hq with rfl | hq
          · omega
          · exact hM q hq
theorem mg_mid {lo hi : Int} (h : lo ≤ hi) {l : List Pt} (hs : Sep l) : l = mgA l lo ++ mgM l lo hi ++ mgB l hi ∧ (∀ p, p ∈ mgM l lo hi → lo ≤ p.2 + 1 ∧ p.1 ≤ hi + 1) ∧ (mgA l lo).length + (mgB l hi).length ≤ l.length := by
  obtain ⟨M, e, hM⟩ := mg_split h hs
  have el : l.length = (mgA l lo).length + M.length + (mgB l hi).length := by
    have := congrArg List.length e
    simp only [List.length_append] at this
    exact this
  have em : mgM l lo hi = M := by
    unfold mgM
    generalize mgA l lo = A at *
    generalize mgB l hi = B at *
    subst e
    rw [List.append_assoc, List.drop_left]
    have : (A ++ (M ++ B)).length - B.length - A.length = M.length := by simp; omega
    rw [this, List.take_left]
  rw [em]
  exact ⟨e, hM, by omega⟩
theorem foldM_spec : ∀ (M : List Pt) (a : Pt), a.1 ≤ a.2 → (∀ p, p ∈ M → p.1 ≤ p.2 ∧ a.1 ≤ p.2 + 1 ∧ p.1 ≤ a.2 + 1) →
    (foldM M a).1 ≤ (foldM M a).2 ∧ (∀ x, ((foldM M a).1 ≤ x ∧ x ≤ (foldM M a).2) ↔ (a.1 ≤ x ∧ x ≤ a.2) ∨ has M x) ∧
    ((foldM M a).1 = a.1 ∨ ∃ p, p ∈ M ∧ (foldM M a).1 = p.1) ∧ ((foldM M a).2 = a.2 ∨ ∃ p, p ∈ M ∧ (foldM M a).2 = p.2)
  | [], a, h, _ => ⟨h, fun x => by simp [foldM, has_nil], .inl rfl, .inl rfl⟩
  | q :: M, a, h, hM => by
    obtain ⟨q1, q2, q3⟩ := hM q List.mem_cons_self
    have hb : ∃ b : Pt, b = (if q.1 < a.1 then q.1 else a.1, if q.2 > a.2 then q.2 else a.2) := ⟨_, rfl⟩
    obtain ⟨b, hb⟩ := hb
    have b1 : b.1 = if q.1 < a.1 then q.1 else a.1 := by rw [hb]
    have b2 : b.2 = if q.2 > a.2 then q.2 else a.2 := by rw [hb]
    have b1l : b.1 ≤ a.1 ∧ b.1 ≤ q.1 ∧ (b.1 = a.1 ∨ b.1 = q.1) := by split at b1 <;> omega
    have b2l : a.2 ≤ b.2 ∧ q.2 ≤ b.2 ∧ (b.2 = a.2 ∨ b.2 = q.2) := by split at b2 <;> omega
    have e : foldM (q :: M) a = foldM M b := by rw [hb]; rfl
    have ih := foldM_spec M b (by omega) (fun p hp => by
      obtain ⟨p1, p2, p3⟩ := hM p (List.mem_cons_of_mem _ hp)
      omega)
    obtain ⟨i1, i2, i3, i4⟩ := ih
    rw [e]
    refine ⟨i1, fun x => ?_, ?_, ?_⟩
    · rw [i2 x, has_cons]
      clear i2 i3 i4
      constructor
      · rintro (h | h)
        · by_cases hx : a.1 ≤ x ∧ x ≤ a.2
          · exact .inl hx
          · exact .inr (.inl (by omega))
        · exact .inr (.inr h)
      · rintro (h | h | h)
        · exact .inl (by omega)
        · exact .inl (by omega)
        · exact .inr h
    · rcases i3 with h | ⟨p, hp, h⟩
      · rcases b1l.2.2 with h2 | h2
        · exact .inl (by omega)
        · exact .inr ⟨q, List.mem_cons_self, by omega⟩
      · exact .inr ⟨p, List.mem_cons_of_mem _ hp, h⟩
    · rcases i4 with h | ⟨p, hp, h⟩
      · rcases b2l.2.2 with h2 | h2
        · exact .inl (by omega)
        · exact .inr ⟨q, List.mem_cons_self, by omega⟩
      · exact .inr ⟨p, List.mem_cons_of_mem _ hp, h⟩
theorem merged_spec {l : List Pt} {lo hi : Int} (hs : Sep l) (h : lo ≤ hi) : Sep (merged l lo hi) ∧ (∀ x, has (merged l lo hi) x ↔ has l x ∨ (lo ≤ x ∧ x ≤ hi)) ∧ (merged l lo hi).length ≤ l.length + 1 := by
  obtain ⟨e, hM, hl⟩ := mg_mid h hs
  have hs0 := hs
  rw [e] at hs
  obtain ⟨s1, s2, s3⟩ := sep_app.mp hs
  obtain ⟨t1, t2, t3⟩ := sep_app.mp s1
  have f := foldM_spec (mgM l lo hi) (lo, hi) h (fun p hp => ⟨t2.ok p hp, hM p hp⟩)
  obtain ⟨f1, f2, f3, f4⟩ := f
  have a1 : ∀ p, p ∈ mgA l lo → p.2 + 1 < lo := fun p hp => by simpa [mgA] using (List.mem_filter.mp hp).2
  have a2 : ∀ p, p ∈ mgB l hi → hi + 1 < p.1 := fun p hp => by simpa [mgB] using (List.mem_filter.mp hp).2
  refine ⟨?_, fun x => ?_, ?_⟩
  · unfold merged
    refine sep_app.mpr ⟨sep_app.mpr ⟨t1, ⟨f1, (fun q hq => by cases hq), trivial⟩, fun p hp q hq => ?_⟩, s2, fun p hp q hq => ?_⟩
    · simp at hq
      subst hq
      rcases f3 with h | ⟨m, hm, h⟩
      · rw [h]; exact a1 p hp
      · rw [h]; exact t3 p hp m hm
    · rcases List.mem_append.mp hp with hp | hp
      · exact s3 p (List.mem_append_left _ hp) q hq
      · simp at hp
        subst hp
        rcases f4 with h | ⟨m, hm, h⟩
        · rw [h]; exact a2 q hq
        · rw [h]; exact s3 m (List.mem_append_right _ hm) q hq
  · unfold merged
    rw [has_app, has_app, has_cons, f2 x]
    have hx : has l x ↔ (has (mgA l lo) x ∨ has (mgM l lo hi) x) ∨ has (mgB l hi) x := by
      rw [← has_app, ← has_app, ← e]
    rw [hx]
    have := has_nil x
    simp only
    grind
  · unfold merged
    simp
    omega
def tidy (l : List Pt) : List Pt := l.foldl (fun r p => merged r p.1 p.2) []
theorem tidy_go : ∀ (l r : List Pt), Sep r → (∀ p, p ∈ l → p.1 ≤ p.2) → Sep (l.foldl (fun r p => merged r p.1 p.2) r) ∧ (∀ x, has (l.foldl (fun r p => merged r p.1 p.2) r) x ↔ has r x ∨ has l x) ∧ (l.foldl (fun r p => merged r p.1 p.2) r).length ≤ r.length + l.length
  | [], r, hr, _ => ⟨hr, fun x => by simp [has_nil], by simp⟩
  | p :: l, r, hr, h => by
    obtain ⟨m1, m2, m3⟩ := merged_spec hr (h p List.mem_cons_self)
    obtain ⟨i1, i2, i3⟩ := tidy_go l _ m1 (fun q hq => h q (List.mem_cons_of_mem _ hq))
    refine ⟨i1, fun x => ?_, by simp only [List.foldl_cons, List.length_cons]; omega⟩
    rw [List.foldl_cons, i2 x, m2 x, has_cons]
    grind
theorem tidy_spec {l : List Pt} (h : ∀ p, p ∈ l → p.1 ≤ p.2) : Sep (tidy l) ∧ (∀ x, has (tidy l) x ↔ has l x) ∧ (tidy l).length ≤ l.length := by
  obtain ⟨a, b, c⟩ := tidy_go l [] trivial h
  refine ⟨a, fun x => ?_, by simpa [tidy] using c⟩
  have := b x
  simp only [has_nil, false_or] at this
  exact this
theorem tidy_sep {l : List Pt} (h : Sep l) : tidy l = l := by
  obtain ⟨a, b, _⟩ := tidy_spec h.ok
  exact sep_eq _ _ a h b
/-! ### sorting -/
def insA (r : List Pt) (t : Pt) : List Pt := r.filter fun p => pLt p t
def ins (r : List Pt) (t : Pt) : List Pt := insA r t ++ [t] ++ r.drop (insA r t).length
def rising (l : List Pt) : List Pt := l.foldl ins []
def Srt (r : List Pt) : Prop := r.Pairwise fun a b => pLt b a = false
theorem pLt_f {a b : Pt} : pLt a b = false ↔ b.1 < a.1 ∨ b.1 = a.1 ∧ b.2 ≤ a.2 := by
  unfold pLt
  rw [decide_eq_false_iff_not]
  omega
theorem pLt_t {a b : Pt} : pLt a b = true ↔ a.1 < b.1 ∨ a.1 = b.1 ∧ a.2 < b.2 := by
  unfold pLt
  rw [decide_eq_true_iff]
theorem ins_split (t : Pt) : ∀ {r : List Pt}, Srt r → r = insA r t ++ r.drop (insA r t).length ∧ ∀ p, p ∈ r.drop (insA r t).length → pLt p t = false
  | [], _ => ⟨rfl, fun p hp => by cases hp⟩
  | a :: r, h => by
    obtain ⟨h1, h2⟩ := List.pairwise_cons.mp h
    by_cases ha : pLt a t = true
    · have e : insA (a :: r) t = a :: insA r t := by unfold insA; rw [List.filter_cons_of_pos (p := fun p => pLt p t) ha]
      obtain ⟨i1, i2⟩ := ins_split t h2
      rw [e, List.length_cons, List.drop_succ_cons]
      exact ⟨by rw [List.cons_append, ← i1], i2⟩
    · have hn : ∀ p, p ∈ a :: r → pLt p t = false := by
        intro p hp
        have ha : pLt a t = false := by simpa using ha
        rcases List.mem_cons.mp hp with rfl | hp
        · exact ha
        · have := h1 p hp
          rw [pLt_f] at this ha ⊢
          omega
      have e : insA (a :: r) t = [] := by
        unfold insA
        rw [List.filter_eq_nil_iff]
        intro q hq
        simp [hn q hq]
      rw [e]
      exact ⟨rfl, hn⟩
theorem ins_spec {r : List Pt} (t : Pt) (h : Srt r) : Srt (ins r t) ∧ (∀ p, p ∈ ins r t ↔ p ∈ r ∨ p = t) ∧ (ins r t).length = r.length + 1 := by
  obtain ⟨e, hB⟩ := ins_split t h
  have hA : ∀ p, p ∈ insA r t → pLt p t = true := fun p hp => (List.mem_filter.mp hp).2
  unfold ins
  generalize insA r t = A at *
  generalize r.drop A.length = B at *
  subst e
  obtain ⟨p1, p2, p3⟩ := List.pairwise_append.mp h
  refine ⟨?_, fun p => by simp; grind, by simp; omega⟩
  unfold Srt
  rw [List.pairwise_append, List.pairwise_append]
  refine ⟨⟨p1, List.pairwise_singleton _ _, fun a ha b hb => ?_⟩, p2, fun a ha b hb => ?_⟩
  · simp at hb
    subst hb
    have := hA a ha
    rw [pLt_t] at this
    rw [pLt_f]
    omega
  · rcases List.mem_append.mp ha with ha | ha
    · exact p3 a ha b hb
    · simp at ha
      subst ha
      exact hB b hb
theorem rising_go : ∀ (l r : List Pt), Srt r → Srt (l.foldl ins r) ∧ (∀ p, p ∈ l.foldl ins r ↔ p ∈ r ∨ p ∈ l) ∧ (l.foldl ins r).length = r.length + l.length
  | [], r, h => ⟨h, fun p => by simp, rfl⟩
  | t :: l, r, h => by
    obtain ⟨a1, a2, a3⟩ := ins_spec t h
    obtain ⟨b1, b2, b3⟩ := rising_go l _ a1
    refine ⟨b1, fun p => ?_, by simp only [List.foldl_cons, List.length_cons]; omega⟩
    rw [List.foldl_cons, b2 p, a2 p, List.mem_cons]
    grind
theorem rising_spec (l : List Pt) : (rising l).Pairwise (fun a b => a.1 ≤ b.1) ∧ (∀ p, p ∈ rising l ↔ p ∈ l) ∧ (rising l).length = l.length := by
  obtain ⟨a1, a2, a3⟩ := rising_go l [] List.Pairwise.nil
  refine ⟨List.Pairwise.imp (fun {a b} h => ?_) a1, fun p => by simpa [rising] using a2 p, by simpa [rising] using a3⟩
  rw [pLt_f] at h
  omega
/-! ### sweeping -/
def swS (r : List Pt) (p : Pt) : List Pt := match r.getLast? with
  | none => [p]
  | some q => if p.1 > q.2 + 1 then r ++ [p] else if p.2 > q.2 then r.dropLast ++ [(q.1, p.2)] else r
def sweep (l : List Pt) : List Pt := l.foldl swS []
theorem sweep_go : ∀ (l r : List Pt), Sep r → (∀ p, p ∈ l → p.1 ≤ p.2) → l.Pairwise (fun a b => a.1 ≤ b.1) → (∀ q, r.getLast? = some q → ∀ p, p ∈ l → q.1 ≤ p.1) →
    Sep (l.foldl swS r) ∧ (∀ x, has (l.foldl swS r) x ↔ has r x ∨ has l x) ∧ (l.foldl swS r).length ≤ r.length + l.length
  | [], r, h, _, _, _ => ⟨h, fun x => by simp [has_nil], Nat.le_refl _⟩
  | p :: l, r, h, ho, hp, hq => by
    obtain ⟨p1, p2⟩ := List.pairwise_cons.mp hp
    have hop := ho p List.mem_cons_self
    have key : Sep (swS r p) ∧ (∀ x, has (swS r p) x ↔ has r x ∨ (p.1 ≤ x ∧ x ≤ p.2)) ∧ (swS r p).length ≤ r.length + 1 ∧ (∀ q, (swS r p).getLast? = some q → ∀ s, s ∈ l → q.1 ≤ s.1) := by
      rcases List.eq_nil_or_concat r with rfl | ⟨r', q, rfl⟩
      · have e : swS [] p = [p] := rfl
        rw [e]
        refine ⟨⟨hop, (fun q hq => by cases hq), trivial⟩, fun x => by rw [has_cons]; have := has_nil x; grind, by simp, fun q hq s hs => ?_⟩
        simp at hq
        subst hq
        exact p1 s hs
      · rw [List.concat_eq_append] at *
        have hqp := hq q (by simp) p List.mem_cons_self
        obtain ⟨s1, s2, s3⟩ := sep_app.mp h
        have hqo := s2.1
        unfold swS
        rw [List.getLast?_concat]
        simp only
        split
        · rename_i h1
          refine ⟨sep_app.mpr ⟨h, ⟨hop, (fun q hq => by cases hq), trivial⟩, fun a ha b hb => ?_⟩, fun x => by rw [has_app, has_cons]; have := has_nil x; grind, by simp, fun q hq s hs => ?_⟩
          · simp at hb
            subst hb
            rcases List.mem_append.mp ha with ha | ha
            · have := s3 a ha q (by simp); omega
            · simp at ha; subst ha; omega
          · rw [List.getLast?_concat] at hq
            cases hq
            exact p1 s hs
        · rename_i h1
          split
          · rename_i h2
            rw [List.dropLast_concat]
            refine ⟨sep_app.mpr ⟨s1, ⟨by simp only; omega, (fun q hq => by cases hq), trivial⟩, fun a ha b hb => ?_⟩, fun x => ?_, by simp, fun q' hq' s hs => ?_⟩
            · simp at hb
              subst hb
              exact s3 a ha q (by simp)
            · rw [has_app, has_cons, has_app, has_cons]
              have := has_nil x
              simp only
              constructor
              · rintro (h | h | h)
                · exact .inl (.inl h)
                · by_cases hx : x ≤ q.2
                  · exact .inl (.inr (.inl ⟨h.1, hx⟩))
                  · exact .inr (by omega)
                · exact absurd h this
              · rintro ((h | h | h) | h)
                · exact .inl h
                · exact .inr (.inl (by omega))
                · exact absurd h this
                · exact .inr (.inl (by omega))
            · rw [List.getLast?_concat] at hq'
              cases hq'
              exact hq q (by simp) s (List.mem_cons_of_mem _ hs)
          · rename_i h2
            refine ⟨h, fun x => ?_, by simp, fun q' hq' s hs => hq q' hq' s (List.mem_cons_of_mem _ hs)⟩
            constructor
            · exact .inl
            · rintro (h | h)
              · exact h
              · exact ⟨q, by simp, by omega⟩
    obtain ⟨k1, k2, k3, k4⟩ := key
    obtain ⟨i1, i2, i3⟩ := sweep_go l _ k1 (fun s hs => ho s (List.mem_cons_of_mem _ hs)) p2 k4
    refine ⟨i1, fun x => ?_, by simp only [List.foldl_cons, List.length_cons]; omega⟩
    rw [List.foldl_cons, i2 x, k2 x, has_cons]
    grind
theorem sweep_spec {l : List Pt} (ho : ∀ p, p ∈ l → p.1 ≤ p.2) : Sep (sweep (rising l)) ∧ (∀ x, has (sweep (rising l)) x ↔ has l x) ∧ (sweep (rising l)).length ≤ l.length := by
  obtain ⟨a1, a2, a3⟩ := rising_spec l
  obtain ⟨b1, b2, b3⟩ := sweep_go (rising l) [] trivial (fun p hp => ho p ((a2 p).mp hp)) a1 (fun q hq => by cases hq)
  refine ⟨b1, fun x => ?_, by simpa [sweep, a3] using b3⟩
  have := b2 x
  simp only [has_nil, false_or] at this
  rw [sweep, this]
  constructor
  · rintro ⟨p, hp, h⟩
    exact ⟨p, (a2 p).mp hp, h⟩
  · rintro ⟨p, hp, h⟩
    exact ⟨p, (a2 p).mpr hp, h⟩
theorem tidy_sweep {l : List Pt} (ho : ∀ p, p ∈ l → p.1 ≤ p.2) : tidy l = sweep (rising l) := by
  obtain ⟨a1, a2, _⟩ := tidy_spec ho
  obtain ⟨b1, b2, _⟩ := sweep_spec ho
  exact sep_eq _ _ a1 b1 fun x => (a2 x).trans (b2 x).symm
end Sp

namespace Ev
open PySem L2
/-! ### what a run leaves of the store -/
structure Fr (b : Nat) (S S' : Sto) : Prop where
  box : BoxAt S' b
  len : S.length ≤ S'.length
  old : ∀ n, n < S.length → n ≠ b → S'[n]? = S[n]?
theorem Fr.trans {b : Nat} {S S1 S2 : Sto} (h : Fr b S S1) (h2 : Fr b S1 S2) : Fr b S S2 :=
  ⟨h2.box, Nat.le_trans h.len h2.len, fun n hn hb => (h2.old n (Nat.lt_of_lt_of_le hn h.len) hb).trans (h.old n hn hb)⟩
theorem Fr.refl {b : Nat} {S : Sto} (h : BoxAt S b) : Fr b S S := ⟨h, Nat.le_refl _, fun _ _ _ => rfl⟩
theorem Fr.set {b : Nat} {S : Sto} {o : O} (h : BoxAt S b) (ho : IsBox o) : Fr b S (S.set b o) :=
  ⟨h.set ho, by simp, fun n _ hb => List.getElem?_set_ne (fun e => hb e.symm)⟩
theorem BoxAt.lt {S : Sto} {b : Nat} (h : BoxAt S b) : b < S.length := by
  obtain ⟨o, e, _⟩ := h.ex
  exact ref_lt e
theorem BoxAt.app {S T : Sto} {b : Nat} (h : BoxAt S b) : BoxAt (S ++ T) b := by
  obtain ⟨o, e, ho⟩ := h.ex
  exact ⟨o, by rw [List.getElem?_append_left (ref_lt e)]; exact e, ho⟩
theorem Fr.app {b : Nat} {S T : Sto} (h : BoxAt S b) : Fr b S (S ++ T) :=
  ⟨h.app, by simp, fun n hn _ => List.getElem?_append_left hn⟩
theorem Fr.at {b n : Nat} {S S' : Sto} {o : O} (h : Fr b S S') (hs : S[n]? = some o) (hb : n ≠ b) : S'[n]? = some o := by
  rw [h.old n (ref_lt hs) hb]; exact hs
/-- a change of another cell that stands behind the old ones -/
theorem Fr.put {b n : Nat} {S S' : Sto} {o : O} (h : Fr b S S') (hn : S.length ≤ n) (hb : n ≠ b) : Fr b S (S'.set n o) := by
  refine ⟨?_, by simpa using h.len, fun m hm hmb => ?_⟩
  · obtain ⟨o', e, ho⟩ := h.box.ex
    exact ⟨o', by rw [List.getElem?_set_ne hb]; exact e, ho⟩
  · rw [List.getElem?_set_ne (by omega)]
    exact h.old m hm hmb
theorem BoxAt.other {b n : Nat} {S : Sto} {o : O} (h : BoxAt S b) (hb : n ≠ b) : BoxAt (S.set n o) b := by
  obtain ⟨o', e, ho⟩ := h.ex
  exact ⟨o', by rw [List.getElem?_set_ne hb]; exact e, ho⟩
/-- a comprehension over pairs that keeps some -/
theorem lcK_pl {elt cond : Sg → Sto → R D} {tg : Tg} {σ : Sg} {d : D} {S : Sto} {l : List (Int × Int)} (q : Int × Int → Bool) (hi : items S d = some (pl l)) (hl : l.length ≤ lim)
    (h : ∀ p, p ∈ l → ∃ σ1, setTg tg (pr p) (wipeD σ tg.slots) = some σ1 ∧ cond σ1 S = .ok (.bl (q p)) S ∧ elt σ1 S = .ok (pr p) S) : lcK elt cond tg σ d S = .ok (.lv (pl (l.filter q))) S := by
  have e : ((pl l).filter fun d => match d with | .tup [.int a, .int b] => q (a, b) | _ => false).map id = pl (l.filter q) := by
    rw [List.map_id]
    unfold pl
    rw [List.filter_map]
    rfl
  rw [← e]
  refine lcK_pure _ _ hi (by rw [pl_len]; exact hl) fun x hx => ?_
  obtain ⟨p, hp, rfl⟩ := List.mem_map.mp hx
  obtain ⟨σ1, e1, e2, e3⟩ := h p hp
  exact ⟨σ1, e1, e2, fun _ => e3⟩
theorem pl_drop (l : List (Int × Int)) (n : Nat) : (pl l).drop n = pl (l.drop n) := by unfold pl; rw [List.map_drop]
theorem pl_take (l : List (Int × Int)) (n : Nat) : (pl l).take n = pl (l.take n) := by unfold pl; rw [List.map_take]
theorem tp_pr {i j : Nat} {p : Int × Int} {σ : Sg} : setTg (.tp [i, j]) (pr p) σ = some ((σ.set i (some (.int p.1))).set j (some (.int p.2))) := rfl
theorem atI_pl {l : List (Int × Int)} {r : Int} (h0 : 0 ≤ r) (h1 : r < l.length) : ∃ p, p ∈ l ∧ atI (pl l) r = some (pr p) := by
  obtain ⟨d, hd, e⟩ := atI_ex (xs := pl l) h0 (by rw [pl_len]; exact h1)
  obtain ⟨p, hp, rfl⟩ := List.mem_map.mp hd
  exact ⟨p, hp, e⟩
end Ev

/-! Cutting, joining and sizes of lists of spans. -/
namespace Sp
def piece (lo hi : Int) (p : Pt) : List Pt := if p.2 < lo ∨ hi < p.1 then [p] else (if p.1 < lo then [(p.1, lo - 1)] else []) ++ (if hi < p.2 then [(hi + 1, p.2)] else [])
def cut (l : List Pt) (lo hi : Int) : List Pt := l.flatMap (piece lo hi)
theorem piece_spec {lo hi : Int} {p : Pt} (h : lo ≤ hi) (hp : p.1 ≤ p.2) : Sep (piece lo hi p) ∧ (∀ q, q ∈ piece lo hi p → p.1 ≤ q.1 ∧ q.2 ≤ p.2) ∧ (∀ x, has (piece lo hi p) x ↔ (p.1 ≤ x ∧ x ≤ p.2) ∧ ¬ (lo ≤ x ∧ x ≤ hi)) := by
  unfold piece
  split
  · rename_i h1
    refine ⟨⟨hp, (fun q hq => by cases hq), trivial⟩, fun q hq => ?_, fun x => ?_⟩
    · simp at hq; subst hq; omega
    · rw [has_cons]
      have := has_nil x
      constructor
      · rintro (h | h)
        · exact ⟨h, by omega⟩
        · exact absurd h this
      · rintro ⟨h, _⟩
        exact .inl h
  · rename_i h1
    by_cases h2 : p.1 < lo
    · by_cases h3 : hi < p.2
      · rw [if_pos h2, if_pos h3]
        refine ⟨⟨by simp only; omega, fun q hq => ?_, by simp only; omega, (fun q hq => by cases hq), trivial⟩, fun q hq => ?_, fun x => ?_⟩
        · simp at hq; subst hq; simp only; omega
        · simp at hq; rcases hq with rfl | rfl <;> simp only <;> omega
        · rw [List.singleton_append, has_cons, has_cons]
          have := has_nil x
          simp only
          constructor
          · rintro (h | h | h)
            · omega
            · omega
            · exact absurd h this
          · rintro ⟨h4, h5⟩
            by_cases h6 : x < lo
            · exact .inl (by omega)
            · exact .inr (.inl (by omega))
      · rw [if_pos h2, if_neg h3]
        refine ⟨⟨by simp only; omega, (fun q hq => by cases hq), trivial⟩, fun q hq => ?_, fun x => ?_⟩
        · simp at hq; subst hq; simp only; omega
        · rw [List.append_nil, has_cons]
          have := has_nil x
          simp only
          constructor
          · rintro (h | h)
            · omega
            · exact absurd h this
          · rintro ⟨h4, h5⟩
            exact .inl (by omega)
    · by_cases h3 : hi < p.2
      · rw [if_neg h2, if_pos h3]
        refine ⟨⟨by simp only; omega, (fun q hq => by cases hq), trivial⟩, fun q hq => ?_, fun x => ?_⟩
        · simp at hq; subst hq; simp only; omega
        · rw [List.nil_append, has_cons]
          have := has_nil x
          simp only
          constructor
          · rintro (h | h)
            · omega
            · exact absurd h this
          · rintro ⟨h4, h5⟩
            exact .inl (by omega)
      · rw [if_neg h2, if_neg h3]
        refine ⟨trivial, (fun q hq => by cases hq), fun x => ?_⟩
        constructor
        · intro h
          exact absurd h (has_nil x)
        · rintro ⟨h4, h5⟩
          omega
theorem cut_spec {lo hi : Int} (h : lo ≤ hi) : ∀ {l : List Pt}, Sep l → Sep (cut l lo hi) ∧ (∀ q, q ∈ cut l lo hi → ∃ p, p ∈ l ∧ p.1 ≤ q.1 ∧ q.2 ≤ p.2) ∧ (∀ x, has (cut l lo hi) x ↔ has l x ∧ ¬ (lo ≤ x ∧ x ≤ hi)) ∧ (cut l lo hi).length ≤ l.length + 1
  | [], _ => ⟨trivial, (fun q hq => by cases hq), (fun x => by simp [cut, has_nil]), by simp [cut]⟩
  | p :: r, hs => by
    obtain ⟨i1, i2, i3, i4⟩ := cut_spec h hs.2.2
    obtain ⟨p1, p2, p3⟩ := piece_spec h hs.1
    have e : cut (p :: r) lo hi = piece lo hi p ++ cut r lo hi := rfl
    rw [e]
    refine ⟨sep_app.mpr ⟨p1, i1, fun a ha b hb => ?_⟩, fun q hq => ?_, fun x => ?_, ?_⟩
    · obtain ⟨c, hc, h1, h2⟩ := i2 b hb
      have h3 := hs.2.1 c hc
      have h4 := p2 a ha
      omega
    · rcases List.mem_append.mp hq with hq | hq
      · exact ⟨p, List.mem_cons_self, p2 q hq⟩
      · obtain ⟨c, hc, h1⟩ := i2 q hq
        exact ⟨c, List.mem_cons_of_mem _ hc, h1⟩
    · rw [has_app, p3 x, i3 x, has_cons]
      constructor
      · rintro (h | h)
        · exact ⟨.inl h.1, h.2⟩
        · exact ⟨.inr h.1, h.2⟩
      · rintro ⟨h | h, h2⟩
        · exact .inl ⟨h, h2⟩
        · exact .inr ⟨h, h2⟩
    · rw [List.length_append, List.length_cons]
      by_cases h2 : hi < p.2
      · have er : cut r lo hi = r := by
          have : ∀ r : List Pt, (∀ q, q ∈ r → hi < q.1) → cut r lo hi = r := by
            intro r
            induction r with
            | nil => intro _; rfl
            | cons a r ih =>
              intro hr
              have e : cut (a :: r) lo hi = piece lo hi a ++ cut r lo hi := rfl
              have h1 := hr a List.mem_cons_self
              rw [e, ih (fun q hq => hr q (List.mem_cons_of_mem _ hq))]
              unfold piece
              rw [if_pos (.inr h1)]
              rfl
          exact this r fun q hq => by have := hs.2.1 q hq; omega
        rw [er]
        have : (piece lo hi p).length ≤ 2 := by
          unfold piece
          split
          · simp
          · split <;> simp
        omega
      · have : (piece lo hi p).length ≤ 1 := by
          unfold piece
          split
          · simp
          · split <;> simp
        omega
def without (a b : List Pt) : List Pt := (tidy b).foldl (fun r p => cut r p.1 p.2) (tidy a)
theorem wo_go : ∀ (b r : List Pt), Sep r → (∀ p, p ∈ b → p.1 ≤ p.2) → Sep (b.foldl (fun r p => cut r p.1 p.2) r) ∧ (∀ x, has (b.foldl (fun r p => cut r p.1 p.2) r) x ↔ has r x ∧ ¬ has b x) ∧ (b.foldl (fun r p => cut r p.1 p.2) r).length ≤ r.length + b.length
  | [], r, hr, _ => ⟨hr, fun x => by simp [has_nil], by simp⟩
  | p :: b, r, hr, h => by
    obtain ⟨m1, _, m2, m3⟩ := cut_spec (h p List.mem_cons_self) hr
    obtain ⟨i1, i2, i3⟩ := wo_go b _ m1 (fun q hq => h q (List.mem_cons_of_mem _ hq))
    refine ⟨i1, fun x => ?_, by simp only [List.foldl_cons, List.length_cons]; omega⟩
    rw [List.foldl_cons, i2 x, m2 x, has_cons]
    grind
theorem without_spec {a b : List Pt} (ha : ∀ p, p ∈ a → p.1 ≤ p.2) (hb : ∀ p, p ∈ b → p.1 ≤ p.2) : Sep (without a b) ∧ (∀ x, has (without a b) x ↔ has a x ∧ ¬ has b x) ∧ (without a b).length ≤ a.length + b.length := by
  obtain ⟨a1, a2, a3⟩ := tidy_spec ha
  obtain ⟨b1, b2, b3⟩ := tidy_spec hb
  obtain ⟨c1, c2, c3⟩ := wo_go (tidy b) (tidy a) a1 b1.ok
  refine ⟨c1, fun x => ?_, by unfold without; omega⟩
  rw [without, c2 x, a2 x, b2 x]
def joined (a b : List Pt) : List Pt := tidy (a ++ tidy b)
def common (a b : List Pt) : List Pt := without (tidy a) (without (tidy a) b)
theorem ok_app {a b : List Pt} (ha : ∀ p, p ∈ a → p.1 ≤ p.2) (hb : ∀ p, p ∈ b → p.1 ≤ p.2) : ∀ p, p ∈ a ++ b → p.1 ≤ p.2 := fun p hp => by
  rcases List.mem_append.mp hp with hp | hp
  · exact ha p hp
  · exact hb p hp
theorem joined_spec {a b : List Pt} (ha : ∀ p, p ∈ a → p.1 ≤ p.2) (hb : ∀ p, p ∈ b → p.1 ≤ p.2) : Sep (joined a b) ∧ (∀ x, has (joined a b) x ↔ has a x ∨ has b x) ∧ (joined a b).length ≤ a.length + b.length := by
  obtain ⟨b1, b2, b3⟩ := tidy_spec hb
  obtain ⟨c1, c2, c3⟩ := tidy_spec (ok_app ha b1.ok)
  refine ⟨c1, fun x => ?_, by unfold joined; rw [List.length_append] at c3; omega⟩
  rw [joined, c2 x, has_app, b2 x]
theorem common_spec {a b : List Pt} (ha : ∀ p, p ∈ a → p.1 ≤ p.2) (hb : ∀ p, p ∈ b → p.1 ≤ p.2) : Sep (common a b) ∧ (∀ x, has (common a b) x ↔ has a x ∧ has b x) ∧ (common a b).length ≤ 2 * a.length + b.length := by
  obtain ⟨a1, a2, a3⟩ := tidy_spec ha
  obtain ⟨b1, b2, b3⟩ := without_spec a1.ok hb
  obtain ⟨c1, c2, c3⟩ := without_spec a1.ok b1.ok
  refine ⟨c1, fun x => ?_, by unfold common; omega⟩
  rw [common, c2 x, b2 x, a2 x]
  grind
/-! ### sizes -/
def size (l : List Pt) : Int := (l.map fun p => p.2 - p.1 + 1).sum
def bit : Bool → Int
  | true => 1
  | false => 0
def cnt (P : Int → Bool) (lo : Int) : Nat → Int
  | 0 => 0
  | n + 1 => cnt P lo n + bit (P (lo + n))
theorem cnt_congr {P Q : Int → Bool} (h : ∀ x, P x = Q x) (lo : Int) (n : Nat) : cnt P lo n = cnt Q lo n := by
  have : P = Q := funext h
  rw [this]
theorem cnt_incl (P Q : Int → Bool) (lo : Int) : ∀ n, cnt (fun x => P x || Q x) lo n + cnt (fun x => P x && Q x) lo n = cnt P lo n + cnt Q lo n
  | 0 => rfl
  | n + 1 => by
    have := cnt_incl P Q lo n
    simp only [cnt]
    cases h1 : P (lo + n) <;> cases h2 : Q (lo + n) <;> simp [bit] <;> omega
theorem cnt_diff (P Q : Int → Bool) (lo : Int) : ∀ n, cnt (fun x => P x && !Q x) lo n + cnt (fun x => P x && Q x) lo n = cnt P lo n
  | 0 => rfl
  | n + 1 => by
    have := cnt_diff P Q lo n
    simp only [cnt]
    cases h1 : P (lo + n) <;> cases h2 : Q (lo + n) <;> simp [bit] <;> omega
theorem cnt_none (P : Int → Bool) (lo : Int) (h : ∀ x, P x = false) : ∀ n, cnt P lo n = 0
  | 0 => rfl
  | n + 1 => by simp [cnt, cnt_none P lo h n, h, bit]
def inB (p : Pt) (x : Int) : Bool := decide (p.1 ≤ x) && decide (x ≤ p.2)
def hasB (l : List Pt) (x : Int) : Bool := l.any fun p => inB p x
theorem hasB_iff (l : List Pt) (x : Int) : hasB l x = true ↔ has l x := by
  simp [hasB, has, inB]
theorem cnt_in {p : Pt} {lo : Int} (hp : p.1 ≤ p.2) (hl : lo ≤ p.1) : ∀ n : Nat, cnt (inB p) lo n = if lo + n ≤ p.1 then 0 else if p.2 < lo + n then p.2 - p.1 + 1 else lo + n - p.1
  | 0 => by simp [cnt]; omega
  | n + 1 => by
    have := cnt_in hp hl n
    simp only [cnt, this]
    by_cases h1 : p.1 ≤ lo + n
    · by_cases h2 : lo + n ≤ p.2
      · have e : inB p (lo + n) = true := by simp [inB, h1, h2]
        rw [e]
        simp only [bit]
        split <;> split <;> omega
      · have e : inB p (lo + n) = false := by simp [inB, h1]; omega
        rw [e]
        simp only [bit]
        split <;> split <;> omega
    · have e : inB p (lo + n) = false := by simp [inB]; omega
      rw [e]
      simp only [bit]
      split <;> split <;> omega
theorem size_cnt {lo : Int} {n : Nat} : ∀ {l : List Pt}, Sep l → (∀ p, p ∈ l → lo ≤ p.1 ∧ p.2 < lo + n) → size l = cnt (hasB l) lo n
  | [], _, _ => by rw [cnt_none (hasB []) lo (fun x => rfl)]; rfl
  | p :: r, hs, h => by
    have ih := size_cnt hs.2.2 (fun q hq => h q (List.mem_cons_of_mem _ hq))
    obtain ⟨h1, h2⟩ := h p List.mem_cons_self
    have e : size (p :: r) = (p.2 - p.1 + 1) + size r := by simp [size]
    have i1 := cnt_in hs.1 h1 n
    rw [if_neg (by have := hs.1; omega), if_pos h2] at i1
    have inc := cnt_incl (inB p) (hasB r) lo n
    rw [cnt_none (fun x => inB p x && hasB r x) lo (fun x => ?_)] at inc
    · rw [e, ih]
      have : cnt (hasB (p :: r)) lo n = cnt (fun x => inB p x || hasB r x) lo n := cnt_congr (fun x => rfl) lo n
      omega
    · cases h3 : inB p x with
      | false => rfl
      | true =>
        cases h4 : hasB r x with
        | false => rfl
        | true =>
          obtain ⟨q, hq, h5⟩ := (hasB_iff r x).mp h4
          have := hs.2.1 q hq
          simp [inB] at h3
          omega
theorem window : ∀ l : List Pt, ∃ (lo : Int) (n : Nat), ∀ p, p ∈ l → lo ≤ p.1 ∧ p.2 < lo + n
  | [] => ⟨0, 0, fun p hp => by cases hp⟩
  | p :: r => by
    obtain ⟨lo, n, h⟩ := window r
    refine ⟨min lo p.1, (max (lo + n) (p.2 + 1) - min lo p.1).toNat, fun q hq => ?_⟩
    rcases List.mem_cons.mp hq with rfl | hq
    · omega
    · have := h q hq
      omega
theorem sizes {a b : List Pt} (ha : ∀ p, p ∈ a → p.1 ≤ p.2) (hb : ∀ p, p ∈ b → p.1 ≤ p.2) :
    size (joined a b) + size (common a b) = size (tidy a) + size (tidy b) ∧ size (without a b) + size (common a b) = size (tidy a) := by
  obtain ⟨lo, n, h⟩ := window (joined a b ++ common a b ++ tidy a ++ tidy b ++ without a b)
  obtain ⟨j1, j2, _⟩ := joined_spec ha hb
  obtain ⟨c1, c2, _⟩ := common_spec ha hb
  obtain ⟨a1, a2, _⟩ := tidy_spec ha
  obtain ⟨b1, b2, _⟩ := tidy_spec hb
  obtain ⟨w1, w2, _⟩ := without_spec ha hb
  have bj : ∀ x, hasB (joined a b) x = (hasB (tidy a) x || hasB (tidy b) x) := fun x => by
    rw [Bool.eq_iff_iff, Bool.or_eq_true, hasB_iff, hasB_iff, hasB_iff, j2, a2, b2]
  have bc : ∀ x, hasB (common a b) x = (hasB (tidy a) x && hasB (tidy b) x) := fun x => by
    rw [Bool.eq_iff_iff, Bool.and_eq_true, hasB_iff, hasB_iff, hasB_iff, c2, a2, b2]
  have bw : ∀ x, hasB (without a b) x = (hasB (tidy a) x && !hasB (tidy b) x) := fun x => by
    rw [Bool.eq_iff_iff, Bool.and_eq_true, Bool.not_eq_true', ← Bool.not_eq_true, hasB_iff, hasB_iff, hasB_iff, w2, a2, b2]
  rw [size_cnt j1 (fun p hp => h p (by simp [hp])), size_cnt c1 (fun p hp => h p (by simp [hp])), size_cnt a1 (fun p hp => h p (by simp [hp])), size_cnt b1 (fun p hp => h p (by simp [hp])), size_cnt w1 (fun p hp => h p (by simp [hp]))]
  rw [cnt_congr bj, cnt_congr bc, cnt_congr bw]
  exact ⟨cnt_incl _ _ lo n, cnt_diff _ _ lo n⟩
theorem joined_tidy {a b : List Pt} (ha : ∀ p, p ∈ a → p.1 ≤ p.2) (hb : ∀ p, p ∈ b → p.1 ≤ p.2) : joined a b = tidy (a ++ b) := by
  obtain ⟨j1, j2, _⟩ := joined_spec ha hb
  obtain ⟨c1, c2, _⟩ := tidy_spec (ok_app ha hb)
  exact sep_eq _ _ j1 c1 fun x => by rw [j2, c2, has_app]
end Sp

namespace Ev
open PySem L2
/-- a loop whose turns may end by `continue` -/
theorem forGo_inv2 {d : D} {tg : Tg} {body : Sg → Sto → R Fl} {xs : List D} (P : Nat → Sg → Sto → Prop) (hi : ∀ i σ S, P i σ S → items S d = some xs)
    (hs : ∀ i σ S (h : i < xs.length), P i σ S → ∃ σ1, setTg tg xs[i] σ = some σ1 ∧ ∃ σ2 S2, (body σ1 S = .ok (.nx σ2) S2 ∨ body σ1 S = .ok (.ct σ2) S2) ∧ P (i + 1) σ2 S2) :
    ∀ n i σ S, i + n = xs.length + 1 → i ≤ xs.length → P i σ S → ∃ σ' S', forGo d tg body n i σ S = .ok (.nx σ') S' ∧ P xs.length σ' S'
  | 0, i, σ, S, e, h2, p => by omega
  | n + 1, i, σ, S, e, h2, p => by
    unfold forGo
    simp only [hi i σ S p]
    by_cases hx : i < xs.length
    · rw [List.getElem?_eq_getElem hx]
      obtain ⟨σ1, e1, σ2, S2, e2, p2⟩ := hs i σ S hx p
      have ih := forGo_inv2 P hi hs n (i + 1) σ2 S2 (by omega) (by omega) p2
      rcases e2 with e2 | e2
      · simp only [e1, e2, R.bind_ok, loopK_nx]
        exact ih
      · simp only [e1, e2, R.bind_ok, loopK_ct]
        exact ih
    · rw [List.getElem?_eq_none (by omega)]
      have : i = xs.length := by omega
      subst this
      exact ⟨σ, S, rfl, p⟩
theorem forK_inv2 {d : D} {tg : Tg} {body : Sg → Sto → R Fl} {xs : List D} {σ : Sg} {S : Sto} (P : Nat → Sg → Sto → Prop) (hi : ∀ i σ S, P i σ S → items S d = some xs)
    (hs : ∀ i σ S (h : i < xs.length), P i σ S → ∃ σ1, setTg tg xs[i] σ = some σ1 ∧ ∃ σ2 S2, (body σ1 S = .ok (.nx σ2) S2 ∨ body σ1 S = .ok (.ct σ2) S2) ∧ P (i + 1) σ2 S2) (p : P 0 σ S) :
    ∃ σ' S', forK tg body σ d S = .ok (.nx σ') S' ∧ P xs.length σ' S' := by
  unfold forK
  simp only [hi 0 σ S p]
  exact forGo_inv2 P hi hs (xs.length + 1) 0 σ S (by omega) (by omega) p
/-- a comprehension over pairs that takes every pair -/
theorem lcK_map {elt cond : Sg → Sto → R D} {tg : Tg} {σ : Sg} {d : D} {S : Sto} {l : List (Int × Int)} (g : Int × Int → D) (hi : items S d = some (pl l)) (hl : l.length ≤ lim)
    (h : ∀ p, p ∈ l → ∃ σ1, setTg tg (pr p) (wipeD σ tg.slots) = some σ1 ∧ cond σ1 S = .ok (.bl true) S ∧ elt σ1 S = .ok (g p) S) : lcK elt cond tg σ d S = .ok (.lv (l.map g)) S := by
  have e : (((pl l).filter fun _ => true).map fun d => match d with | .tup [.int a, .int b] => g (a, b) | _ => .non) = l.map g := by
    rw [List.filter_eq_self.mpr (fun _ _ => rfl)]
    unfold pl
    rw [List.map_map]
    rfl
  rw [← e]
  refine lcK_pure _ _ hi (by rw [pl_len]; exact hl) fun x hx => ?_
  obtain ⟨p, hp, rfl⟩ := List.mem_map.mp hx
  obtain ⟨σ1, e1, e2, e3⟩ := h p hp
  exact ⟨σ1, e1, e2, fun _ => e3⟩
theorem ints_of (ns : List Int) : intsOf (ns.map D.int) = some ns := by
  induction ns with
  | nil => rfl
  | cons n r ih => simp [intsOf, ih]
theorem sum_lv (ns : List Int) (S : Sto) : bltD .sum [.lv (ns.map D.int)] S = .ok (.int ns.sum) S := by
  simp [bltD, sumD, listOf, ints_of]
/-- a frozen sequence of pairs: a list or a tuple -/
def Src (d : D) (l : List (Int × Int)) : Prop := d = .lv (pl l) ∨ d = .tup (pl l)
theorem Src.items {d : D} {l : List (Int × Int)} (h : Src d l) (S : Sto) : items S d = some (pl l) := by
  rcases h with rfl | rfl <;> rfl
theorem Src.list {d : D} {l : List (Int × Int)} (h : Src d l) (S : Sto) : bltD .list [d] S = .ok (.lv (pl l)) S := by
  rcases h with rfl | rfl <;> rfl
end Ev

/-! Spans by the pieces between all ends. -/
namespace Sp
open Ev (sortI)
def starts (l : List Pt) : List Int := l.flatMap fun p => [p.1, p.2 + 1]
def ptS (r : List Pt) (lo hi : Int) : List Pt := match r.getLast? with
  | none => [(lo, hi)]
  | some q => if q.2 + 1 = lo then r.dropLast ++ [(q.1, hi)] else r ++ [(lo, hi)]
def partS (W : Int → Bool) (r : List Pt) (lo hi : Int) : List Pt := if W lo = true ∧ lo ≤ hi then ptS r lo hi else r
def partK (W : Int → Bool) (pts : List Int) : Nat → List Pt
  | 0 => []
  | k + 1 => partS W (partK W pts k) (pts.getD k 0) (pts.getD (k + 1) 0 - 1)
theorem getD_at (l : List Int) (d : Int) {i : Nat} (h : i < l.length) : l.getD i d = l[i] := by
  rw [List.getD_eq_getElem?_getD, List.getElem?_eq_getElem h]; rfl
theorem part_inv {W : Int → Bool} {pts : List Int} (hs : pts.Pairwise (· ≤ ·)) (hc : ∀ lo hi, (∀ q, q ∈ pts → q ≤ lo ∨ hi < q) → ∀ x, lo ≤ x → x ≤ hi → W x = W lo) (hlow : ∀ x, (∀ q, q ∈ pts → x < q) → W x = false) :
    ∀ k, k < pts.length → Sep (partK W pts k) ∧ (∀ p, p ∈ partK W pts k → p.2 < pts.getD k 0) ∧ (∀ x, has (partK W pts k) x ↔ W x = true ∧ x < pts.getD k 0) ∧ (partK W pts k).length ≤ k
  | 0, h => by
    refine ⟨trivial, (fun p hp => by cases hp), fun x => ?_, Nat.le_refl _⟩
    constructor
    · intro h
      exact absurd h (has_nil x)
    · rintro ⟨h1, h2⟩
      rw [hlow x (fun q hq => ?_)] at h1
      · cases h1
      · obtain ⟨i, hi, rfl⟩ := List.getElem_of_mem hq
        rw [getD_at _ _ h] at h2
        rcases Nat.eq_zero_or_pos i with rfl | hp
        · exact h2
        · have := List.pairwise_iff_getElem.mp hs 0 i h hi hp
          omega
  | k + 1, h => by
    obtain ⟨i1, i2, i3, i4⟩ := part_inv hs hc hlow k (by omega)
    have hk : k < pts.length := by omega
    have le := List.pairwise_iff_getElem.mp hs k (k + 1) hk h (by omega)
    have dich : ∀ q, q ∈ pts → q ≤ pts.getD k 0 ∨ pts.getD (k + 1) 0 - 1 < q := by
      intro q hq
      obtain ⟨i, hi, rfl⟩ := List.getElem_of_mem hq
      rw [getD_at _ _ hk, getD_at _ _ h]
      rcases Nat.lt_or_ge k i with hp | hp
      · right
        rcases Nat.eq_or_lt_of_le (show k + 1 ≤ i from hp) with e | e
        · subst e; omega
        · have := List.pairwise_iff_getElem.mp hs (k + 1) i h hi e
          omega
      · left
        rcases Nat.eq_or_lt_of_le hp with e | e
        · subst e; omega
        · exact List.pairwise_iff_getElem.mp hs i k hi hk e
    have con := hc _ _ dich
    rw [← getD_at pts 0 hk, ← getD_at pts 0 h] at le
    unfold partK partS
    generalize pts.getD k 0 = a at *
    generalize pts.getD (k + 1) 0 = b at *
    generalize partK W pts k = r at *
    by_cases hw : W a = true ∧ a ≤ b - 1
    · rw [if_pos hw]
      have key : ∀ x, (a ≤ x ∧ x ≤ b - 1) → W x = true := fun x hx => by rw [con x hx.1 hx.2]; exact hw.1
      have split : ∀ x, (W x = true ∧ x < b) ↔ (W x = true ∧ x < a) ∨ (a ≤ x ∧ x ≤ b - 1) := by
        intro x
        constructor
        · rintro ⟨h1, h2⟩
          by_cases hx : x < a
          · exact .inl ⟨h1, hx⟩
          · exact .inr (by omega)
        · rintro (⟨h1, h2⟩ | h1)
          · exact ⟨h1, by omega⟩
          · exact ⟨key x h1, by omega⟩
      rcases List.eq_nil_or_concat r with rfl | ⟨r', q, rfl⟩
      · have e : ptS [] a (b - 1) = [(a, b - 1)] := rfl
        rw [e]
        refine ⟨⟨hw.2, (fun q hq => by cases hq), trivial⟩, fun p hp => ?_, fun x => ?_, by simp⟩
        · simp at hp; subst hp; simp only; omega
        · rw [split, ← i3, has_cons]
          simp only
          grind
      · rw [List.concat_eq_append] at *
        obtain ⟨s1, s2, s3⟩ := sep_app.mp i1
        have hq := i2 q (by simp)
        have hqo := s2.1
        unfold ptS
        rw [List.getLast?_concat]
        simp only
        split
        · rename_i h1
          rw [List.dropLast_concat]
          refine ⟨sep_app.mpr ⟨s1, ⟨by simp only; omega, (fun q hq => by cases hq), trivial⟩, fun p hp p' hp' => ?_⟩, fun p hp => ?_, fun x => ?_, by simp at i4 ⊢; omega⟩
          · simp at hp'; subst hp'
            exact s3 p hp q (by simp)
          · rcases List.mem_append.mp hp with hp | hp
            · have := i2 p (by simp [hp]); omega
            · simp at hp; subst hp; simp only; omega
          · rw [split, ← i3, has_app, has_cons, has_app, has_cons]
            have := has_nil x
            simp only
            constructor
            · rintro (h | h | h)
              · exact .inl (.inl h)
              · by_cases hx : x ≤ q.2
                · exact .inl (.inr (.inl ⟨h.1, hx⟩))
                · exact .inr (by omega)
              · exact absurd h this
            · rintro ((h | h | h) | h)
              · exact .inl h
              · exact .inr (.inl (by omega))
              · exact absurd h this
              · exact .inr (.inl (by omega))
        · rename_i h1
          refine ⟨sep_app.mpr ⟨i1, ⟨by simp only; omega, (fun q hq => by cases hq), trivial⟩, fun p hp p' hp' => ?_⟩, fun p hp => ?_, fun x => ?_, by simp at i4 ⊢; omega⟩
          · simp at hp'; subst hp'
            rcases List.mem_append.mp hp with hp | hp
            · have := s3 p hp q (by simp); simp only; omega
            · simp at hp; subst hp; simp only; omega
          · rcases List.mem_append.mp hp with hp | hp
            · have := i2 p hp; omega
            · simp at hp; subst hp; simp only; omega
          · rw [split, ← i3, has_app, has_cons]
            have := has_nil x
            simp only
            grind
    · rw [if_neg hw]
      refine ⟨i1, fun p hp => ?_, fun x => ?_, by omega⟩
      · have := i2 p hp; omega
      · rw [i3]
        constructor
        · rintro ⟨h1, h2⟩
          exact ⟨h1, by omega⟩
        · rintro ⟨h1, h2⟩
          refine ⟨h1, ?_⟩
          by_cases hx : x < a
          · exact hx
          · exfalso
            apply hw
            have := con x (by omega) (by omega)
            exact ⟨by rw [← this]; exact h1, by omega⟩
theorem starts_mem {l : List Pt} {p : Pt} (h : p ∈ l) : p.1 ∈ starts l ∧ p.2 + 1 ∈ starts l := by
  unfold starts
  exact ⟨List.mem_flatMap.mpr ⟨p, h, by simp⟩, List.mem_flatMap.mpr ⟨p, h, by simp⟩⟩
theorem hasB_con {l : List Pt} {lo hi : Int} (h : ∀ q, q ∈ starts l → q ≤ lo ∨ hi < q) {x : Int} (h1 : lo ≤ x) (h2 : x ≤ hi) : hasB l x = hasB l lo := by
  rw [Bool.eq_iff_iff, hasB_iff, hasB_iff]
  constructor
  · rintro ⟨p, hp, a, b⟩
    obtain ⟨m1, m2⟩ := starts_mem hp
    have := h _ m1
    have := h _ m2
    exact ⟨p, hp, by omega, by omega⟩
  · rintro ⟨p, hp, a, b⟩
    obtain ⟨m1, m2⟩ := starts_mem hp
    have := h _ m1
    have := h _ m2
    exact ⟨p, hp, by omega, by omega⟩
theorem hasB_low {l : List Pt} {x : Int} (h : ∀ q, q ∈ starts l → x < q) : hasB l x = false := by
  rw [← Bool.not_eq_true, hasB_iff]
  rintro ⟨p, hp, a, b⟩
  have := h _ (starts_mem hp).1
  omega
theorem hasB_high {l : List Pt} {x : Int} (h : ∀ q, q ∈ starts l → q ≤ x) : hasB l x = false := by
  rw [← Bool.not_eq_true, hasB_iff]
  rintro ⟨p, hp, a, b⟩
  have := h _ (starts_mem hp).2
  omega
def points (a b : List Pt) : List Int := sortI (starts a ++ starts b)
theorem points_mem (a b : List Pt) (x : Int) : x ∈ points a b ↔ x ∈ starts a ∨ x ∈ starts b := by
  unfold points sortI
  rw [List.mem_mergeSort, List.mem_append]
theorem points_sorted (a b : List Pt) : (points a b).Pairwise (· ≤ ·) := by
  have := List.pairwise_mergeSort (le := fun a b : Int => decide (a ≤ b)) (fun a b c h1 h2 => by simp at h1 h2 ⊢; omega) (fun a b => by simp; omega) (starts a ++ starts b)
  exact List.Pairwise.imp (fun h => by simpa using h) this
theorem starts_len (l : List Pt) : (starts l).length = 2 * l.length := by
  induction l with
  | nil => rfl
  | cons p r ih =>
    have : starts (p :: r) = p.1 :: (p.2 + 1) :: starts r := rfl
    rw [this]
    simp [ih]
    omega
theorem points_len (a b : List Pt) : (points a b).length = 2 * a.length + 2 * b.length := by
  unfold points sortI
  rw [List.length_mergeSort, List.length_append, starts_len, starts_len]
def wish (f : Bool → Bool → Bool) (a b : List Pt) (x : Int) : Bool := f (hasB a x) (hasB b x)
def parts (f : Bool → Bool → Bool) (a b : List Pt) : List Pt := partK (wish f a b) (points a b) ((points a b).length - 1)
theorem parts_pre {f : Bool → Bool → Bool} (hf : f false false = false) (a b : List Pt) : ∀ k, k < (points a b).length → Sep (partK (wish f a b) (points a b) k) ∧ (∀ p, p ∈ partK (wish f a b) (points a b) k → p.2 < (points a b).getD k 0) ∧ (∀ x, has (partK (wish f a b) (points a b) k) x ↔ wish f a b x = true ∧ x < (points a b).getD k 0) ∧ (partK (wish f a b) (points a b) k).length ≤ k := by
  refine part_inv (points_sorted a b) (fun lo hi h x h1 h2 => ?_) (fun x h => ?_)
  · unfold wish
    rw [hasB_con (fun q hq => h q ((points_mem a b q).mpr (.inl hq))) h1 h2, hasB_con (fun q hq => h q ((points_mem a b q).mpr (.inr hq))) h1 h2]
  · unfold wish
    rw [hasB_low (fun q hq => h q ((points_mem a b q).mpr (.inl hq))), hasB_low (fun q hq => h q ((points_mem a b q).mpr (.inr hq)))]
    exact hf
theorem parts_spec {f : Bool → Bool → Bool} (hf : f false false = false) (a b : List Pt) : Sep (parts f a b) ∧ (∀ x, has (parts f a b) x ↔ wish f a b x = true) ∧ (parts f a b).length ≤ 2 * a.length + 2 * b.length := by
  have hl := points_len a b
  by_cases h0 : (points a b).length = 0
  · have ea : a = [] := List.eq_nil_of_length_eq_zero (by omega)
    have eb : b = [] := List.eq_nil_of_length_eq_zero (by omega)
    subst ea eb
    have e : parts f [] [] = [] := by unfold parts; rw [h0]; rfl
    rw [e]
    refine ⟨trivial, fun x => ?_, Nat.zero_le _⟩
    have : wish f [] [] x = false := hf
    rw [this]
    constructor
    · intro h
      exact absurd h (has_nil x)
    · intro h
      cases h
  · obtain ⟨i1, i2, i3, i4⟩ := parts_pre hf a b ((points a b).length - 1) (by omega)
    refine ⟨i1, fun x => ?_, by unfold parts; omega⟩
    unfold parts
    rw [i3]
    constructor
    · exact fun h => h.1
    · intro h
      refine ⟨h, ?_⟩
      by_cases hx : x < (points a b).getD ((points a b).length - 1) 0
      · exact hx
      · exfalso
        have big : ∀ q, q ∈ points a b → q ≤ x := by
          intro q hq
          obtain ⟨i, hi, rfl⟩ := List.getElem_of_mem hq
          rw [getD_at _ _ (show (points a b).length - 1 < (points a b).length by omega)] at hx
          rcases Nat.eq_or_lt_of_le (show i ≤ (points a b).length - 1 by omega) with e | e
          · subst e; omega
          · have := List.pairwise_iff_getElem.mp (points_sorted a b) i ((points a b).length - 1) hi (by omega) e
            omega
        unfold wish at h
        rw [hasB_high (fun q hq => big q ((points_mem a b q).mpr (.inl hq))), hasB_high (fun q hq => big q ((points_mem a b q).mpr (.inr hq))), hf] at h
        cases h
theorem parts_joined {a b : List Pt} (ha : ∀ p, p ∈ a → p.1 ≤ p.2) (hb : ∀ p, p ∈ b → p.1 ≤ p.2) : joined a b = parts (fun x y => x || y) a b := by
  obtain ⟨j1, j2, _⟩ := joined_spec ha hb
  obtain ⟨p1, p2, _⟩ := parts_spec (f := fun x y => x || y) rfl a b
  refine sep_eq _ _ j1 p1 fun x => ?_
  rw [j2, p2, wish, Bool.or_eq_true, hasB_iff, hasB_iff]
theorem parts_common {a b : List Pt} (ha : ∀ p, p ∈ a → p.1 ≤ p.2) (hb : ∀ p, p ∈ b → p.1 ≤ p.2) : common a b = parts (fun x y => x && y) a b := by
  obtain ⟨j1, j2, _⟩ := common_spec ha hb
  obtain ⟨p1, p2, _⟩ := parts_spec (f := fun x y => x && y) rfl a b
  refine sep_eq _ _ j1 p1 fun x => ?_
  rw [j2, p2, wish, Bool.and_eq_true, hasB_iff, hasB_iff]
theorem parts_without {a b : List Pt} (ha : ∀ p, p ∈ a → p.1 ≤ p.2) (hb : ∀ p, p ∈ b → p.1 ≤ p.2) : without a b = parts (fun x y => x && !y) a b := by
  obtain ⟨j1, j2, _⟩ := without_spec ha hb
  obtain ⟨p1, p2, _⟩ := parts_spec (f := fun x y => x && !y) rfl a b
  refine sep_eq _ _ j1 p1 fun x => ?_
  rw [j2, p2, wish, Bool.and_eq_true, Bool.not_eq_true', ← Bool.not_eq_true, hasB_iff, hasB_iff]
end Sp

namespace Ev
open PySem L2
/-- a loop that leaves at the first item that passes a test -/
theorem forGo_ret {d v : D} {tg : Tg} {body : Sg → Sto → R Fl} {xs : List D} {S : Sto} (t : D → Bool) (P : Sg → Prop) (hi : items S d = some xs)
    (hs : ∀ σ x, x ∈ xs → P σ → ∃ σ1, setTg tg x σ = some σ1 ∧ (t x = true → body σ1 S = .ok (.rt v) S) ∧ (t x = false → ∃ σ2, body σ1 S = .ok (.nx σ2) S ∧ P σ2)) :
    ∀ n i σ, i + n = xs.length + 1 → i ≤ xs.length → P σ → ((xs.drop i).any t = true → forGo d tg body n i σ S = .ok (.rt v) S) ∧ ((xs.drop i).any t = false → ∃ σ', forGo d tg body n i σ S = .ok (.nx σ') S ∧ P σ')
  | 0, i, σ, e, h2, p => by omega
  | n + 1, i, σ, e, h2, p => by
    unfold forGo
    simp only [hi]
    by_cases hx : i < xs.length
    · rw [List.getElem?_eq_getElem hx, List.drop_eq_getElem_cons hx]
      obtain ⟨σ1, e1, e2, e3⟩ := hs σ xs[i] (List.getElem_mem hx) p
      cases ht : t xs[i] with
      | true =>
        refine ⟨fun _ => ?_, fun h => ?_⟩
        · simp only [e1, e2 ht, R.bind_ok, loopK_rt]
        · rw [List.any_cons, ht] at h
          cases h
      | false =>
        obtain ⟨σ2, e4, p2⟩ := e3 ht
        obtain ⟨a, b⟩ := forGo_ret t P hi hs n (i + 1) σ2 (by omega) (by omega) p2
        simp only [e1, e4, R.bind_ok, loopK_nx, List.any_cons, ht, Bool.false_or]
        exact ⟨a, b⟩
    · rw [List.getElem?_eq_none (by omega), List.drop_eq_nil_of_le (by omega)]
      exact ⟨fun h => by simp at h, fun _ => ⟨σ, rfl, p⟩⟩
theorem forK_ret {d v : D} {tg : Tg} {body : Sg → Sto → R Fl} {xs : List D} {S : Sto} {σ : Sg} (t : D → Bool) (P : Sg → Prop) (hi : items S d = some xs)
    (hs : ∀ σ x, x ∈ xs → P σ → ∃ σ1, setTg tg x σ = some σ1 ∧ (t x = true → body σ1 S = .ok (.rt v) S) ∧ (t x = false → ∃ σ2, body σ1 S = .ok (.nx σ2) S ∧ P σ2)) (p : P σ) :
    (xs.any t = true → forK tg body σ d S = .ok (.rt v) S) ∧ (xs.any t = false → ∃ σ', forK tg body σ d S = .ok (.nx σ') S ∧ P σ') := by
  unfold forK
  simp only [hi]
  exact forGo_ret t P hi hs (xs.length + 1) 0 σ (by omega) (by omega) p
end Ev

/-! lists of texts and of pairs of texts -/
namespace Ev
open PySem L2
def sl (l : List Str) : List D := l.map D.str
theorem sl_len (l : List Str) : (sl l).length = l.length := List.length_map ..
theorem sl_app (l m : List Str) : sl (l ++ m) = sl l ++ sl m := List.map_append ..
theorem sl_take (l : List Str) (n : Nat) : (sl l).take n = sl (l.take n) := by unfold sl; rw [List.map_take]
theorem sl_drop (l : List Str) (n : Nat) : (sl l).drop n = sl (l.drop n) := by unfold sl; rw [List.map_drop]
theorem sl_cons (a : Str) (l : List Str) : sl (a :: l) = .str a :: sl l := rfl
theorem ix_sl {l : List Str} {n : Nat} {a : Str} (h : l[n]? = some a) (S : Sto) : ixD (.tup (sl l)) (.int n) S = .ok (.str a) S :=
  ix_tp (atI_nat (by unfold sl; rw [List.getElem?_map, h]; rfl)) S
def ps (p : Str × Str) : D := .tup [.str p.1, .str p.2]
def psl (l : List (Str × Str)) : List D := l.map ps
theorem psl_len (l : List (Str × Str)) : (psl l).length = l.length := List.length_map ..
def psP (l : List (Str × Str)) : List PyData := l.map fun p => .tuple [.str p.1, .str p.2]
theorem toPys_psl (l : List (Str × Str)) : toPys (psl l) = some (psP l) := by
  induction l with
  | nil => rfl
  | cons a r ih =>
    show toPys (ps a :: psl r) = _
    simp only [toPys, ih, ps, toPy, Option.map_some]
    rfl
def okPs (l : List (Str × Str)) : Prop := ∀ p, p ∈ l → PyData.strOk p.1 = true ∧ PyData.strOk p.2 = true
theorem psP_shape : ∀ {l : List (Str × Str)}, okPs l → PyData.canLayAll0 (psP l) = true ∧ PyData.depthAll (psP l) ≤ 1
  | [], _ => by simp [psP, PyData.canLayAll0, PyData.depthAll]
  | a :: r, h => by
    have ih := psP_shape (l := r) fun p hp => h p (List.mem_cons_of_mem _ hp)
    obtain ⟨h1, h2⟩ := h a List.mem_cons_self
    have e : psP (a :: r) = .tuple [.str a.1, .str a.2] :: psP r := rfl
    rw [e]
    simp only [PyData.canLayAll0, PyData.depthAll, PyData.canLay0, PyData.depth, ih.1, h1, h2]
    have := ih.2
    simp
    omega
theorem shaped_psl {l : List (Str × Str)} (ok : okPs l) : SeqAt.shaped (.list (psP l)) = true := by
  have h := psP_shape ok
  simp only [SeqAt.shaped, PyData.canLay0, PyData.depth, h.1]
  have := h.2
  simp
  omega
theorem shaped_pst {l : List (Str × Str)} (ok : okPs l) : SeqAt.shaped (.tuple (psP l)) = true := by
  have h := psP_shape ok
  simp only [SeqAt.shaped, PyData.canLay0, PyData.depth, h.1]
  have := h.2
  simp
  omega
theorem shaped_ps {a b : Str} (h1 : PyData.strOk a = true) (h2 : PyData.strOk b = true) : SeqAt.shaped (.tuple [.str a, .str b]) = true := by
  simp [SeqAt.shaped, PyData.canLay0, PyData.depth, PyData.canLayAll0, PyData.depthAll, h1, h2]
theorem any_psP (l : List (Str × Str)) (a b : Str) : ((psP l).any fun z => PyData.eqv z (.tuple [.str a, .str b])) = decide ((a, b) ∈ l) := by
  induction l with
  | nil => simp [psP]
  | cons p r ih =>
    have e : psP (p :: r) = .tuple [.str p.1, .str p.2] :: psP r := rfl
    rw [e, List.any_cons, ih]
    obtain ⟨c, d⟩ := p
    simp only [PyData.eqv, PyData.eqvAll, Bool.and_true, List.mem_cons, Prod.mk.injEq]
    by_cases h1 : c = a
    · by_cases h2 : d = b
      · subst h1 h2; simp
      · have : ¬ (b = d) := fun h => h2 h.symm
        simp [h1, h2, this]
    · have : ¬ (a = c) := fun h => h1 h.symm
      simp [h1, this]
structure TSrc (d : D) (l : List (Str × Str)) : Prop where
  is : d = .lv (psl l) ∨ d = .tup (psl l)
  ok : okPs l
theorem inD_psl {d : D} {l : List (Str × Str)} (h : TSrc d l) {a b : Str} (h1 : PyData.strOk a = true) (h2 : PyData.strOk b = true) (S : Sto) : inD S (ps (a, b)) d = some (decide ((a, b) ∈ l)) := by
  have e1 : toPys (psl l) = some (psP l) := toPys_psl l
  obtain ⟨rfl | rfl, ok⟩ := h
  · have : inD S (ps (a, b)) (.lv (psl l)) = if SeqAt.shaped (.tuple [.str a, .str b]) && SeqAt.shaped (.list (psP l)) then some ((psP l).any fun z => PyData.eqv z (.tuple [.str a, .str b])) else none := by
      simp [inD, ps, items, isSeq, flatD, topPy, toPy, toPys, e1]
    rw [this, shaped_ps h1 h2, shaped_psl ok, any_psP]
    rfl
  · have : inD S (ps (a, b)) (.tup (psl l)) = if SeqAt.shaped (.tuple [.str a, .str b]) && SeqAt.shaped (.tuple (psP l)) then some ((psP l).any fun z => PyData.eqv z (.tuple [.str a, .str b])) else none := by
      simp [inD, ps, items, isSeq, flatD, topPy, toPy, toPys, e1]
    rw [this, shaped_ps h1 h2, shaped_pst ok, any_psP]
    rfl
theorem in_psl {d : D} {l : List (Str × Str)} (h : TSrc d l) {a b : Str} (h1 : PyData.strOk a = true) (h2 : PyData.strOk b = true) (S : Sto) : cmpD .in_ (.tup [.str a, .str b]) d S = .ok (.bl (decide ((a, b) ∈ l))) S := by
  have := inD_psl h h1 h2 S
  unfold ps at this
  simp only [cmpD, cmpO, this, ofOpt_some, R.bind_ok]
theorem nin_psl {d : D} {l : List (Str × Str)} (h : TSrc d l) {a b : Str} (h1 : PyData.strOk a = true) (h2 : PyData.strOk b = true) (S : Sto) : cmpD .nin (.tup [.str a, .str b]) d S = .ok (.bl (!decide ((a, b) ∈ l))) S := by
  have := inD_psl h h1 h2 S
  unfold ps at this
  simp only [cmpD, cmpO, this, Option.map_some, ofOpt_some, R.bind_ok]
theorem add_tp {x y : List D} (h : x.length + y.length ≤ lim) (S : Sto) : binD .add (.tup x) (.tup y) S = .ok (.tup (x ++ y)) S := by simp [binD, h]
theorem sl_tpD (xs : List D) (lo hi : Option Int) (S : Sto) : slD (.tup xs) lo hi S = .ok (.tup (cutD xs lo hi)) S := (rfl)
theorem pop_ref {n : Nat} {xs : List D} {i : Nat} {d : D} {S : Sto} (hs : S[n]? = some (.lst xs)) (hi : xs[i]? = some d) (hl : xs.length ≤ lim) : methD .pop (.ref n) [.int (i : Int)] S = .ok d (S.set n (.lst (xs.eraseIdx i))) := by
  have h1 := (List.getElem?_eq_some_iff.mp hi).1
  have h2 : (0 : Int) ≤ i ∧ (i : Int) < xs.length ∧ xs.length ≤ lim := ⟨by omega, by omega, hl⟩
  simp only [methD, hs, Mth.run, popF, if_pos h2, Int.toNat_natCast, hi]
theorem list_lvE (xs : List D) (S : Sto) : bltD .list [.lv xs] S = .ok (.lv xs) S := (rfl)
theorem tuple_lvE (xs : List D) (S : Sto) : bltD .tuple [.lv xs] S = .ok (.tup xs) S := (rfl)
/-- a while that goes by a measure -/
theorem whGo_inv {c : Sg → Sto → R D} {body : Sg → Sto → R Fl} {S : Sto} (P : Nat → Sg → Prop) (F : Sg → Prop) (V : D → Prop)
    (h0 : ∀ j σ, P j σ → (c σ S = .ok (.bl false) S ∧ F σ) ∨ (c σ S = .ok (.bl true) S ∧ 0 < j ∧ ((∃ σ', body σ S = .ok (.nx σ') S ∧ P (j - 1) σ') ∨ (∃ d, body σ S = .ok (.rt d) S ∧ V d)))) :
    ∀ n j σ, j < n → P j σ → (∃ σ', whGo c body n σ S = .ok (.nx σ') S ∧ F σ') ∨ (∃ d, whGo c body n σ S = .ok (.rt d) S ∧ V d)
  | 0, j, σ, h, _ => by omega
  | n + 1, j, σ, h, p => by
    unfold whGo
    rcases h0 j σ p with ⟨e, f⟩ | ⟨e, hj, ⟨σ', e2, p2⟩ | ⟨d, e2, v⟩⟩
    · rw [e, R.nox_ok, R.bind_ok, tr_bl, R.bind_ok]
      exact .inl ⟨σ, rfl, f⟩
    · rw [e, R.nox_ok, R.bind_ok, tr_bl, R.bind_ok]
      simp only [e2, R.bind_ok, loopK_nx]
      exact whGo_inv P F V h0 n (j - 1) σ' (by omega) p2
    · rw [e, R.nox_ok, R.bind_ok, tr_bl, R.bind_ok]
      simp only [e2, R.bind_ok, loopK_rt]
      exact .inr ⟨d, rfl, v⟩
theorem okDs_sl (l : List Str) : okDs (sl l) = true ∧ depDs (sl l) ≤ 1 := by
  induction l with
  | nil => simp [sl, okDs, depDs]
  | cons a r ih =>
    rw [sl_cons]
    simp only [okDs, depDs, okD, depD, ih.1]
    have := ih.2
    simp
    omega
theorem okD_slt {l : List Str} (h : l.length ≤ lim) : okD (.tup (sl l)) = true ∧ depD (.tup (sl l)) ≤ 2 := by
  have := okDs_sl l
  simp only [okD, depD, sl_len, this.1, decide_eq_true h]
  have := this.2
  simp
  omega
theorem okDs_psl (l : List (Str × Str)) : okDs (psl l) = true ∧ depDs (psl l) ≤ 2 := by
  induction l with
  | nil => simp [psl, okDs, depDs]
  | cons a r ih =>
    show okDs (ps a :: psl r) = true ∧ depDs (ps a :: psl r) ≤ 2
    have h2 : (2 : Nat) ≤ lim := by decide
    simp only [okDs, depDs, okD, depD, ps, ih.1, List.length_cons, List.length_nil, Nat.zero_add, decide_eq_true h2]
    have := ih.2
    simp
    omega
theorem okD_psl {l : List (Str × Str)} (h : l.length ≤ lim) : okD (.lv (psl l)) = true ∧ depD (.lv (psl l)) ≤ 3 := by
  have := okDs_psl l
  simp only [okD, depD, psl_len, this.1, decide_eq_true h]
  have := this.2
  simp
  omega
/-- a comprehension that may change the store -/
theorem lcGo_dr {d : D} {tg : Tg} {σ : Sg} {cond elt : Sg → Sto → R D} {xs : List D} {P : Sto → Prop} {G : D → Prop} (hi : ∀ S, P S → items S d = some xs) (hl : xs.length ≤ lim)
    (h : ∀ x, x ∈ xs → ∀ S, P S → ∃ σ1, setTg tg x (wipeD σ tg.slots) = some σ1 ∧ ∃ c S1, cond σ1 S = .ok (.bl c) S1 ∧ P S1 ∧ (c = true → ∃ y S2, elt σ1 S1 = .ok y S2 ∧ P S2 ∧ G y)) :
    ∀ n i acc S, i + n = xs.length + 1 → i ≤ xs.length → acc.length ≤ i → P S → ∃ ys S', lcGo d tg σ cond elt n i acc S = .ok (.lv (acc ++ ys)) S' ∧ P S' ∧ (∀ y, y ∈ ys → G y) ∧ ys.length ≤ xs.length - i
  | 0, i, acc, S, e, h2, ha, p => by omega
  | n + 1, i, acc, S, e, h2, ha, p => by
    unfold lcGo
    simp only [hi S p]
    by_cases hx : i < xs.length
    · rw [List.getElem?_eq_getElem hx]
      obtain ⟨σ1, e1, c, S1, e2, p1, h3⟩ := h xs[i] (List.getElem_mem hx) S p
      simp only [e1, e2, R.nox_ok, R.bind_ok, tr_bl]
      cases c with
      | false =>
        obtain ⟨ys, S', e4, p4, g4, l4⟩ := lcGo_dr hi hl h n (i + 1) acc S1 (by omega) (by omega) (by omega) p1
        exact ⟨ys, S', e4, p4, g4, by omega⟩
      | true =>
        obtain ⟨y, S2, e3, p2, g⟩ := h3 rfl
        have hal : acc.length < lim := by omega
        simp only [e3, R.nox_ok, R.bind_ok, hal, if_true]
        obtain ⟨ys, S', e4, p4, g4, l4⟩ := lcGo_dr hi hl h n (i + 1) (acc ++ [y]) S2 (by omega) (by omega) (by simp; omega) p2
        refine ⟨y :: ys, S', by rw [e4]; simp, p4, fun z hz => ?_, by simp; omega⟩
        rcases List.mem_cons.mp hz with rfl | hz
        · exact g
        · exact g4 z hz
    · have : i = xs.length := by omega
      subst this
      rw [List.getElem?_eq_none (Nat.le_refl _)]
      exact ⟨[], S, by simp, p, by simp, by simp⟩
theorem lcK_dr {d : D} {tg : Tg} {σ : Sg} {cond elt : Sg → Sto → R D} {xs : List D} {S : Sto} {P : Sto → Prop} {G : D → Prop} (hi : ∀ S, P S → items S d = some xs) (hl : xs.length ≤ lim)
    (h : ∀ x, x ∈ xs → ∀ S, P S → ∃ σ1, setTg tg x (wipeD σ tg.slots) = some σ1 ∧ ∃ c S1, cond σ1 S = .ok (.bl c) S1 ∧ P S1 ∧ (c = true → ∃ y S2, elt σ1 S1 = .ok y S2 ∧ P S2 ∧ G y)) (p : P S) :
    ∃ ys S', lcK elt cond tg σ d S = .ok (.lv ys) S' ∧ P S' ∧ (∀ y, y ∈ ys → G y) ∧ ys.length ≤ xs.length := by
  unfold lcK
  simp only [hi S p]
  obtain ⟨ys, S', e, h1, h2, h3⟩ := lcGo_dr hi hl h (xs.length + 1) 0 [] S (by omega) (by omega) (by simp) p
  exact ⟨ys, S', by simpa using e, h1, h2, by omega⟩
theorem perm_sl {ys : List D} {l : List Str} (h : ys.Perm (sl l)) : ∃ m, ys = sl m ∧ m.Perm l := by
  have key : ∀ ys : List D, (∀ y, y ∈ ys → ∃ t, y = .str t) → ys = sl (ys.map fun y => match y with | .str t => t | _ => "") := by
    intro ys
    induction ys with
    | nil => intro _; rfl
    | cons a r ih =>
      intro h
      obtain ⟨t, rfl⟩ := h a List.mem_cons_self
      rw [List.map_cons, sl_cons, ← ih fun y hy => h y (List.mem_cons_of_mem _ hy)]
  refine ⟨_, key ys fun y hy => ?_, ?_⟩
  · obtain ⟨t, _, rfl⟩ := List.mem_map.mp (h.mem_iff.mp hy)
    exact ⟨t, rfl⟩
  · have := h.map fun y => match y with | D.str t => t | _ => ("" : Str)
    refine this.trans ?_
    unfold sl
    rw [List.map_map]
    have : ((fun y => match y with | D.str t => t | _ => ("" : Str)) ∘ D.str) = id := rfl
    rw [this, List.map_id]
theorem all_psl : ∀ {ys : List D}, (∀ y, y ∈ ys → ∃ p, y = ps p) → ∃ l, ys = psl l
  | [], _ => ⟨[], rfl⟩
  | a :: r, h => by
    obtain ⟨p, rfl⟩ := h a List.mem_cons_self
    obtain ⟨l, rfl⟩ := all_psl (ys := r) fun y hy => h y (List.mem_cons_of_mem _ hy)
    exact ⟨p :: l, rfl⟩
theorem ps_inj {p q : Str × Str} (h : ps p = ps q) : p = q := by
  unfold ps at h
  obtain ⟨a, b⟩ := p
  obtain ⟨c, d⟩ := q
  simp at h
  rw [h.1, h.2]
theorem mem_psl {p : Str × Str} {l : List (Str × Str)} (h : ps p ∈ psl l) : p ∈ l := by
  obtain ⟨q, hq, e⟩ := List.mem_map.mp h
  rw [← ps_inj e]
  exact hq
end Ev

namespace Ev
open PySem L2
/-! ### the second layer, by rewriting -/
section
variable {T : Prg} {k : Nat} {A : Ob} {σ : Sg} {Q : QD} {F : QF} {E : QX} {S : Sto} {P P' : Prop}
theorem brQ.mk {c : Bool} (h1 : c = true → P) (h2 : c = false → P') : brQ c P P' := ⟨h1, h2⟩
theorem brQ.dec {p : Prop} [Decidable p] (h1 : p → P) (h2 : ¬ p → P') : brQ (decide p) P P' := ⟨fun h => h1 (of_decide_eq_true h), fun h => h2 (of_decide_eq_false h)⟩
theorem brQ_t : brQ true P P' = P := propext ⟨fun h => h.1 rfl, fun h => ⟨fun _ => h, fun z => Bool.noConfusion z⟩⟩
theorem brQ_f : brQ false P P' = P' := propext ⟨fun h => h.2 rfl, fun h => ⟨fun z => Bool.noConfusion z, fun _ => h⟩⟩
theorem varQ_s {d : D} {Q : D → Prop} : varQ (some (some d)) Q = Q d := (rfl)
theorem okW_ok {d : D} {Q : D → Prop} : okW (.ok d S) Q = Q d := (rfl)
theorem negQ_i {i : Int} {Q : D → Prop} : negQ (.int i) Q = Q (.int (-i)) := (rfl)
theorem blQ_b {b : Bool} {Q : Bool → Prop} : blQ (.bl b) Q = Q b := (rfl)
theorem intQ_i {i : Int} {Q : Int → Prop} : intQ (.int i) Q = Q i := (rfl)
theorem trQ_b {b : Bool} {Q : Bool → Prop} : trQ A (.bl b) Q = Q b := (rfl)
theorem itQ_lv {xs : List D} {Q : List D → Prop} : itQ A (.lv xs) Q = Q xs := (rfl)
theorem itQ_vw {t : Nat} {xs : List D} {Q : List D → Prop} : itQ A (.vw t xs) Q = Q xs := (rfl)
theorem itQ_tup {xs : List D} {Q : List D → Prop} : itQ A (.tup xs) Q = Q xs := (rfl)
theorem lsQ_lv {xs : List D} {Q : List D → Prop} : lsQ A (.lv xs) Q = Q xs := (rfl)
theorem lsQ_vw {t : Nat} {xs : List D} {Q : List D → Prop} : lsQ A (.vw t xs) Q = Q xs := (rfl)
theorem stQ_nm {i : Nat} {d : D} {Q : Sg → Prop} : stQ (.nm i) d σ Q = Q (σ.set i (some d)) := (rfl)
theorem stQ_2 {i j : Nat} {x y : D} {Q : Sg → Prop} : stQ (.tp [i, j]) (.tup [x, y]) σ Q = Q ((σ.set i (some x)).set j (some y)) := (rfl)
theorem stQ_3 {i j l : Nat} {x y z : D} {Q : Sg → Prop} : stQ (.tp [i, j, l]) (.tup [x, y, z]) σ Q = Q (((σ.set i (some x)).set j (some y)).set l (some z)) := (rfl)
theorem asg_vw2 {tg : Tg} {xs : List D} {Q : Sg → Prop} : asgQ tg (.vw 2 xs) σ Q = stQ tg (.vw 1 xs) σ Q := (rfl)
theorem asg_vw0 {tg : Tg} {xs : List D} {Q : Sg → Prop} : asgQ tg (.vw 0 xs) σ Q = stQ tg (.vw 0 xs) σ Q := (rfl)
theorem asg_int {tg : Tg} {i : Int} {Q : Sg → Prop} : asgQ tg (.int i) σ Q = stQ tg (.int i) σ Q := (rfl)
theorem asg_str {tg : Tg} {i : Str} {Q : Sg → Prop} : asgQ tg (.str i) σ Q = stQ tg (.str i) σ Q := (rfl)
theorem asg_bl {tg : Tg} {i : Bool} {Q : Sg → Prop} : asgQ tg (.bl i) σ Q = stQ tg (.bl i) σ Q := (rfl)
theorem asg_non {tg : Tg} {Q : Sg → Prop} : asgQ tg .non σ Q = stQ tg .non σ Q := (rfl)
theorem asg_tup {tg : Tg} {xs : List D} {Q : Sg → Prop} : asgQ tg (.tup xs) σ Q = stQ tg (.tup xs) σ Q := (rfl)
theorem asg_lv {tg : Tg} {xs : List D} {Q : Sg → Prop} : asgQ tg (.lv xs) σ Q = stQ tg (.lv xs) σ Q := (rfl)
theorem asg_ref {tg : Tg} {n : Nat} {Q : Sg → Prop} : asgQ tg (.ref n) σ Q = stQ tg (.ref n) σ Q := (rfl)
theorem ret_vw2 {xs : List D} {Q : D → Prop} : retQ (.vw 2 xs) Q = Q (.vw 2 xs) := (rfl)
theorem ret_int {i : Int} {Q : D → Prop} : retQ (.int i) Q = Q (.int i) := (rfl)
theorem ret_str {i : Str} {Q : D → Prop} : retQ (.str i) Q = Q (.str i) := (rfl)
theorem ret_bl {i : Bool} {Q : D → Prop} : retQ (.bl i) Q = Q (.bl i) := (rfl)
theorem ret_non {Q : D → Prop} : retQ .non Q = Q .non := (rfl)
theorem ret_tup {xs : List D} {Q : D → Prop} : retQ (.tup xs) Q = Q (.tup xs) := (rfl)
theorem ret_lv {xs : List D} {Q : D → Prop} : retQ (.lv xs) Q = Q (.lv xs) := (rfl)
theorem ret_ref {n : Nat} {Q : D → Prop} : retQ (.ref n) Q = Q (.ref n) := (rfl)
theorem part_t {f : (D → Ob → Prop) → Prop} {Q : Option Int → Ob → Prop} : partQ true f A Q = Q none A := (rfl)
theorem part_w {f : (D → Ob → Prop) → Prop} {Q : Option Int → Ob → Prop} : partQ false f A Q = f fun x A => intQ x fun i => Q (some i) A := (rfl)
theorem isvw_lv {xs : List D} : isVw (.lv xs) = false := (rfl)
theorem isvw_tup {xs : List D} : isVw (.tup xs) = false := (rfl)
theorem isvw_int {i : Int} : isVw (.int i) = false := (rfl)
theorem isvw_str {x : Str} : isVw (.str x) = false := (rfl)
theorem isvw_bl {b : Bool} : isVw (.bl b) = false := (rfl)
theorem isvw_non  : isVw .non = false := (rfl)
theorem isvw_ref {n : Nat} : isVw (.ref n) = false := (rfl)
/-! names in slots -/
theorem w_v0 {d : D} : wE T k (.var 0) (some d :: σ) A Q E = Q d A := by rw [wE.eq_def]; rfl
theorem w_v1 {a : Option D} {d : D} : wE T k (.var 1) (a :: some d :: σ) A Q E = Q d A := by rw [wE.eq_def]; rfl
theorem w_v2 {a b : Option D} {d : D} : wE T k (.var 2) (a :: b :: some d :: σ) A Q E = Q d A := by rw [wE.eq_def]; rfl
theorem w_v3 {a b c : Option D} {d : D} : wE T k (.var 3) (a :: b :: c :: some d :: σ) A Q E = Q d A := by rw [wE.eq_def]; rfl
theorem w_v4 {a b c e : Option D} {d : D} : wE T k (.var 4) (a :: b :: c :: e :: some d :: σ) A Q E = Q d A := by rw [wE.eq_def]; rfl
theorem w_v5 {a0 a1 a2 a3 a4 : Option D} {d : D} : wE T k (.var 5) (a0 :: a1 :: a2 :: a3 :: a4 :: some d :: σ) A Q E = Q d A := by rw [wE.eq_def]; rfl
theorem w_v6 {a0 a1 a2 a3 a4 a5 : Option D} {d : D} : wE T k (.var 6) (a0 :: a1 :: a2 :: a3 :: a4 :: a5 :: some d :: σ) A Q E = Q d A := by rw [wE.eq_def]; rfl
theorem w_v7 {a0 a1 a2 a3 a4 a5 a6 : Option D} {d : D} : wE T k (.var 7) (a0 :: a1 :: a2 :: a3 :: a4 :: a5 :: a6 :: some d :: σ) A Q E = Q d A := by rw [wE.eq_def]; rfl
theorem w_v8 {a0 a1 a2 a3 a4 a5 a6 a7 : Option D} {d : D} : wE T k (.var 8) (a0 :: a1 :: a2 :: a3 :: a4 :: a5 :: a6 :: a7 :: some d :: σ) A Q E = Q d A := by rw [wE.eq_def]; rfl
theorem w_v9 {a0 a1 a2 a3 a4 a5 a6 a7 a8 : Option D} {d : D} : wE T k (.var 9) (a0 :: a1 :: a2 :: a3 :: a4 :: a5 :: a6 :: a7 :: a8 :: some d :: σ) A Q E = Q d A := by rw [wE.eq_def]; rfl
theorem w_v10 {a0 a1 a2 a3 a4 a5 a6 a7 a8 a9 : Option D} {d : D} : wE T k (.var 10) (a0 :: a1 :: a2 :: a3 :: a4 :: a5 :: a6 :: a7 :: a8 :: a9 :: some d :: σ) A Q E = Q d A := by rw [wE.eq_def]; rfl
theorem w_v11 {a0 a1 a2 a3 a4 a5 a6 a7 a8 a9 a10 : Option D} {d : D} : wE T k (.var 11) (a0 :: a1 :: a2 :: a3 :: a4 :: a5 :: a6 :: a7 :: a8 :: a9 :: a10 :: some d :: σ) A Q E = Q d A := by rw [wE.eq_def]; rfl
theorem w_v12 {a0 a1 a2 a3 a4 a5 a6 a7 a8 a9 a10 a11 : Option D} {d : D} : wE T k (.var 12) (a0 :: a1 :: a2 :: a3 :: a4 :: a5 :: a6 :: a7 :: a8 :: a9 :: a10 :: a11 :: some d :: σ) A Q E = Q d A := by rw [wE.eq_def]; rfl
theorem w_v13 {a0 a1 a2 a3 a4 a5 a6 a7 a8 a9 a10 a11 a12 : Option D} {d : D} : wE T k (.var 13) (a0 :: a1 :: a2 :: a3 :: a4 :: a5 :: a6 :: a7 :: a8 :: a9 :: a10 :: a11 :: a12 :: some d :: σ) A Q E = Q d A := by rw [wE.eq_def]; rfl
theorem w_v14 {a0 a1 a2 a3 a4 a5 a6 a7 a8 a9 a10 a11 a12 a13 : Option D} {d : D} : wE T k (.var 14) (a0 :: a1 :: a2 :: a3 :: a4 :: a5 :: a6 :: a7 :: a8 :: a9 :: a10 :: a11 :: a12 :: a13 :: some d :: σ) A Q E = Q d A := by rw [wE.eq_def]; rfl
theorem w_v15 {a0 a1 a2 a3 a4 a5 a6 a7 a8 a9 a10 a11 a12 a13 a14 : Option D} {d : D} : wE T k (.var 15) (a0 :: a1 :: a2 :: a3 :: a4 :: a5 :: a6 :: a7 :: a8 :: a9 :: a10 :: a11 :: a12 :: a13 :: a14 :: some d :: σ) A Q E = Q d A := by rw [wE.eq_def]; rfl
theorem w_var {i : Nat} : wE T k (.var i) σ A Q E = varQ σ[i]? fun d => Q d A := by rw [wE.eq_def]
theorem w_glob {x : Str} : wE T k (.glob x) σ A Q E = varQ (some (T.con.lookup x)) fun d => isVw d = false ∧ clean d = true ∧ Q d A := by rw [wE.eq_def]
theorem w_ty {x : String} : wE T k (.ty x) σ A Q E = Q (.ty x) A := by rw [wE.eq_def]
theorem w_int {i : Int} : wE T k (.cint i) σ A Q E = Q (.int i) A := by rw [wE.eq_def]
theorem w_str {i : Str} : wE T k (.cstr i) σ A Q E = Q (.str i) A := by rw [wE.eq_def]
theorem w_bl {i : Bool} : wE T k (.cbl i) σ A Q E = Q (.bl i) A := by rw [wE.eq_def]
theorem w_non : wE T k .cnon σ A Q E = Q .non A := by rw [wE.eq_def]
theorem w_bin {op : BOp} {a b : Ev.E} : wE T k (.bin op a b) σ A Q E = wE T k a σ A (fun x A => wE T k b σ A (fun y A => okW (binD op x y (fs A)) fun d => Q d A) E) E := by rw [wE.eq_def]
theorem w_neg {a : Ev.E} : wE T k (.neg a) σ A Q E = wE T k a σ A (fun x A => negQ x fun d => Q d A) E := by rw [wE.eq_def]
theorem w_not {a : Ev.E} : wE T k (.not a) σ A Q E = wE T k a σ A (fun x A => blQ x fun b => Q (.bl (!b)) A) E := by rw [wE.eq_def]
theorem w_cmp {op : COp} {a b : Ev.E} : wE T k (.cmp op a b) σ A Q E = wE T k a σ A (fun x A => wE T k b σ A (fun y A => okW (cmpD op x y (fs A)) fun d => Q d A) E) E := by rw [wE.eq_def]
theorem w_chain {op op2 : COp} {a b c : Ev.E} : wE T k (.chain op op2 a b c) σ A Q E = wE T k a σ A (fun x A => wE T k b σ A (fun y A => okW (cmpD op x y (fs A)) fun d => blQ d fun t =>
      brQ t (wE T k c σ A (fun z A => isVw y = false ∧ okW (cmpD op2 y z (fs A)) fun d => Q d A) E) (Q (.bl false) A)) E) E := by rw [wE.eq_def]
theorem w_and1 {a : Ev.E} : wE T k (.and1 a) σ A Q E = wE T k a σ A Q E := by rw [wE.eq_def]
theorem w_or1 {a : Ev.E} : wE T k (.or1 a) σ A Q E = wE T k a σ A Q E := by rw [wE.eq_def]
theorem w_and2 {a b : Ev.E} : wE T k (.and2 a b) σ A Q E = wE T k a σ A (fun x A => blQ x fun t => brQ t (wE T k b σ A Q E) (Q (.bl false) A)) E := by rw [wE.eq_def]
theorem w_or2 {a b : Ev.E} : wE T k (.or2 a b) σ A Q E = wE T k a σ A (fun x A => blQ x fun t => brQ t (Q (.bl true) A) (wE T k b σ A Q E)) E := by rw [wE.eq_def]
theorem w_ife {t a b : Ev.E} : wE T k (.ife t a b) σ A Q E = wE T k t σ A (fun x A => trQ A x fun t => brQ t (wE T k a σ A Q E) (wE T k b σ A Q E)) E := by rw [wE.eq_def]
theorem w_tup {es : Es} : wE T k (.tup es) σ A Q E = wEs T k es σ A (fun vs A => vs.length ≤ lim ∧ vs.any isVw = false ∧ Q (.tup vs) A) E := by rw [wE.eq_def]
theorem w_lst {es : Es} : wE T k (.lst es) σ A Q E = wEs T k es σ A (fun vs A => vs.length ≤ lim ∧ trkQ vs A fun ws A => Q (.lv ws) A) E := by rw [wE.eq_def]
theorem trk_nil {K : List D → Ob → Prop} : trkQ [] A K = K [] A := by rw [trkQ]
theorem trk_lv {xs : List D} {vs : List D} {K : List D → Ob → Prop} : trkQ (.lv xs :: vs) A K = trkQ vs A fun ws A => K (.lv xs :: ws) A := by simp [trkQ, isVw]
theorem trk_tup {xs : List D} {vs : List D} {K : List D → Ob → Prop} : trkQ (.tup xs :: vs) A K = trkQ vs A fun ws A => K (.tup xs :: ws) A := by simp [trkQ, isVw]
theorem trk_int {i : Int} {vs : List D} {K : List D → Ob → Prop} : trkQ (.int i :: vs) A K = trkQ vs A fun ws A => K (.int i :: ws) A := by simp [trkQ, isVw]
theorem trk_str {x : Str} {vs : List D} {K : List D → Ob → Prop} : trkQ (.str x :: vs) A K = trkQ vs A fun ws A => K (.str x :: ws) A := by simp [trkQ, isVw]
theorem trk_bl {b : Bool} {vs : List D} {K : List D → Ob → Prop} : trkQ (.bl b :: vs) A K = trkQ vs A fun ws A => K (.bl b :: ws) A := by simp [trkQ, isVw]
theorem trk_non  {vs : List D} {K : List D → Ob → Prop} : trkQ (.non :: vs) A K = trkQ vs A fun ws A => K (.non :: ws) A := by simp [trkQ, isVw]
theorem trk_ref {n : Nat} {vs : List D} {K : List D → Ob → Prop} : trkQ (.ref n :: vs) A K = trkQ vs A fun ws A => K (.ref n :: ws) A := by simp [trkQ, isVw]
theorem trk_vw2 {xs vs : List D} {K : List D → Ob → Prop} : trkQ (.vw 2 xs :: vs) A K = ∀ n, n ≠ 0 → n ∉ A.map (·.1) → trkQ vs ((n, .lst xs) :: A) fun ws A => K (.ref n :: ws) A := by rw [trkQ]
theorem w_lstM {es : Es} : wE T k (.lstM es) σ A Q E = wEs T k es σ A (fun vs A => vs.length ≤ lim ∧ vs.any isVw = false ∧ Q (.vw 2 vs) A) E := by rw [wE.eq_def]
theorem w_ix {a b : Ev.E} : wE T k (.ix a b) σ A Q E = wE T k a σ A (fun x A => wE T k b σ A (fun y A => okW (ixD x y (fs A)) fun d => Q d A) E) E := by rw [wE.eq_def]
theorem w_sl {a lo hi : Ev.E} : wE T k (.sl a lo hi) σ A Q E = wE T k a σ A (fun x A => partQ lo.isNop (fun K => wE T k lo σ A K E) A fun l A => partQ hi.isNop (fun K => wE T k hi σ A K E) A fun h A => okW (slD x l h (fs A)) fun d => Q d A) E := by rw [wE.eq_def]
theorem w_call {x f : Str} {es : Es} : wE T k (.call x f es) σ A Q E = (T.has x f = true ∧ wEs T k es σ A (fun vs A => callQ T k f (vs.map stab) A Q E) E) := by rw [wE.eq_def]
theorem w_blt {f : Blt} {es : Es} : wE T k (.blt f es) σ A Q E = wEs T k es σ A (fun vs A => okW (bltD f vs (fs A)) fun d => Q d A) E := by rw [wE.eq_def]
def thawQ (d : D) (Q : D → Prop) : Prop := match d with
  | .lv xs => Q (.vw 2 xs)
  | _ => False
theorem thawQ_lv {xs : List D} {Q : D → Prop} : thawQ (.lv xs) Q = Q (.vw 2 xs) := (rfl)
theorem w_bltM {f : Blt} {es : Es} : wE T k (.bltM f es) σ A Q E = wEs T k es σ A (fun vs A => okW (bltD f vs (fs A)) fun d => thawQ d fun d => Q d A) E := by
  rw [wE.eq_def]; rfl
theorem w_lcS {elt e cond : Ev.E} {tg : Tg} : wE T k (.lc elt tg (.seq e) cond) σ A Q E = wE T k e σ A (fun d A => itQ A d fun xs => wLc d xs tg σ (fun σ A Q => wE T k cond σ A Q noX) (fun σ A Q => wE T k elt σ A Q noX) xs [] A Q) E := by rw [wE.eq_def]
theorem w_lc1 {elt e cond : Ev.E} {tg : Tg} : wE T k (.lc elt tg (.rng1 e) cond) σ A Q E = wE T k e σ A (fun d A => intQ d fun j => rngOk j = true ∧ wLr tg σ (fun σ A Q => wE T k cond σ A Q noX) (fun σ A Q => wE T k elt σ A Q noX) (rngL 0 0 j.toNat) [] A Q) E := by rw [wE.eq_def]
theorem w_rev {a : Ev.E} : wE T k (.rev a) σ A Q E = wE T k a σ A (fun x A => okW (revD x (fs A)) fun d => Q d A) E := by rw [wE.eq_def]
theorem w_binM {a b : Ev.E} : wE T k (.binM a b) σ A Q E = wE T k a σ A (fun x A => wE T k b σ A (fun y A => lsQ A x fun xs => lsQ A y fun ys => xs.length + ys.length ≤ lim ∧ Q (.vw 2 (xs ++ ys)) A) E) E := by rw [wE.eq_def]
theorem w_nil {Q : List D → Ob → Prop} : wEs T k .nil σ A Q E = Q [] A := by rw [wEs.eq_def]
theorem w_cons {e : Ev.E} {es : Es} {Q : List D → Ob → Prop} : wEs T k (.cons e es) σ A Q E = wE T k e σ A (fun x A => wEs T k es σ A (fun xs A => Q (x :: xs) A) E) E := by rw [wEs.eq_def]
/-! statements -/
theorem s_nil : wSs T k .nil σ A F = F (.nx σ) A := by rw [wSs.eq_def]
theorem s_cons {s : Ev.S} {ss : Ss} : wSs T k (.cons s ss) σ A F = wS T k s σ A (seqQ (wSs T k ss) F) := by rw [wSs.eq_def]
theorem s_pass : wS T k .pass σ A F = F (.nx σ) A := by rw [wS.eq_def]
theorem s_brk : wS T k .brk σ A F = F (.bk σ) A := by rw [wS.eq_def]
theorem s_ctn : wS T k .ctn σ A F = F (.ct σ) A := by rw [wS.eq_def]
theorem s_retN : wS T k .retN σ A F = F (.rt .non) A := by rw [wS.eq_def]
theorem s_ifs {t : Ev.E} {a b : Ss} : wS T k (.ifs t a b) σ A F = wE T k t σ A (fun x A => trQ A x fun t => brQ t (wSs T k a σ A F) (wSs T k b σ A F)) (exS σ F) := by rw [wS.eq_def]
theorem s_forS {tg : Tg} {e : Ev.E} {b : Ss} : wS T k (.for_ tg (.seq e) b) σ A F = wE T k e σ A (fun d A => itQ A d fun xs => itOk d b = true ∧ wFor d xs tg (wSs T k b) xs σ A F) (exS σ F) := by rw [wS.eq_def]
theorem s_for1 {tg : Tg} {e : Ev.E} {b : Ss} : wS T k (.for_ tg (.rng1 e) b) σ A F = wE T k e σ A (fun d A => intQ d fun j => rngOk j = true ∧ wFr tg (wSs T k b) (rngL 0 0 j.toNat) σ A F) (exS σ F) := by rw [wS.eq_def]
theorem s_for2 {tg : Tg} {x y : Ev.E} {b : Ss} : wS T k (.for_ tg (.rng2 x y) b) σ A F = wE T k x σ A (fun x A => wE T k y σ A (fun y A => intQ x fun i => intQ y fun j => rngOk i = true ∧ rngOk j = true ∧ wFr tg (wSs T k b) (rngL i 0 (j - i).toNat) σ A F) (exS σ F)) (exS σ F) := by rw [wS.eq_def]
theorem s_whl {t : Ev.E} {b : Ss} : wS T k (.whl t b) σ A F = wWh (fun σ A Q => wE T k t σ A Q noX) (wSs T k b) T.w σ A F := by rw [wS.eq_def]
theorem s_seti {o i e : Ev.E} : wS T k (.seti o i e) σ A F = wE T k e σ A (fun x A => setQ T k o i x σ A (fun σ A => F (.nx σ) A) (exS σ F)) (exS σ F) := by rw [wS.eq_def]
theorem s_try {b : Ss} {c : Str} {i : Nat} {h : HE} : wS T k (.try_ b c i h) σ A F = ((ctxOf T k).tok c = true ∧ wSs T k b σ A (tryQ T k c i h F)) := by rw [wS.eq_def]
def razQ (T : Prg) (x : Str) (vs : List D) (σ : Sg) (A : Ob) (F : QF) : Prop := match T.exc.lookup x with
  | some (some ps) => argsX ps vs = true ∧ vs.length ≤ 1000 ∧ vs.any isVw = false ∧ F (.ex σ x ((ps.map (·.1)).zip vs).reverse) A
  | _ => False
theorem s_raise {x : Str} {es : Es} : wS T k (.raise_ x es) σ A F = ((ctxOf T k).rok x = true ∧ wEs T k es σ A (fun vs A => razQ T x vs σ A F) (exS σ F)) := by rw [wS.eq_def]; rfl
theorem s_raise0 {x : Str} : wS T k (.raise0 x) σ A F = (T.exc.lookup x = some none ∧ F (.ex σ x []) A) := by rw [wS.eq_def]
/-- an expression that is no method's call -/
theorem s_asg {tg : Tg} {e : Ev.E} (h : e.isMeth = false) : wS T k (.asg tg e) σ A F = wE T k e σ A (fun x A => asgQ tg x σ fun σ => F (.nx σ) A) (exS σ F) := by
  rw [wS.eq_def]; cases e <;> first | rfl | cases h
theorem s_asgM {tg : Tg} {m : Mth} {a : Ev.E} {es : Es} : wS T k (.asg tg (.meth m a es)) σ A F = methQ T k m a es σ A (fun d σ A => asgQ tg d σ fun σ => F (.nx σ) A) (exS σ F) := by rw [wS.eq_def]
theorem s_expr {e : Ev.E} (h : e.isMeth = false) : wS T k (.expr e) σ A F = wE T k e σ A (fun _ A => F (.nx σ) A) (exS σ F) := by
  rw [wS.eq_def]; cases e <;> first | rfl | cases h
theorem s_exprM {m : Mth} {a : Ev.E} {es : Es} : wS T k (.expr (.meth m a es)) σ A F = methQ T k m a es σ A (fun _ σ A => F (.nx σ) A) (exS σ F) := by rw [wS.eq_def]
def E.retPlain : Ev.E → Bool
  | .frz _ => false
  | .var _ => false
  | _ => true
theorem s_ret {e : Ev.E} (h : e.retPlain = true) : wS T k (.ret e) σ A F = wE T k e σ A (fun d A => retQ d fun d => F (.rt d) A) (exS σ F) := by
  rw [wS.eq_def]; cases e <;> first | rfl | cases h
def retVQ (o : Option (Option D)) (Q : D → Prop) : Prop := match o with
  | some (some (.vw 1 xs)) => Q (.vw 2 xs)
  | some (some d) => isVw d = false ∧ Q d
  | _ => False
theorem isNop_var (i : Nat) : Ev.E.isNop (Ev.E.var i) = false := rfl
theorem isNop_glob (x : Str) : Ev.E.isNop (Ev.E.glob x) = false := rfl
theorem isNop_ty (n : String) : Ev.E.isNop (Ev.E.ty n) = false := rfl
theorem isNop_cint (i : Int) : Ev.E.isNop (Ev.E.cint i) = false := rfl
theorem isNop_cstr (x : Str) : Ev.E.isNop (Ev.E.cstr x) = false := rfl
theorem isNop_cbl (b : Bool) : Ev.E.isNop (Ev.E.cbl b) = false := rfl
theorem isNop_cnon  : Ev.E.isNop (Ev.E.cnon) = false := rfl
theorem isNop_bin (op : BOp) (a b : Ev.E) : Ev.E.isNop (Ev.E.bin op a b) = false := rfl
theorem isNop_neg (a : Ev.E) : Ev.E.isNop (Ev.E.neg a) = false := rfl
theorem isNop_not (a : Ev.E) : Ev.E.isNop (Ev.E.not a) = false := rfl
theorem isNop_cmp (op : COp) (a b : Ev.E) : Ev.E.isNop (Ev.E.cmp op a b) = false := rfl
theorem isNop_chain (op op2 : COp) (a b c : Ev.E) : Ev.E.isNop (Ev.E.chain op op2 a b c) = false := rfl
theorem isNop_and1 (a : Ev.E) : Ev.E.isNop (Ev.E.and1 a) = false := rfl
theorem isNop_and2 (a b : Ev.E) : Ev.E.isNop (Ev.E.and2 a b) = false := rfl
theorem isNop_or1 (a : Ev.E) : Ev.E.isNop (Ev.E.or1 a) = false := rfl
theorem isNop_or2 (a b : Ev.E) : Ev.E.isNop (Ev.E.or2 a b) = false := rfl
theorem isNop_ife (t a b : Ev.E) : Ev.E.isNop (Ev.E.ife t a b) = false := rfl
theorem isNop_tup (es : Es) : Ev.E.isNop (Ev.E.tup es) = false := rfl
theorem isNop_lst (es : Es) : Ev.E.isNop (Ev.E.lst es) = false := rfl
theorem isNop_lstM (es : Es) : Ev.E.isNop (Ev.E.lstM es) = false := rfl
theorem isNop_ix (a i : Ev.E) : Ev.E.isNop (Ev.E.ix a i) = false := rfl
theorem isNop_sl (a lo hi : Ev.E) : Ev.E.isNop (Ev.E.sl a lo hi) = false := rfl
theorem isNop_nop  : Ev.E.isNop (Ev.E.nop) = true := rfl
theorem isNop_call (x f : Str) (es : Es) : Ev.E.isNop (Ev.E.call x f es) = false := rfl
theorem isNop_blt (f : Blt) (es : Es) : Ev.E.isNop (Ev.E.blt f es) = false := rfl
theorem isNop_bltM (f : Blt) (es : Es) : Ev.E.isNop (Ev.E.bltM f es) = false := rfl
theorem isNop_meth (m : Mth) (a : Ev.E) (es : Es) : Ev.E.isNop (Ev.E.meth m a es) = false := rfl
theorem isNop_lc (elt : Ev.E) (tg : Tg) (it : It) (cond : Ev.E) : Ev.E.isNop (Ev.E.lc elt tg it cond) = false := rfl
theorem isNop_frz (a : Ev.E) : Ev.E.isNop (Ev.E.frz a) = false := rfl
theorem isNop_binM (a b : Ev.E) : Ev.E.isNop (Ev.E.binM a b) = false := rfl
theorem isNop_rev (a : Ev.E) : Ev.E.isNop (Ev.E.rev a) = false := rfl
theorem s_asg_var {i : Nat} {tg0 : Tg} : wS T k (.asg tg0 (Ev.E.var i)) σ A F = wE T k (Ev.E.var i) σ A (fun x A => asgQ tg0 x σ fun σ => F (.nx σ) A) (exS σ F) := s_asg rfl
theorem s_expr_var {i : Nat} : wS T k (.expr (Ev.E.var i)) σ A F = wE T k (Ev.E.var i) σ A (fun _ A => F (.nx σ) A) (exS σ F) := s_expr rfl
theorem s_asg_glob {x : Str} {tg0 : Tg} : wS T k (.asg tg0 (Ev.E.glob x)) σ A F = wE T k (Ev.E.glob x) σ A (fun x A => asgQ tg0 x σ fun σ => F (.nx σ) A) (exS σ F) := s_asg rfl
theorem s_expr_glob {x : Str} : wS T k (.expr (Ev.E.glob x)) σ A F = wE T k (Ev.E.glob x) σ A (fun _ A => F (.nx σ) A) (exS σ F) := s_expr rfl
theorem s_ret_glob {x : Str} : wS T k (.ret (Ev.E.glob x)) σ A F = wE T k (Ev.E.glob x) σ A (fun d A => retQ d fun d => F (.rt d) A) (exS σ F) := s_ret rfl
theorem s_asg_ty {n : String} {tg0 : Tg} : wS T k (.asg tg0 (Ev.E.ty n)) σ A F = wE T k (Ev.E.ty n) σ A (fun x A => asgQ tg0 x σ fun σ => F (.nx σ) A) (exS σ F) := s_asg rfl
theorem s_expr_ty {n : String} : wS T k (.expr (Ev.E.ty n)) σ A F = wE T k (Ev.E.ty n) σ A (fun _ A => F (.nx σ) A) (exS σ F) := s_expr rfl
theorem s_ret_ty {n : String} : wS T k (.ret (Ev.E.ty n)) σ A F = wE T k (Ev.E.ty n) σ A (fun d A => retQ d fun d => F (.rt d) A) (exS σ F) := s_ret rfl
theorem s_asg_cint {i : Int} {tg0 : Tg} : wS T k (.asg tg0 (Ev.E.cint i)) σ A F = wE T k (Ev.E.cint i) σ A (fun x A => asgQ tg0 x σ fun σ => F (.nx σ) A) (exS σ F) := s_asg rfl
theorem s_expr_cint {i : Int} : wS T k (.expr (Ev.E.cint i)) σ A F = wE T k (Ev.E.cint i) σ A (fun _ A => F (.nx σ) A) (exS σ F) := s_expr rfl
theorem s_ret_cint {i : Int} : wS T k (.ret (Ev.E.cint i)) σ A F = wE T k (Ev.E.cint i) σ A (fun d A => retQ d fun d => F (.rt d) A) (exS σ F) := s_ret rfl
theorem s_asg_cstr {x : Str} {tg0 : Tg} : wS T k (.asg tg0 (Ev.E.cstr x)) σ A F = wE T k (Ev.E.cstr x) σ A (fun x A => asgQ tg0 x σ fun σ => F (.nx σ) A) (exS σ F) := s_asg rfl
theorem s_expr_cstr {x : Str} : wS T k (.expr (Ev.E.cstr x)) σ A F = wE T k (Ev.E.cstr x) σ A (fun _ A => F (.nx σ) A) (exS σ F) := s_expr rfl
theorem s_ret_cstr {x : Str} : wS T k (.ret (Ev.E.cstr x)) σ A F = wE T k (Ev.E.cstr x) σ A (fun d A => retQ d fun d => F (.rt d) A) (exS σ F) := s_ret rfl
theorem s_asg_cbl {b : Bool} {tg0 : Tg} : wS T k (.asg tg0 (Ev.E.cbl b)) σ A F = wE T k (Ev.E.cbl b) σ A (fun x A => asgQ tg0 x σ fun σ => F (.nx σ) A) (exS σ F) := s_asg rfl
theorem s_expr_cbl {b : Bool} : wS T k (.expr (Ev.E.cbl b)) σ A F = wE T k (Ev.E.cbl b) σ A (fun _ A => F (.nx σ) A) (exS σ F) := s_expr rfl
theorem s_ret_cbl {b : Bool} : wS T k (.ret (Ev.E.cbl b)) σ A F = wE T k (Ev.E.cbl b) σ A (fun d A => retQ d fun d => F (.rt d) A) (exS σ F) := s_ret rfl
theorem s_asg_cnon  {tg0 : Tg} : wS T k (.asg tg0 (Ev.E.cnon)) σ A F = wE T k (Ev.E.cnon) σ A (fun x A => asgQ tg0 x σ fun σ => F (.nx σ) A) (exS σ F) := s_asg rfl
theorem s_expr_cnon  : wS T k (.expr (Ev.E.cnon)) σ A F = wE T k (Ev.E.cnon) σ A (fun _ A => F (.nx σ) A) (exS σ F) := s_expr rfl
theorem s_ret_cnon  : wS T k (.ret (Ev.E.cnon)) σ A F = wE T k (Ev.E.cnon) σ A (fun d A => retQ d fun d => F (.rt d) A) (exS σ F) := s_ret rfl
theorem s_asg_bin {op : BOp} {a b : Ev.E} {tg0 : Tg} : wS T k (.asg tg0 (Ev.E.bin op a b)) σ A F = wE T k (Ev.E.bin op a b) σ A (fun x A => asgQ tg0 x σ fun σ => F (.nx σ) A) (exS σ F) := s_asg rfl
theorem s_expr_bin {op : BOp} {a b : Ev.E} : wS T k (.expr (Ev.E.bin op a b)) σ A F = wE T k (Ev.E.bin op a b) σ A (fun _ A => F (.nx σ) A) (exS σ F) := s_expr rfl
theorem s_ret_bin {op : BOp} {a b : Ev.E} : wS T k (.ret (Ev.E.bin op a b)) σ A F = wE T k (Ev.E.bin op a b) σ A (fun d A => retQ d fun d => F (.rt d) A) (exS σ F) := s_ret rfl
theorem s_asg_neg {a : Ev.E} {tg0 : Tg} : wS T k (.asg tg0 (Ev.E.neg a)) σ A F = wE T k (Ev.E.neg a) σ A (fun x A => asgQ tg0 x σ fun σ => F (.nx σ) A) (exS σ F) := s_asg rfl
theorem s_expr_neg {a : Ev.E} : wS T k (.expr (Ev.E.neg a)) σ A F = wE T k (Ev.E.neg a) σ A (fun _ A => F (.nx σ) A) (exS σ F) := s_expr rfl
theorem s_ret_neg {a : Ev.E} : wS T k (.ret (Ev.E.neg a)) σ A F = wE T k (Ev.E.neg a) σ A (fun d A => retQ d fun d => F (.rt d) A) (exS σ F) := s_ret rfl
theorem s_asg_not {a : Ev.E} {tg0 : Tg} : wS T k (.asg tg0 (Ev.E.not a)) σ A F = wE T k (Ev.E.not a) σ A (fun x A => asgQ tg0 x σ fun σ => F (.nx σ) A) (exS σ F) := s_asg rfl
theorem s_expr_not {a : Ev.E} : wS T k (.expr (Ev.E.not a)) σ A F = wE T k (Ev.E.not a) σ A (fun _ A => F (.nx σ) A) (exS σ F) := s_expr rfl
theorem s_ret_not {a : Ev.E} : wS T k (.ret (Ev.E.not a)) σ A F = wE T k (Ev.E.not a) σ A (fun d A => retQ d fun d => F (.rt d) A) (exS σ F) := s_ret rfl
theorem s_asg_cmp {op : COp} {a b : Ev.E} {tg0 : Tg} : wS T k (.asg tg0 (Ev.E.cmp op a b)) σ A F = wE T k (Ev.E.cmp op a b) σ A (fun x A => asgQ tg0 x σ fun σ => F (.nx σ) A) (exS σ F) := s_asg rfl
theorem s_expr_cmp {op : COp} {a b : Ev.E} : wS T k (.expr (Ev.E.cmp op a b)) σ A F = wE T k (Ev.E.cmp op a b) σ A (fun _ A => F (.nx σ) A) (exS σ F) := s_expr rfl
theorem s_ret_cmp {op : COp} {a b : Ev.E} : wS T k (.ret (Ev.E.cmp op a b)) σ A F = wE T k (Ev.E.cmp op a b) σ A (fun d A => retQ d fun d => F (.rt d) A) (exS σ F) := s_ret rfl
theorem s_asg_chain {op op2 : COp} {a b c : Ev.E} {tg0 : Tg} : wS T k (.asg tg0 (Ev.E.chain op op2 a b c)) σ A F = wE T k (Ev.E.chain op op2 a b c) σ A (fun x A => asgQ tg0 x σ fun σ => F (.nx σ) A) (exS σ F) := s_asg rfl
theorem s_expr_chain {op op2 : COp} {a b c : Ev.E} : wS T k (.expr (Ev.E.chain op op2 a b c)) σ A F = wE T k (Ev.E.chain op op2 a b c) σ A (fun _ A => F (.nx σ) A) (exS σ F) := s_expr rfl
theorem s_ret_chain {op op2 : COp} {a b c : Ev.E} : wS T k (.ret (Ev.E.chain op op2 a b c)) σ A F = wE T k (Ev.E.chain op op2 a b c) σ A (fun d A => retQ d fun d => F (.rt d) A) (exS σ F) := s_ret rfl
theorem s_asg_and1 {a : Ev.E} {tg0 : Tg} : wS T k (.asg tg0 (Ev.E.and1 a)) σ A F = wE T k (Ev.E.and1 a) σ A (fun x A => asgQ tg0 x σ fun σ => F (.nx σ) A) (exS σ F) := s_asg rfl
theorem s_expr_and1 {a : Ev.E} : wS T k (.expr (Ev.E.and1 a)) σ A F = wE T k (Ev.E.and1 a) σ A (fun _ A => F (.nx σ) A) (exS σ F) := s_expr rfl
theorem s_ret_and1 {a : Ev.E} : wS T k (.ret (Ev.E.and1 a)) σ A F = wE T k (Ev.E.and1 a) σ A (fun d A => retQ d fun d => F (.rt d) A) (exS σ F) := s_ret rfl
theorem s_asg_and2 {a b : Ev.E} {tg0 : Tg} : wS T k (.asg tg0 (Ev.E.and2 a b)) σ A F = wE T k (Ev.E.and2 a b) σ A (fun x A => asgQ tg0 x σ fun σ => F (.nx σ) A) (exS σ F) := s_asg rfl
theorem s_expr_and2 {a b : Ev.E} : wS T k (.expr (Ev.E.and2 a b)) σ A F = wE T k (Ev.E.and2 a b) σ A (fun _ A => F (.nx σ) A) (exS σ F) := s_expr rfl
theorem s_ret_and2 {a b : Ev.E} : wS T k (.ret (Ev.E.and2 a b)) σ A F = wE T k (Ev.E.and2 a b) σ A (fun d A => retQ d fun d => F (.rt d) A) (exS σ F) := s_ret rfl
theorem s_asg_or1 {a : Ev.E} {tg0 : Tg} : wS T k (.asg tg0 (Ev.E.or1 a)) σ A F = wE T k (Ev.E.or1 a) σ A (fun x A => asgQ tg0 x σ fun σ => F (.nx σ) A) (exS σ F) := s_asg rfl
theorem s_expr_or1 {a : Ev.E} : wS T k (.expr (Ev.E.or1 a)) σ A F = wE T k (Ev.E.or1 a) σ A (fun _ A => F (.nx σ) A) (exS σ F) := s_expr rfl
theorem s_ret_or1 {a : Ev.E} : wS T k (.ret (Ev.E.or1 a)) σ A F = wE T k (Ev.E.or1 a) σ A (fun d A => retQ d fun d => F (.rt d) A) (exS σ F) := s_ret rfl
theorem s_asg_or2 {a b : Ev.E} {tg0 : Tg} : wS T k (.asg tg0 (Ev.E.or2 a b)) σ A F = wE T k (Ev.E.or2 a b) σ A (fun x A => asgQ tg0 x σ fun σ => F (.nx σ) A) (exS σ F) := s_asg rfl
theorem s_expr_or2 {a b : Ev.E} : wS T k (.expr (Ev.E.or2 a b)) σ A F = wE T k (Ev.E.or2 a b) σ A (fun _ A => F (.nx σ) A) (exS σ F) := s_expr rfl
theorem s_ret_or2 {a b : Ev.E} : wS T k (.ret (Ev.E.or2 a b)) σ A F = wE T k (Ev.E.or2 a b) σ A (fun d A => retQ d fun d => F (.rt d) A) (exS σ F) := s_ret rfl
theorem s_asg_ife {t a b : Ev.E} {tg0 : Tg} : wS T k (.asg tg0 (Ev.E.ife t a b)) σ A F = wE T k (Ev.E.ife t a b) σ A (fun x A => asgQ tg0 x σ fun σ => F (.nx σ) A) (exS σ F) := s_asg rfl
theorem s_expr_ife {t a b : Ev.E} : wS T k (.expr (Ev.E.ife t a b)) σ A F = wE T k (Ev.E.ife t a b) σ A (fun _ A => F (.nx σ) A) (exS σ F) := s_expr rfl
theorem s_ret_ife {t a b : Ev.E} : wS T k (.ret (Ev.E.ife t a b)) σ A F = wE T k (Ev.E.ife t a b) σ A (fun d A => retQ d fun d => F (.rt d) A) (exS σ F) := s_ret rfl
theorem s_asg_tup {es : Es} {tg0 : Tg} : wS T k (.asg tg0 (Ev.E.tup es)) σ A F = wE T k (Ev.E.tup es) σ A (fun x A => asgQ tg0 x σ fun σ => F (.nx σ) A) (exS σ F) := s_asg rfl
theorem s_expr_tup {es : Es} : wS T k (.expr (Ev.E.tup es)) σ A F = wE T k (Ev.E.tup es) σ A (fun _ A => F (.nx σ) A) (exS σ F) := s_expr rfl
theorem s_ret_tup {es : Es} : wS T k (.ret (Ev.E.tup es)) σ A F = wE T k (Ev.E.tup es) σ A (fun d A => retQ d fun d => F (.rt d) A) (exS σ F) := s_ret rfl
theorem s_asg_lst {es : Es} {tg0 : Tg} : wS T k (.asg tg0 (Ev.E.lst es)) σ A F = wE T k (Ev.E.lst es) σ A (fun x A => asgQ tg0 x σ fun σ => F (.nx σ) A) (exS σ F) := s_asg rfl
theorem s_expr_lst {es : Es} : wS T k (.expr (Ev.E.lst es)) σ A F = wE T k (Ev.E.lst es) σ A (fun _ A => F (.nx σ) A) (exS σ F) := s_expr rfl
theorem s_ret_lst {es : Es} : wS T k (.ret (Ev.E.lst es)) σ A F = wE T k (Ev.E.lst es) σ A (fun d A => retQ d fun d => F (.rt d) A) (exS σ F) := s_ret rfl
theorem s_asg_lstM {es : Es} {tg0 : Tg} : wS T k (.asg tg0 (Ev.E.lstM es)) σ A F = wE T k (Ev.E.lstM es) σ A (fun x A => asgQ tg0 x σ fun σ => F (.nx σ) A) (exS σ F) := s_asg rfl
theorem s_expr_lstM {es : Es} : wS T k (.expr (Ev.E.lstM es)) σ A F = wE T k (Ev.E.lstM es) σ A (fun _ A => F (.nx σ) A) (exS σ F) := s_expr rfl
theorem s_ret_lstM {es : Es} : wS T k (.ret (Ev.E.lstM es)) σ A F = wE T k (Ev.E.lstM es) σ A (fun d A => retQ d fun d => F (.rt d) A) (exS σ F) := s_ret rfl
theorem s_asg_ix {a i : Ev.E} {tg0 : Tg} : wS T k (.asg tg0 (Ev.E.ix a i)) σ A F = wE T k (Ev.E.ix a i) σ A (fun x A => asgQ tg0 x σ fun σ => F (.nx σ) A) (exS σ F) := s_asg rfl
theorem s_expr_ix {a i : Ev.E} : wS T k (.expr (Ev.E.ix a i)) σ A F = wE T k (Ev.E.ix a i) σ A (fun _ A => F (.nx σ) A) (exS σ F) := s_expr rfl
theorem s_ret_ix {a i : Ev.E} : wS T k (.ret (Ev.E.ix a i)) σ A F = wE T k (Ev.E.ix a i) σ A (fun d A => retQ d fun d => F (.rt d) A) (exS σ F) := s_ret rfl
theorem s_asg_sl {a lo hi : Ev.E} {tg0 : Tg} : wS T k (.asg tg0 (Ev.E.sl a lo hi)) σ A F = wE T k (Ev.E.sl a lo hi) σ A (fun x A => asgQ tg0 x σ fun σ => F (.nx σ) A) (exS σ F) := s_asg rfl
theorem s_expr_sl {a lo hi : Ev.E} : wS T k (.expr (Ev.E.sl a lo hi)) σ A F = wE T k (Ev.E.sl a lo hi) σ A (fun _ A => F (.nx σ) A) (exS σ F) := s_expr rfl
theorem s_ret_sl {a lo hi : Ev.E} : wS T k (.ret (Ev.E.sl a lo hi)) σ A F = wE T k (Ev.E.sl a lo hi) σ A (fun d A => retQ d fun d => F (.rt d) A) (exS σ F) := s_ret rfl
theorem s_asg_nop  {tg0 : Tg} : wS T k (.asg tg0 (Ev.E.nop)) σ A F = wE T k (Ev.E.nop) σ A (fun x A => asgQ tg0 x σ fun σ => F (.nx σ) A) (exS σ F) := s_asg rfl
theorem s_expr_nop  : wS T k (.expr (Ev.E.nop)) σ A F = wE T k (Ev.E.nop) σ A (fun _ A => F (.nx σ) A) (exS σ F) := s_expr rfl
theorem s_ret_nop  : wS T k (.ret (Ev.E.nop)) σ A F = wE T k (Ev.E.nop) σ A (fun d A => retQ d fun d => F (.rt d) A) (exS σ F) := s_ret rfl
theorem s_asg_call {x f : Str} {es : Es} {tg0 : Tg} : wS T k (.asg tg0 (Ev.E.call x f es)) σ A F = wE T k (Ev.E.call x f es) σ A (fun x A => asgQ tg0 x σ fun σ => F (.nx σ) A) (exS σ F) := s_asg rfl
theorem s_expr_call {x f : Str} {es : Es} : wS T k (.expr (Ev.E.call x f es)) σ A F = wE T k (Ev.E.call x f es) σ A (fun _ A => F (.nx σ) A) (exS σ F) := s_expr rfl
theorem s_ret_call {x f : Str} {es : Es} : wS T k (.ret (Ev.E.call x f es)) σ A F = wE T k (Ev.E.call x f es) σ A (fun d A => retQ d fun d => F (.rt d) A) (exS σ F) := s_ret rfl
theorem s_asg_blt {f : Blt} {es : Es} {tg0 : Tg} : wS T k (.asg tg0 (Ev.E.blt f es)) σ A F = wE T k (Ev.E.blt f es) σ A (fun x A => asgQ tg0 x σ fun σ => F (.nx σ) A) (exS σ F) := s_asg rfl
theorem s_expr_blt {f : Blt} {es : Es} : wS T k (.expr (Ev.E.blt f es)) σ A F = wE T k (Ev.E.blt f es) σ A (fun _ A => F (.nx σ) A) (exS σ F) := s_expr rfl
theorem s_ret_blt {f : Blt} {es : Es} : wS T k (.ret (Ev.E.blt f es)) σ A F = wE T k (Ev.E.blt f es) σ A (fun d A => retQ d fun d => F (.rt d) A) (exS σ F) := s_ret rfl
theorem s_asg_bltM {f : Blt} {es : Es} {tg0 : Tg} : wS T k (.asg tg0 (Ev.E.bltM f es)) σ A F = wE T k (Ev.E.bltM f es) σ A (fun x A => asgQ tg0 x σ fun σ => F (.nx σ) A) (exS σ F) := s_asg rfl
theorem s_expr_bltM {f : Blt} {es : Es} : wS T k (.expr (Ev.E.bltM f es)) σ A F = wE T k (Ev.E.bltM f es) σ A (fun _ A => F (.nx σ) A) (exS σ F) := s_expr rfl
theorem s_ret_bltM {f : Blt} {es : Es} : wS T k (.ret (Ev.E.bltM f es)) σ A F = wE T k (Ev.E.bltM f es) σ A (fun d A => retQ d fun d => F (.rt d) A) (exS σ F) := s_ret rfl
theorem s_asg_lc {elt : Ev.E} {tg : Tg} {it : It} {cond : Ev.E} {tg0 : Tg} : wS T k (.asg tg0 (Ev.E.lc elt tg it cond)) σ A F = wE T k (Ev.E.lc elt tg it cond) σ A (fun x A => asgQ tg0 x σ fun σ => F (.nx σ) A) (exS σ F) := s_asg rfl
theorem s_expr_lc {elt : Ev.E} {tg : Tg} {it : It} {cond : Ev.E} : wS T k (.expr (Ev.E.lc elt tg it cond)) σ A F = wE T k (Ev.E.lc elt tg it cond) σ A (fun _ A => F (.nx σ) A) (exS σ F) := s_expr rfl
theorem s_ret_lc {elt : Ev.E} {tg : Tg} {it : It} {cond : Ev.E} : wS T k (.ret (Ev.E.lc elt tg it cond)) σ A F = wE T k (Ev.E.lc elt tg it cond) σ A (fun d A => retQ d fun d => F (.rt d) A) (exS σ F) := s_ret rfl
theorem s_asg_frz {a : Ev.E} {tg0 : Tg} : wS T k (.asg tg0 (Ev.E.frz a)) σ A F = wE T k (Ev.E.frz a) σ A (fun x A => asgQ tg0 x σ fun σ => F (.nx σ) A) (exS σ F) := s_asg rfl
theorem s_expr_frz {a : Ev.E} : wS T k (.expr (Ev.E.frz a)) σ A F = wE T k (Ev.E.frz a) σ A (fun _ A => F (.nx σ) A) (exS σ F) := s_expr rfl
theorem s_asg_binM {a b : Ev.E} {tg0 : Tg} : wS T k (.asg tg0 (Ev.E.binM a b)) σ A F = wE T k (Ev.E.binM a b) σ A (fun x A => asgQ tg0 x σ fun σ => F (.nx σ) A) (exS σ F) := s_asg rfl
theorem s_expr_binM {a b : Ev.E} : wS T k (.expr (Ev.E.binM a b)) σ A F = wE T k (Ev.E.binM a b) σ A (fun _ A => F (.nx σ) A) (exS σ F) := s_expr rfl
theorem s_ret_binM {a b : Ev.E} : wS T k (.ret (Ev.E.binM a b)) σ A F = wE T k (Ev.E.binM a b) σ A (fun d A => retQ d fun d => F (.rt d) A) (exS σ F) := s_ret rfl
theorem s_asg_rev {a : Ev.E} {tg0 : Tg} : wS T k (.asg tg0 (Ev.E.rev a)) σ A F = wE T k (Ev.E.rev a) σ A (fun x A => asgQ tg0 x σ fun σ => F (.nx σ) A) (exS σ F) := s_asg rfl
theorem s_expr_rev {a : Ev.E} : wS T k (.expr (Ev.E.rev a)) σ A F = wE T k (Ev.E.rev a) σ A (fun _ A => F (.nx σ) A) (exS σ F) := s_expr rfl
theorem s_ret_rev {a : Ev.E} : wS T k (.ret (Ev.E.rev a)) σ A F = wE T k (Ev.E.rev a) σ A (fun d A => retQ d fun d => F (.rt d) A) (exS σ F) := s_ret rfl
theorem s_retV {i : Nat} : wS T k (.ret (.var i)) σ A F = retVQ σ[i]? fun d => F (.rt d) A := by rw [wS.eq_def]; rfl
theorem retV_1 {xs : List D} {Q : D → Prop} : retVQ (some (some (.vw 1 xs))) Q = Q (.vw 2 xs) := (rfl)
theorem retV_d {d : D} {Q : D → Prop} (h : isVw d = false) : retVQ (some (some d)) Q = Q d := by
  cases d <;> first | (cases h; done) | exact propext ⟨fun z => z.2, fun z => ⟨rfl, z⟩⟩
theorem retV_lv {xs : List D} {Q : D → Prop} : retVQ (some (some (.lv xs))) Q = Q (.lv xs) := retV_d rfl
theorem retV_tup {xs : List D} {Q : D → Prop} : retVQ (some (some (.tup xs))) Q = Q (.tup xs) := retV_d rfl
theorem retV_int {i : Int} {Q : D → Prop} : retVQ (some (some (.int i))) Q = Q (.int i) := retV_d rfl
theorem retV_str {x : Str} {Q : D → Prop} : retVQ (some (some (.str x))) Q = Q (.str x) := retV_d rfl
theorem retV_bl {b : Bool} {Q : D → Prop} : retVQ (some (some (.bl b))) Q = Q (.bl b) := retV_d rfl
theorem retV_non  {Q : D → Prop} : retVQ (some (some .non)) Q = Q .non := retV_d rfl
theorem retV_ref {n : Nat} {Q : D → Prop} : retVQ (some (some (.ref n))) Q = Q (.ref n) := retV_d rfl
def frzQ (o : Option (Option D)) (Q : D → Prop) : Prop := match o with
  | some (some (.vw 1 xs)) => Q (.lv xs)
  | _ => False
theorem s_retF {i : Nat} : wS T k (.ret (.frz (.var i))) σ A F = frzQ σ[i]? fun d => F (.rt d) A := by rw [wS.eq_def]; rfl
theorem frz_1 {xs : List D} {Q : D → Prop} : frzQ (some (some (.vw 1 xs))) Q = Q (.lv xs) := (rfl)
/-! methods that change a name's list -/
def ownQ (o : Option (Option D)) (P : List D → Prop) (R : D → Prop) : Prop := match o with
  | some (some (.vw 1 xs)) => P xs
  | some (some d) => R d
  | _ => False
theorem own_1 {xs : List D} {P : List D → Prop} {R : D → Prop} : ownQ (some (some (.vw 1 xs))) P R = P xs := (rfl)
theorem own_r {n : Nat} {P : List D → Prop} {R : D → Prop} : ownQ (some (some (.ref n))) P R = R (.ref n) := (rfl)
theorem meth_v {m : Mth} {j : Nat} {es : Es} {K : D → Sg → Ob → Prop} : methQ T k m (.var j) es σ A K E = ownQ σ[j]? (fun xs => wEs T k es σ A (fun vs A => mthQ m xs vs fun d ys => K d (σ.set j (some (.vw 1 ys))) A) E)
    (fun d => refQ A d fun _ _ => wEs T k es σ A (fun vs A => refQ A d fun n xs => mthQ m xs vs fun d ys => K d σ (putA A n (.lst ys))) E) := (rfl)
theorem set_v {j : Nat} {i : Ev.E} {x : D} {K : Sg → Ob → Prop} : setQ T k (.var j) i x σ A K E = ownQ σ[j]? (fun xs => wE T k i σ A (fun i A => ixQ xs i fun n => isVw x = false ∧ K (σ.set j (some (.vw 1 (xs.set n x)))) A) E)
    (fun d => wE T k i σ A (fun i A => refQ A d fun n xs => ixQ xs i fun j => isVw x = false ∧ K σ (putA A n (.lst (xs.set j x)))) E) := (rfl)
theorem app_w {xs : List D} {d : D} {K : D → List D → Prop} (h : xs.length < lim) (hd : isVw d = false) : mthQ .append xs [d] K = K .non (xs ++ [d]) := by
  simp [mthQ, Mth.run, appF, h, hd]
theorem seq_nx {g : Sg → Ob → QF → Prop} : seqQ g F (.nx σ) A = g σ A F := (rfl)
theorem seq_ct {g : Sg → Ob → QF → Prop} : seqQ g F (.ct σ) A = F (.ct σ) A := (rfl)
theorem seq_bk {g : Sg → Ob → QF → Prop} : seqQ g F (.bk σ) A = F (.bk σ) A := (rfl)
theorem seq_rt {g : Sg → Ob → QF → Prop} {d : D} : seqQ g F (.rt d) A = F (.rt d) A := (rfl)
theorem seq_ex {g : Sg → Ob → QF → Prop} {c : Str} {f : List (Str × D)} : seqQ g F (.ex σ c f) A = F (.ex σ c f) A := (rfl)
theorem retF_nx : retF Q E (.nx σ) A = Q .non A := (rfl)
theorem retF_rt {d : D} : retF Q E (.rt d) A = Q d A := (rfl)
theorem retF_ex {c : Str} {f : List (Str × D)} : retF Q E (.ex σ c f) A = E c f A := (rfl)
theorem exS_ap {c : Str} {f : List (Str × D)} : exS σ F c f A = F (.ex σ c f) A := (rfl)
theorem stab_int {i : Int} : stab (.int i) = .int i := (rfl)
theorem stab_str {i : Str} : stab (.str i) = .str i := (rfl)
theorem stab_ref {i : Nat} : stab (.ref i) = .ref i := (rfl)
theorem stab_bl {i : Bool} : stab (.bl i) = .bl i := (rfl)
theorem stab_non : stab .non = .non := (rfl)
theorem stab_lv {i : List D} : stab (.lv i) = .lv i := (rfl)
theorem stab_tup {i : List D} : stab (.tup i) = .tup i := (rfl)
theorem stab_vw {t : Nat} {i : List D} : stab (.vw t i) = .vw 0 i := (rfl)
end
/-! ### own instances -/
def insQ (o : Option O) (K : Str → List Str → List D → Prop) : Prop := match o with
  | some (.ins c ks ds) => K c ks ds
  | _ => False
def insS (T : Prg) (f : Str) (A : Ob) (n : Nat) (o : Option O) (x : D) (K : Ob → Prop) : Prop := match o with
  | some (.ins c ks ds) => T.fk c f = true ∧ ks.length < 900 ∧ isVw x = false ∧ K (putA A n (.ins c (putKs f ks) (putDs f x ks ds)))
  | _ => False
section
variable {T : Prg} {k : Nat} {A : Ob} {σ : Sg} {Q : QD} {E : QX} {F : QF}
theorem w_fld {a : Ev.E} {f : Str} : wE T k (.fld a f) σ A Q E = wE T k a σ A (fun x A => selfQ A x fun c ks ds => T.fk c f = true ∧ varQ (some (fldOf ks ds f)) fun d => Q d A) E := by rw [wE.eq_def]
theorem w_prop {a : Ev.E} {f : Str} : wE T k (.prop a f) σ A Q E = wE T k a σ A (fun x A => keyQ T f "prop" A x fun g => callQ T k g [x] A Q noX) E := by rw [wE.eq_def]
theorem w_mc {m v : Str} {a : Ev.E} {es : Es} : wE T k (.mc m v a es) σ A Q E = wE T k a σ A (fun x A => keyQ T m v A x fun g => (v ≠ "low" ∧ v ≠ "prop") ∧ wEs T k es σ A (fun vs A => callQ T k g (x :: vs.map stab) A Q E) E) E := by rw [wE.eq_def]
theorem w_o1 {w : W1} {a : Ev.E} : wE T k (.o1 w a) σ A Q E = wE T k a σ A (fun x A => keyQ T w.nm "low" A x fun g => callQ T k g [x] A (fun d A => isVw d = false ∧ okW (w.post d (fs A)) fun d => Q d A) noX) E := by rw [wE.eq_def]
theorem w_o2 {w : W2o} {a b : Ev.E} : wE T k (.o2 w a b) σ A Q E = wE T k a σ A (fun x A => wE T k b σ A (fun y A => keyQ T w.nm "" A y fun g => callQ T k g [y, stab x] A (fun d A => isVw d = false ∧ okW (w.post d (fs A)) fun d => Q d A) noX) E) E := by rw [wE.eq_def]
theorem w_kc {c f : Str} : wE T k (.kc c f) σ A Q E = varQ (some (T.kcs.lookup (c, f))) fun d => clean d = true ∧ Q d A := by rw [wE.eq_def]
theorem s_setf {o e : Ev.E} {f : Str} : wS T k (.setf o f e) σ A F = wE T k e σ A (fun x A => wE T k o σ A (fun o A => setfQ T f A o x fun A => F (.nx σ) A) (exS σ F)) (exS σ F) := by rw [wS.eq_def]
theorem self_ob {c : Str} {ks : List Str} {ds : List D} {K : Str → List Str → List D → Prop} : selfQ A (.ob c ks ds) K = K c ks ds := (rfl)
theorem fs_at {n : Nat} : (fs A)[n]? = A.lookup n ∨ ((fs A)[n]? = none ∨ (fs A)[n]? = some .dead) ∧ A.lookup n = none := by
  cases h : A.lookup n with
  | some o => exact .inl (fs_of h)
  | none =>
    refine .inr ⟨?_, rfl⟩
    cases h2 : (fs A)[n]? with
    | none => exact .inl rfl
    | some o =>
      by_cases hl : o.live = true
      · rw [fs_get h2 hl] at h; cases h
      · cases o with
        | dead => exact .inr rfl
        | lst _ => exact absurd rfl hl
        | ins _ _ _ => exact absurd rfl hl
theorem self_ref {n : Nat} {K : Str → List Str → List D → Prop} : selfQ A (.ref n) K = insQ (A.lookup n) K := by
  have e : selfOf (fs A) (.ref n) = match (fs A)[n]? with
      | some (.ins c ks ds) => some (c, ks, ds)
      | _ => none := rfl
  unfold selfQ insQ
  rw [e]
  rcases @fs_at A n with h | ⟨h | h, h2⟩
  · rw [h]
    cases A.lookup n with
    | none => rfl
    | some o => cases o <;> rfl
  · rw [h, h2]
  · rw [h, h2]
theorem ins_s {c : Str} {ks : List Str} {ds : List D} {K : Str → List Str → List D → Prop} : insQ (some (.ins c ks ds)) K = K c ks ds := (rfl)
theorem setf_ref {n : Nat} {f : Str} {x : D} {K : Ob → Prop} : setfQ T f A (.ref n) x K = insS T f A n (A.lookup n) x K := (rfl)
theorem insS_s {n : Nat} {f c : Str} {ks : List Str} {ds : List D} {x : D} {K : Ob → Prop} : insS T f A n (some (.ins c ks ds)) x K = (T.fk c f = true ∧ ks.length < 900 ∧ isVw x = false ∧ K (putA A n (.ins c (putKs f ks) (putDs f x ks ds)))) := (rfl)
theorem put_head {n : Nat} {o o2 : O} (h : n ∉ A.map (·.1)) : putA ((n, o) :: A) n o2 = (n, o2) :: A := by
  unfold putA
  simp only [List.map_cons, if_true, List.cons.injEq, true_and]
  have : ∀ B : Ob, n ∉ B.map (·.1) → (B.map fun p => if p.1 = n then (n, o2) else p) = B := fun B hB => by
    induction B with
    | nil => rfl
    | cons p B ih =>
      simp only [List.map_cons, List.mem_cons, not_or] at hB ⊢
      rw [if_neg (fun q => hB.1 q.symm), ih hB.2]
  exact this A h
theorem drop_head {n : Nat} {o : O} (h : n ∉ A.map (·.1)) : dropA ((n, o) :: A) n = A := by
  unfold dropA
  rw [List.filter_cons_of_neg (by simp)]
  refine List.filter_eq_self.mpr fun p hp => ?_
  simp only [bne_iff_ne]
  exact fun q => h (q ▸ List.mem_map_of_mem hp)
theorem look_head {n : Nat} {o : O} : List.lookup n ((n, o) :: A) = some o := List.lookup_cons_self
theorem key_ob {c m v f : Str} {ks : List Str} {ds : List D} {K : Str → Prop} (h1 : ks.contains m = false) (h2 : T.mt.lookup (c, m, v) = some f) (h3 : T.hasA f f = true) : keyQ T m v A (.ob c ks ds) K = K f := by
  unfold keyQ
  rw [self_ob]
  simp [h2, h3]
  intro _
  simpa using h1
theorem key_ref {n : Nat} {c m v f : Str} {ks : List Str} {ds : List D} {K : Str → Prop} (h0 : A.lookup n = some (.ins c ks ds)) (h1 : ks.contains m = false) (h2 : T.mt.lookup (c, m, v) = some f) (h3 : T.hasA f f = true) : keyQ T m v A (.ref n) K = K f := by
  unfold keyQ
  rw [self_ref, h0, ins_s]
  simp [h2, h3]
  intro _
  simpa using h1
theorem ret_ob {c : Str} {ks : List Str} {ds : List D} {Q : D → Prop} : retQ (.ob c ks ds) Q = Q (.ob c ks ds) := (rfl)
theorem asg_ob {tg : Tg} {c : Str} {ks : List Str} {ds : List D} {Q : Sg → Prop} : asgQ tg (.ob c ks ds) σ Q = stQ tg (.ob c ks ds) σ Q := (rfl)
theorem retV_ob {c : Str} {ks : List Str} {ds : List D} {Q : D → Prop} : retVQ (some (some (.ob c ks ds))) Q = Q (.ob c ks ds) := retV_d rfl
theorem trk_ob {c : Str} {ks : List Str} {ds vs : List D} {K : List D → Ob → Prop} : trkQ (.ob c ks ds :: vs) A K = trkQ vs A fun ws A => K (.ob c ks ds :: ws) A := by simp [trkQ, isVw]
theorem isvw_ob {c : Str} {ks : List Str} {ds : List D} : isVw (.ob c ks ds) = false := (rfl)
theorem stab_ob {c : Str} {ks : List Str} {ds : List D} : stab (.ob c ks ds) = .ob c ks ds := (rfl)
theorem post_abs {i : Int} {S : Sto} : W1.post .abs (.int i) S = .ok (.int i) S := (rfl)
theorem post_in {b : Bool} {S : Sto} : W2o.post .inn (.bl b) S = .ok (.bl b) S := (rfl)
theorem post_nin {b : Bool} {S : Sto} : W2o.post .nin (.bl b) S = .ok (.bl (!b)) S := (rfl)
theorem isNop_fld (a : Ev.E) (f : Str) : Ev.E.isNop (Ev.E.fld a f) = false := rfl
theorem s_asg_fld {a : Ev.E} {f : Str} {tg0 : Tg} : wS T k (.asg tg0 (Ev.E.fld a f)) σ A F = wE T k (Ev.E.fld a f) σ A (fun x A => asgQ tg0 x σ fun σ => F (.nx σ) A) (exS σ F) := s_asg rfl
theorem s_expr_fld {a : Ev.E} {f : Str} : wS T k (.expr (Ev.E.fld a f)) σ A F = wE T k (Ev.E.fld a f) σ A (fun _ A => F (.nx σ) A) (exS σ F) := s_expr rfl
theorem s_ret_fld {a : Ev.E} {f : Str} : wS T k (.ret (Ev.E.fld a f)) σ A F = wE T k (Ev.E.fld a f) σ A (fun d A => retQ d fun d => F (.rt d) A) (exS σ F) := s_ret rfl
theorem isNop_prop (a : Ev.E) (f : Str) : Ev.E.isNop (Ev.E.prop a f) = false := rfl
theorem s_asg_prop {a : Ev.E} {f : Str} {tg0 : Tg} : wS T k (.asg tg0 (Ev.E.prop a f)) σ A F = wE T k (Ev.E.prop a f) σ A (fun x A => asgQ tg0 x σ fun σ => F (.nx σ) A) (exS σ F) := s_asg rfl
theorem s_expr_prop {a : Ev.E} {f : Str} : wS T k (.expr (Ev.E.prop a f)) σ A F = wE T k (Ev.E.prop a f) σ A (fun _ A => F (.nx σ) A) (exS σ F) := s_expr rfl
theorem s_ret_prop {a : Ev.E} {f : Str} : wS T k (.ret (Ev.E.prop a f)) σ A F = wE T k (Ev.E.prop a f) σ A (fun d A => retQ d fun d => F (.rt d) A) (exS σ F) := s_ret rfl
theorem isNop_mc (m v : Str) (a : Ev.E) (es : Es) : Ev.E.isNop (Ev.E.mc m v a es) = false := rfl
theorem s_asg_mc {m v : Str} {a : Ev.E} {es : Es} {tg0 : Tg} : wS T k (.asg tg0 (Ev.E.mc m v a es)) σ A F = wE T k (Ev.E.mc m v a es) σ A (fun x A => asgQ tg0 x σ fun σ => F (.nx σ) A) (exS σ F) := s_asg rfl
theorem s_expr_mc {m v : Str} {a : Ev.E} {es : Es} : wS T k (.expr (Ev.E.mc m v a es)) σ A F = wE T k (Ev.E.mc m v a es) σ A (fun _ A => F (.nx σ) A) (exS σ F) := s_expr rfl
theorem s_ret_mc {m v : Str} {a : Ev.E} {es : Es} : wS T k (.ret (Ev.E.mc m v a es)) σ A F = wE T k (Ev.E.mc m v a es) σ A (fun d A => retQ d fun d => F (.rt d) A) (exS σ F) := s_ret rfl
theorem isNop_o1 (w : W1) (a : Ev.E) : Ev.E.isNop (Ev.E.o1 w a) = false := rfl
theorem s_asg_o1 {w : W1} {a : Ev.E} {tg0 : Tg} : wS T k (.asg tg0 (Ev.E.o1 w a)) σ A F = wE T k (Ev.E.o1 w a) σ A (fun x A => asgQ tg0 x σ fun σ => F (.nx σ) A) (exS σ F) := s_asg rfl
theorem s_expr_o1 {w : W1} {a : Ev.E} : wS T k (.expr (Ev.E.o1 w a)) σ A F = wE T k (Ev.E.o1 w a) σ A (fun _ A => F (.nx σ) A) (exS σ F) := s_expr rfl
theorem s_ret_o1 {w : W1} {a : Ev.E} : wS T k (.ret (Ev.E.o1 w a)) σ A F = wE T k (Ev.E.o1 w a) σ A (fun d A => retQ d fun d => F (.rt d) A) (exS σ F) := s_ret rfl
theorem isNop_o2 (w : W2o) (a b : Ev.E) : Ev.E.isNop (Ev.E.o2 w a b) = false := rfl
theorem s_asg_o2 {w : W2o} {a b : Ev.E} {tg0 : Tg} : wS T k (.asg tg0 (Ev.E.o2 w a b)) σ A F = wE T k (Ev.E.o2 w a b) σ A (fun x A => asgQ tg0 x σ fun σ => F (.nx σ) A) (exS σ F) := s_asg rfl
theorem s_expr_o2 {w : W2o} {a b : Ev.E} : wS T k (.expr (Ev.E.o2 w a b)) σ A F = wE T k (Ev.E.o2 w a b) σ A (fun _ A => F (.nx σ) A) (exS σ F) := s_expr rfl
theorem s_ret_o2 {w : W2o} {a b : Ev.E} : wS T k (.ret (Ev.E.o2 w a b)) σ A F = wE T k (Ev.E.o2 w a b) σ A (fun d A => retQ d fun d => F (.rt d) A) (exS σ F) := s_ret rfl
theorem isNop_kc (c f : Str) : Ev.E.isNop (Ev.E.kc c f) = false := rfl
theorem s_asg_kc {c f : Str} {tg0 : Tg} : wS T k (.asg tg0 (Ev.E.kc c f)) σ A F = wE T k (Ev.E.kc c f) σ A (fun x A => asgQ tg0 x σ fun σ => F (.nx σ) A) (exS σ F) := s_asg rfl
theorem s_expr_kc {c f : Str} : wS T k (.expr (Ev.E.kc c f)) σ A F = wE T k (Ev.E.kc c f) σ A (fun _ A => F (.nx σ) A) (exS σ F) := s_expr rfl
theorem s_ret_kc {c f : Str} : wS T k (.ret (Ev.E.kc c f)) σ A F = wE T k (Ev.E.kc c f) σ A (fun d A => retQ d fun d => F (.rt d) A) (exS σ F) := s_ret rfl
theorem isNop_oe (a b : Ev.E) : Ev.E.isNop (Ev.E.oe a b) = false := rfl
theorem s_asg_oe {a b : Ev.E} {tg0 : Tg} : wS T k (.asg tg0 (Ev.E.oe a b)) σ A F = wE T k (Ev.E.oe a b) σ A (fun x A => asgQ tg0 x σ fun σ => F (.nx σ) A) (exS σ F) := s_asg rfl
theorem s_expr_oe {a b : Ev.E} : wS T k (.expr (Ev.E.oe a b)) σ A F = wE T k (Ev.E.oe a b) σ A (fun _ A => F (.nx σ) A) (exS σ F) := s_expr rfl
theorem s_ret_oe {a b : Ev.E} : wS T k (.ret (Ev.E.oe a b)) σ A F = wE T k (Ev.E.oe a b) σ A (fun d A => retQ d fun d => F (.rt d) A) (exS σ F) := s_ret rfl
theorem isNop_isc (c : Str) (a : Ev.E) : Ev.E.isNop (Ev.E.isc c a) = false := rfl
theorem s_asg_isc {c : Str} {a : Ev.E} {tg0 : Tg} : wS T k (.asg tg0 (Ev.E.isc c a)) σ A F = wE T k (Ev.E.isc c a) σ A (fun x A => asgQ tg0 x σ fun σ => F (.nx σ) A) (exS σ F) := s_asg rfl
theorem s_expr_isc {c : Str} {a : Ev.E} : wS T k (.expr (Ev.E.isc c a)) σ A F = wE T k (Ev.E.isc c a) σ A (fun _ A => F (.nx σ) A) (exS σ F) := s_expr rfl
theorem s_ret_isc {c : Str} {a : Ev.E} : wS T k (.ret (Ev.E.isc c a)) σ A F = wE T k (Ev.E.isc c a) σ A (fun d A => retQ d fun d => F (.rt d) A) (exS σ F) := s_ret rfl
theorem isNop_thw (a : Ev.E) : Ev.E.isNop (Ev.E.thw a) = false := rfl
theorem s_asg_thw {a : Ev.E} {tg0 : Tg} : wS T k (.asg tg0 (Ev.E.thw a)) σ A F = wE T k (Ev.E.thw a) σ A (fun x A => asgQ tg0 x σ fun σ => F (.nx σ) A) (exS σ F) := s_asg rfl
theorem s_expr_thw {a : Ev.E} : wS T k (.expr (Ev.E.thw a)) σ A F = wE T k (Ev.E.thw a) σ A (fun _ A => F (.nx σ) A) (exS σ F) := s_expr rfl
theorem s_ret_thw {a : Ev.E} : wS T k (.ret (Ev.E.thw a)) σ A F = wE T k (Ev.E.thw a) σ A (fun d A => retQ d fun d => F (.rt d) A) (exS σ F) := s_ret rfl
theorem isNop_trk (a : Ev.E) : Ev.E.isNop (Ev.E.trk a) = false := rfl
theorem s_asg_trk {a : Ev.E} {tg0 : Tg} : wS T k (.asg tg0 (Ev.E.trk a)) σ A F = wE T k (Ev.E.trk a) σ A (fun x A => asgQ tg0 x σ fun σ => F (.nx σ) A) (exS σ F) := s_asg rfl
theorem s_expr_trk {a : Ev.E} : wS T k (.expr (Ev.E.trk a)) σ A F = wE T k (Ev.E.trk a) σ A (fun _ A => F (.nx σ) A) (exS σ F) := s_expr rfl
theorem s_ret_trk {a : Ev.E} : wS T k (.ret (Ev.E.trk a)) σ A F = wE T k (Ev.E.trk a) σ A (fun d A => retQ d fun d => F (.rt d) A) (exS σ F) := s_ret rfl
theorem w_trk {a : Ev.E} : wE T k (.trk a) σ A Q E = wE T k a σ A (fun x A => tkQ x A fun d A => Q d A) E := by rw [wE.eq_def]
theorem tkQ_vw2 {xs : List D} {K : D → Ob → Prop} : tkQ (.vw 2 xs) A K = ∀ n, n ≠ 0 → n ∉ A.map (·.1) → K (.ref n) ((n, .lst xs) :: A) := by
  unfold tkQ
  rw [trk_vw2]
  simp only [trk_nil]
  rfl
theorem w_oe {a b : Ev.E} : wE T k (.oe a b) σ A Q E = wE T k a σ A (fun x A => wE T k b σ A (fun y A => eqoQ T k x y A fun b => Q (.bl b) A) E) E := by rw [wE.eq_def]
theorem w_isc {c : Str} {a : Ev.E} : wE T k (.isc c a) σ A Q E = ((ctxOf T k).isg c = true ∧ wE T k a σ A (fun x A => selfQ A x fun b _ _ => optQ (T.isl.lookup (b, c)) fun v => Q (.bl v) A) E) := by rw [wE.eq_def]
theorem w_thw {a : Ev.E} : wE T k (.thw a) σ A Q E = wE T k a σ A (fun x A => thwQ x fun d => Q d A) E := by rw [wE.eq_def]
theorem thwQ_lv {xs : List D} {K : D → Prop} : thwQ (.lv xs) K = K (.vw 2 xs) := (rfl)
theorem optQ_s {α : Type} {v : α} {K : α → Prop} : optQ (some v) K = K v := (rfl)
theorem s_trym {b : Ss} {cs : List (Str × Nat × HE)} : wS T k (.trym b cs) σ A F = ((cs.all fun p => (ctxOf T k).tok p.1) = true ∧ wSs T k b σ A (trymQ T k cs F)) := by rw [wS.eq_def]
theorem trymQ_nx {cs : List (Str × Nat × HE)} : trymQ T k cs F (.nx σ) A = F (.nx σ) A := (rfl)
theorem trymQ_rt {cs : List (Str × Nat × HE)} {d : D} : trymQ T k cs F (.rt d) A = F (.rt d) A := (rfl)
theorem trymQ_bk {cs : List (Str × Nat × HE)} : trymQ T k cs F (.bk σ) A = F (.bk σ) A := (rfl)
theorem trymQ_ct {cs : List (Str × Nat × HE)} : trymQ T k cs F (.ct σ) A = F (.ct σ) A := (rfl)
theorem trymQ_ex {cs : List (Str × Nat × HE)} {c : Str} {ps : List (Str × D)} : trymQ T k cs F (.ex σ c ps) A = ((T.exc.lookup c).isSome = true ∧ hselQ T k c ps F cs σ A) := (rfl)
end
def WP4 := And.intro @w_trk <| And.intro @s_asg_trk <| And.intro @s_expr_trk <| And.intro @s_ret_trk <| And.intro @tkQ_vw2 <| And.intro @w_oe <| And.intro @s_asg_oe <| And.intro @s_expr_oe <| And.intro @s_ret_oe <| And.intro @w_isc <| And.intro @s_asg_isc <| And.intro @s_expr_isc <| And.intro @s_ret_isc <| And.intro @w_thw <| And.intro @s_asg_thw <| And.intro @s_expr_thw <| And.intro @s_ret_thw <| And.intro @thwQ_lv <| And.intro @optQ_s <| And.intro @s_trym <| And.intro @trymQ_nx <| And.intro @trymQ_rt <| And.intro @trymQ_bk @trymQ_ct
def WQ4 := And.intro @isNop_trk <| And.intro @isNop_oe <| And.intro @isNop_isc @isNop_thw
def WP3 := And.intro @w_fld <| And.intro @s_asg_fld <| And.intro @s_expr_fld <| And.intro @s_ret_fld <| And.intro @w_prop <| And.intro @s_asg_prop <| And.intro @s_expr_prop <| And.intro @s_ret_prop <| And.intro @w_mc <| And.intro @s_asg_mc <| And.intro @s_expr_mc <| And.intro @s_ret_mc <| And.intro @w_o1 <| And.intro @s_asg_o1 <| And.intro @s_expr_o1 <| And.intro @s_ret_o1 <| And.intro @w_o2 <| And.intro @s_asg_o2 <| And.intro @s_expr_o2 <| And.intro @s_ret_o2 <| And.intro @w_kc <| And.intro @s_asg_kc <| And.intro @s_expr_kc <| And.intro @s_ret_kc <| And.intro @s_setf <| And.intro @self_ob <| And.intro @self_ref <| And.intro @ins_s <| And.intro @setf_ref <| And.intro @insS_s <| And.intro @ret_ob <| And.intro @asg_ob <| And.intro @retV_ob @trk_ob
def WQ3 := And.intro @isNop_fld <| And.intro @isNop_prop <| And.intro @isNop_mc <| And.intro @isNop_o1 <| And.intro @isNop_o2 <| And.intro @isNop_kc <| And.intro @isvw_ob <| And.intro @stab_ob <| And.intro @post_abs <| And.intro @post_in @post_nin
/-- the rules, in one -/
def WP := And.intro @w_v0 <| And.intro @w_v1 <| And.intro @w_v2 <| And.intro @w_v3 <| And.intro @w_v4 <| And.intro @w_v5 <| And.intro @w_v6 <| And.intro @w_v7 <| And.intro @w_v8 <| And.intro @w_v9 <| And.intro @w_v10 <| And.intro @w_v11 <| And.intro @w_v12 <| And.intro @w_v13 <| And.intro @w_v14 <| And.intro @w_v15 <| And.intro @w_var <| And.intro @varQ_s <| And.intro @w_glob <| And.intro @w_ty <| And.intro @w_int <| And.intro @w_str <| And.intro @w_bl <| And.intro @w_non <| And.intro @w_bin <| And.intro @w_neg <| And.intro @w_not <| And.intro @w_cmp <| And.intro @w_chain <| And.intro @w_and1 <| And.intro @w_or1 <| And.intro @w_and2 <| And.intro @w_or2 <| And.intro @w_ife <| And.intro @w_tup <| And.intro @w_lst <| And.intro @trk_nil <| And.intro @trk_lv <| And.intro @trk_tup <| And.intro @trk_int <| And.intro @trk_str <| And.intro @trk_bl <| And.intro @trk_non <| And.intro @trk_ref <| And.intro @trk_vw2 <| And.intro @w_lstM <| And.intro @w_ix <| And.intro @w_sl <| And.intro @w_call <| And.intro @w_blt <| And.intro @w_bltM <| And.intro @thawQ_lv <| And.intro @w_lcS <| And.intro @w_lc1 <| And.intro @w_rev <| And.intro @w_binM <| And.intro @w_nil <| And.intro @w_cons <| And.intro @s_nil <| And.intro @s_pass <| And.intro @s_brk <| And.intro @s_ctn <| And.intro @s_retN <| And.intro @s_ifs <| And.intro @s_forS <| And.intro @s_for1 <| And.intro @s_for2 <| And.intro @s_whl <| And.intro @s_seti <| And.intro @s_try <| And.intro @s_raise <| And.intro @s_raise0 <| And.intro @s_asgM <| And.intro @s_exprM <| And.intro @s_asg_var <| And.intro @s_expr_var <| And.intro @s_asg_glob <| And.intro @s_expr_glob <| And.intro @s_ret_glob <| And.intro @s_asg_ty <| And.intro @s_expr_ty <| And.intro @s_ret_ty <| And.intro @s_asg_cint <| And.intro @s_expr_cint <| And.intro @s_ret_cint <| And.intro @s_asg_cstr <| And.intro @s_expr_cstr <| And.intro @s_ret_cstr <| And.intro @s_asg_cbl <| And.intro @s_expr_cbl <| And.intro @s_ret_cbl <| And.intro @s_asg_cnon <| And.intro @s_expr_cnon <| And.intro @s_ret_cnon <| And.intro @s_asg_bin <| And.intro @s_expr_bin <| And.intro @s_ret_bin <| And.intro @s_asg_neg <| And.intro @s_expr_neg <| And.intro @s_ret_neg <| And.intro @s_asg_not <| And.intro @s_expr_not <| And.intro @s_ret_not <| And.intro @s_asg_cmp <| And.intro @s_expr_cmp <| And.intro @s_ret_cmp <| And.intro @s_asg_chain <| And.intro @s_expr_chain <| And.intro @s_ret_chain <| And.intro @s_asg_and1 <| And.intro @s_expr_and1 <| And.intro @s_ret_and1 <| And.intro @s_asg_and2 <| And.intro @s_expr_and2 <| And.intro @s_ret_and2 <| And.intro @s_asg_or1 <| And.intro @s_expr_or1 <| And.intro @s_ret_or1 <| And.intro @s_asg_or2 <| And.intro @s_expr_or2 <| And.intro @s_ret_or2 <| And.intro @s_asg_ife <| And.intro @s_expr_ife <| And.intro @s_ret_ife <| And.intro @s_asg_tup <| And.intro @s_expr_tup <| And.intro @s_ret_tup <| And.intro @s_asg_lst <| And.intro @s_expr_lst <| And.intro @s_ret_lst <| And.intro @s_asg_lstM <| And.intro @s_expr_lstM <| And.intro @s_ret_lstM <| And.intro @s_asg_ix <| And.intro @s_expr_ix <| And.intro @s_ret_ix <| And.intro @s_asg_sl <| And.intro @s_expr_sl <| And.intro @s_ret_sl <| And.intro @s_asg_nop <| And.intro @s_expr_nop <| And.intro @s_ret_nop <| And.intro @s_asg_call <| And.intro @s_expr_call <| And.intro @s_ret_call <| And.intro @s_asg_blt <| And.intro @s_expr_blt <| And.intro @s_ret_blt <| And.intro @s_asg_bltM <| And.intro @s_expr_bltM <| And.intro @s_ret_bltM <| And.intro @s_asg_lc <| And.intro @s_expr_lc <| And.intro @s_ret_lc <| And.intro @s_asg_frz <| And.intro @s_expr_frz <| And.intro @s_asg_binM <| And.intro @s_expr_binM <| And.intro @s_ret_binM <| And.intro @s_asg_rev <| And.intro @s_expr_rev <| And.intro @s_ret_rev <| And.intro @s_retV <| And.intro @retV_1 <| And.intro @retV_lv <| And.intro @retV_tup <| And.intro @retV_int <| And.intro @retV_str <| And.intro @retV_bl <| And.intro @retV_non <| And.intro @retV_ref <| And.intro @s_retF <| And.intro @frz_1 <| And.intro @meth_v <| And.intro @set_v <| And.intro @own_1 <| And.intro @own_r <| And.intro @seq_nx <| And.intro @seq_ct <| And.intro @seq_bk <| And.intro @seq_rt <| And.intro @seq_ex <| And.intro @retF_nx <| And.intro @retF_rt <| And.intro @retF_ex <| And.intro @exS_ap <| And.intro @okW_ok <| And.intro @negQ_i <| And.intro @blQ_b <| And.intro @intQ_i <| And.intro @trQ_b <| And.intro @itQ_lv <| And.intro @itQ_vw <| And.intro @itQ_tup <| And.intro @lsQ_lv <| And.intro @lsQ_vw <| And.intro @stQ_nm <| And.intro @stQ_2 <| And.intro @stQ_3 <| And.intro @asg_vw2 <| And.intro @asg_vw0 <| And.intro @asg_int <| And.intro @asg_str <| And.intro @asg_bl <| And.intro @asg_non <| And.intro @asg_tup <| And.intro @asg_lv <| And.intro @asg_ref <| And.intro @ret_vw2 <| And.intro @ret_int <| And.intro @ret_str <| And.intro @ret_bl <| And.intro @ret_non <| And.intro @ret_tup <| And.intro @ret_lv <| And.intro @ret_ref <| And.intro @part_t <| And.intro @part_w <| And.intro @brQ_t @brQ_f
def WQ := And.intro @isNop_var <| And.intro @isNop_glob <| And.intro @isNop_ty <| And.intro @isNop_cint <| And.intro @isNop_cstr <| And.intro @isNop_cbl <| And.intro @isNop_cnon <| And.intro @isNop_bin <| And.intro @isNop_neg <| And.intro @isNop_not <| And.intro @isNop_cmp <| And.intro @isNop_chain <| And.intro @isNop_and1 <| And.intro @isNop_and2 <| And.intro @isNop_or1 <| And.intro @isNop_or2 <| And.intro @isNop_ife <| And.intro @isNop_tup <| And.intro @isNop_lst <| And.intro @isNop_lstM <| And.intro @isNop_ix <| And.intro @isNop_sl <| And.intro @isNop_nop <| And.intro @isNop_call <| And.intro @isNop_blt <| And.intro @isNop_bltM <| And.intro @isNop_meth <| And.intro @isNop_lc <| And.intro @isNop_frz <| And.intro @isNop_binM <| And.intro @isNop_rev <| And.intro @stab_int <| And.intro @stab_str <| And.intro @stab_ref <| And.intro @stab_bl <| And.intro @stab_non <| And.intro @stab_lv <| And.intro @stab_tup <| And.intro @stab_vw <| And.intro (@List.map_cons D D) <| And.intro (@List.map_nil D D) <| And.intro (@List.getElem?_cons_zero (Option D)) <| And.intro (@List.getElem?_cons_succ (Option D)) <| And.intro (@List.set_cons_zero (Option D)) <| And.intro (@List.set_cons_succ (Option D)) <| And.intro @add_int <| And.intro @sub_int <| And.intro @cmp_eq_int <| And.intro @cmp_eq_str <| And.intro @cmp_eq_bl <| And.intro @cmp_ne_int <| And.intro @cmp_ne_str <| And.intro @cmp_lt_int <| And.intro @cmp_le_int <| And.intro @cmp_gt_int <| And.intro @cmp_ge_int <| And.intro @int_int <| And.intro @int_bl <| And.intro @abs_int <| And.intro @len_lv <| And.intro @len_tup <| And.intro @isvw_int <| And.intro @isvw_str <| And.intro @isvw_bl <| And.intro @isvw_non <| And.intro @isvw_tup <| And.intro @isvw_lv <| And.intro @isvw_ref <| And.intro (@List.any_cons D) <| And.intro (@List.any_nil D) <| And.intro @Bool.or_false <| And.intro @Bool.false_or <| And.intro @Bool.or_self <| And.intro @true_and <| And.intro (@List.length_cons D) <| And.intro (@List.length_nil D) <| And.intro @Nat.zero_add <| And.intro (@eq_self Bool) <| And.intro @and_self <| And.intro @and_true <| And.intro @decide_true <| And.intro @decide_false <| And.intro @Bool.not_true @Bool.not_false
/-! ### calls and loops -/
theorem has_base {T : Prg} {f x : Str} {F : Fn} (hf : T.fns.lookup f = some F) (h : T.hasA x f = true) : x = F.base := by
  unfold Prg.hasA at h
  rw [hf] at h
  exact (of_decide_eq_true h).symm
section
variable {T : Prg} {k : Nat} {A : Ob} {σ : Sg} {Q Q1 : QD} {F : QF} {E E1 : QX}
theorem callQ.mono {f : Str} {ds : List D} (h : callQ T k f ds A Q1 E1) (hq : ∀ d A', Q1 d A' → Q d A') (he : ∀ c f A', E1 c f A' → E c f A') : callQ T k f ds A Q E := by
  intro x S ds' h1 kn v
  have z := h x S ds' h1 kn v
  cases hr : callN T k x f ds' S with
  | ok b S' =>
    rw [hr] at z
    obtain ⟨a, A', z1, z2, z3, z4⟩ := z
    exact ⟨a, A', z1, z2, z3, hq _ _ z4⟩
  | ex c fs S' =>
    rw [hr] at z
    obtain ⟨A', z1, z2, z3, z4⟩ := z
    exact ⟨A', z1, z2, z3, he _ _ _ z4⟩
  | stuck => rw [hr] at z; exact z.elim
/-- a call that raises nothing and leaves what is known -/
theorem callQ.use {f : Str} {ds : List D} {P : D → Prop} (h : callQ T k f ds A (fun d A' => A' = A ∧ P d) noX) (hq : ∀ d, P d → Q d A) : callQ T k f ds A Q E :=
  h.mono (fun d A' ⟨e, p⟩ => by subst e; exact hq d p) fun _ _ _ z => z.elim
theorem wFor_of {d : D} {ds : List D} {tg : Tg} {body : Sg → Ob → QF → Prop} (P : List D → Sg → Ob → Prop) (hi : ∀ xs σ A, P xs σ A → items (fs A) d = some ds) (h0 : ∀ σ A, P [] σ A → F (.nx σ) A)
    (hs : ∀ x xs σ A, P (x :: xs) σ A → ∀ K : QF, (∀ σ' A', P xs σ' A' → K (.nx σ') A') → (∀ σ' A', P xs σ' A' → K (.ct σ') A') → (∀ σ' A', F (.nx σ') A' → K (.bk σ') A') → (∀ v A', F (.rt v) A' → K (.rt v) A') → (∀ σ' c f A', F (.ex σ' c f) A' → K (.ex σ' c f) A') → stQ tg x σ fun σ1 => body σ1 A K) :
    ∀ xs σ A, P xs σ A → wFor d ds tg body xs σ A F
  | [], σ, A, p => ⟨hi _ _ _ p, h0 _ _ p⟩
  | x :: xs, σ, A, p => ⟨hi _ _ _ p, hs x xs σ A p _ (fun σ' A' q => wFor_of P hi h0 hs xs σ' A' q) (fun σ' A' q => wFor_of P hi h0 hs xs σ' A' q) (fun _ _ q => q) (fun _ _ q => q) fun _ _ _ _ q => q⟩
theorem wFr_of {tg : Tg} {body : Sg → Ob → QF → Prop} {lo : Int} {m : Nat} (P : Nat → Sg → Ob → Prop) (h0 : ∀ σ A, P m σ A → F (.nx σ) A)
    (hs : ∀ i σ A, i < m → P i σ A → ∀ K : QF, (∀ σ' A', P (i + 1) σ' A' → K (.nx σ') A') → (∀ σ' A', P (i + 1) σ' A' → K (.ct σ') A') → (∀ σ' A', F (.nx σ') A' → K (.bk σ') A') → (∀ v A', F (.rt v) A' → K (.rt v) A') → (∀ σ' c f A', F (.ex σ' c f) A' → K (.ex σ' c f) A') → stQ tg (.int (lo + i)) σ fun σ1 => body σ1 A K) :
    ∀ n i σ A, i + n = m → P i σ A → wFr tg body (rngL lo i n) σ A F
  | 0, i, σ, A, e, p => by
    have : i = m := by omega
    subst this
    exact h0 _ _ p
  | n + 1, i, σ, A, e, p => hs i σ A (by omega) p _ (fun σ' A' q => wFr_of P h0 hs n (i + 1) σ' A' (by omega) q) (fun σ' A' q => wFr_of P h0 hs n (i + 1) σ' A' (by omega) q) (fun _ _ q => q) (fun _ _ q => q) fun _ _ _ _ q => q
/-- a comprehension whose parts leave what is known -/
theorem wLc_pure {d : D} {ds : List D} {tg : Tg} {cond elt : Sg → Ob → QD → Prop} {p : D → Bool} {g : D → D} (hi : items (fs A) d = some ds) :
    ∀ (xs acc : List D), xs.length + acc.length ≤ lim → (∀ x, x ∈ xs → stQ tg x (wipeD σ tg.slots) fun σ1 => (∀ K : QD, K (.bl (p x)) A → cond σ1 A K) ∧ (p x = true → isVw (g x) = false ∧ ∀ K : QD, K (g x) A → elt σ1 A K)) →
      Q (.lv (acc ++ (xs.filter p).map g)) A → wLc d ds tg σ cond elt xs acc A Q
  | [], acc, hl, hx, q => ⟨hi, by simpa using q⟩
  | x :: xs, acc, hl, hx, q => by
    refine ⟨hi, ?_⟩
    have h1 := hx x List.mem_cons_self
    unfold stQ at h1 ⊢
    cases e : setTg tg x (wipeD σ tg.slots) with
    | none => rw [e] at h1; exact h1.elim
    | some σ1 =>
      rw [e] at h1
      obtain ⟨h1, h2⟩ := h1
      refine h1 _ ?_
      have hl' : xs.length + (acc.length + 1) ≤ lim := by simp at hl; omega
      show brQ (p x) _ _
      cases hp : p x with
      | true =>
        obtain ⟨g1, g2⟩ := h2 hp
        refine brQ.mk (fun _ => g2 _ ⟨by omega, g1, ?_⟩) fun z => by cases z
        refine wLc_pure hi xs _ (by rw [List.length_append]; simpa using hl') (fun y hy => hx y (List.mem_cons_of_mem _ hy)) ?_
        rw [List.filter_cons_of_pos hp] at q
        simpa using q
      | false =>
        refine brQ.mk (fun z => by cases z) fun _ => ?_
        refine wLc_pure hi xs acc (by omega) (fun y hy => hx y (List.mem_cons_of_mem _ hy)) ?_
        rw [List.filter_cons_of_neg (by simp [hp])] at q
        exact q
end
end Ev

namespace Ev
open PySem L2
/-! ### lists in any form that is read -/
structure Lq (A : Ob) (d : D) (xs : List D) : Prop where
  it : items (fs A) d = some xs
  ls : listOf (fs A) d = some xs
  ok : ∀ b, itOk d b = true
  st : stab d = d
section
variable {T : Prg} {k : Nat} {A : Ob} {σ : Sg} {Q : QD} {F : QF} {E : QX} {d e : D} {xs ys : List D} {n : Nat}
theorem Lq.lv : Lq A (.lv xs) xs := ⟨rfl, rfl, fun _ => rfl, rfl⟩
theorem Lq.vw : Lq A (.vw 0 xs) xs := ⟨rfl, rfl, fun _ => rfl, rfl⟩
theorem Lq.ref (h : A.lookup n = some (.lst xs)) : Lq A (.ref n) xs := ⟨by simp only [items, fs_of h], by simp only [listOf, fs_of h], fun _ => rfl, rfl⟩
theorem Lq.itQ (h : Lq A d xs) {Q : List D → Prop} : itQ A d Q = Q xs := by unfold Ev.itQ; rw [h.it]
theorem Lq.lsQ (h : Lq A d xs) {Q : List D → Prop} : lsQ A d Q = Q xs := by unfold Ev.lsQ; rw [h.ls]
theorem Lq.len (h : Lq A d xs) : bltD .len [d] (fs A) = .ok (.int xs.length) (fs A) := by
  have h1 := h.it
  have h2 := h.ls
  cases d <;> simp only [listOf, reduceCtorEq] at h2 <;> simp only [bltD, lenD, lengthOf, h1, Option.map_some]
theorem Lq.list (h : Lq A d xs) : bltD .list [d] (fs A) = .ok (.lv xs) (fs A) := by
  have h1 := h.it
  have h2 := h.ls
  cases d <;> simp only [listOf, reduceCtorEq] at h2 <;> simp only [bltD, lstD, isSeq, h1, if_true]
theorem Lq.tuple (h : Lq A d xs) : bltD .tuple [d] (fs A) = .ok (.tup xs) (fs A) := by
  have h1 := h.it
  have h2 := h.ls
  cases d <;> simp only [listOf, reduceCtorEq] at h2 <;> simp only [bltD, tupD, isSeq, h1, if_true]
theorem Lq.add (h : Lq A d xs) (g : Lq A e ys) (hl : xs.length + ys.length ≤ lim) : binD .add d e (fs A) = .ok (.lv (xs ++ ys)) (fs A) := by
  have h1 := h.ls
  have g1 := g.ls
  cases d <;> simp only [listOf, reduceCtorEq] at h1 <;> cases e <;> simp only [listOf, reduceCtorEq] at g1 <;> simp only [binD, listOf, h1, g1, hl, if_true]
theorem add_ls {S : Sto} (h1 : listOf S d = some xs) (g1 : listOf S e = some ys) (hl : xs.length + ys.length ≤ lim) : binD .add d e S = .ok (.lv (xs ++ ys)) S := by
  cases d <;> simp only [listOf, reduceCtorEq] at h1 <;> cases e <;> simp only [listOf, reduceCtorEq] at g1 <;> simp only [binD, listOf, h1, g1, hl, if_true]
  all_goals (cases h1; try cases g1)
  all_goals (simp only [hl, if_true])
theorem Lq.sl (h : Lq A d xs) (lo hi : Option Int) : slD d lo hi (fs A) = .ok (.lv (cutD xs lo hi)) (fs A) := by
  have h1 := h.ls
  cases d <;> simp only [listOf, reduceCtorEq] at h1 <;> simp only [slD, listOf, h1]
theorem Lq.ix (h : Lq A d xs) {i : Int} {y : D} (e : atI xs i = some y) : ixD d (.int i) (fs A) = .ok y (fs A) := by
  have h1 := h.it
  have h2 := h.ls
  cases d <;> simp only [listOf, reduceCtorEq] at h2 <;> simp only [ixD, h1, e, ofOpt_some]
theorem Lq.rev (h : Lq A d xs) : revD d (fs A) = .ok (.lv xs.reverse) (fs A) := by
  unfold revD; rw [h.ls]
theorem wLc_map {α : Type} {f g : α → D} {p : α → Bool} {l : List α} {tg : Tg} {cond elt : Sg → Ob → QD → Prop} (hi : items (fs A) d = some (l.map f)) (hl : l.length ≤ lim)
    (hx : ∀ x, x ∈ l → stQ tg (f x) (wipeD σ tg.slots) fun σ1 => (∀ K : QD, K (.bl (p x)) A → cond σ1 A K) ∧ (p x = true → isVw (g x) = false ∧ ∀ K : QD, K (g x) A → elt σ1 A K)) (q : Q (.lv ((l.filter p).map g)) A) : wLc d (l.map f) tg σ cond elt (l.map f) [] A Q := by
  suffices h : ∀ (r : List α) (acc : List D), r.length + acc.length ≤ lim → (∀ x, x ∈ r → x ∈ l) → Q (.lv (acc ++ (r.filter p).map g)) A → wLc d (l.map f) tg σ cond elt (r.map f) acc A Q from h l [] (by simpa using hl) (fun _ h => h) (by simpa using q)
  clear q
  intro r
  induction r with
  | nil => intro acc _ _ q; exact ⟨hi, by simpa using q⟩
  | cons x r ih =>
    intro acc hz hm q
    refine ⟨hi, ?_⟩
    have h1 := hx x (hm x List.mem_cons_self)
    unfold stQ at h1 ⊢
    cases e : setTg tg (f x) (wipeD σ tg.slots) with
    | none => rw [e] at h1; exact h1.elim
    | some σ1 =>
      rw [e] at h1
      obtain ⟨h1, h2⟩ := h1
      refine h1 _ ?_
      have hz' : r.length + (acc.length + 1) ≤ lim := by simp at hz; omega
      show brQ (p x) _ _
      cases hp : p x with
      | true =>
        obtain ⟨g1, g2⟩ := h2 hp
        refine brQ.mk (fun _ => g2 _ ⟨by omega, g1, ?_⟩) fun z => by cases z
        refine ih _ (by rw [List.length_append]; simpa using hz') (fun y hy => hm y (List.mem_cons_of_mem _ hy)) ?_
        rw [List.filter_cons_of_pos hp] at q
        simpa using q
      | false =>
        refine brQ.mk (fun z => by cases z) fun _ => ?_
        refine ih acc (by omega) (fun y hy => hm y (List.mem_cons_of_mem _ hy)) ?_
        rw [List.filter_cons_of_neg (by simp [hp])] at q
        exact q
/-- a statement by what it leaves: K stands for what follows -/
theorem rok_of {x : Str} {ps : List (Str × Bool)} (h : T.exc.lookup x = some (some ps)) : (ctxOf T (k + 2)).rok x = true := by
  unfold Ctx.rok
  rw [ctx_exc, h]
  simp [ctx_lev]
theorem tok_of {x : Str} {o : Option (List (Str × Bool))} (h : T.exc.lookup x = some o) : (ctxOf T (k + 2)).tok x = true := by
  unfold Ctx.tok
  rw [ctx_exc, h]
  simp [ctx_lev]
theorem raz_of {x : Str} {ps : List (Str × Bool)} {vs : List D} (h : T.exc.lookup x = some (some ps)) (h1 : argsX ps vs = true) (h2 : vs.length ≤ 1000) (h3 : vs.any isVw = false) (q : F (.ex σ x ((ps.map (·.1)).zip vs).reverse) A) : razQ T x vs σ A F := by
  unfold razQ; rw [h]; exact ⟨h1, h2, h3, q⟩
theorem Lq.sum {A : Ob} {ns : List Int} (h : Lq A d (ns.map D.int)) : bltD .sum [d] (fs A) = .ok (.int ns.sum) (fs A) := by
  have : intsOf (ns.map D.int) = some ns := by
    clear h
    induction ns with
    | nil => rfl
    | cons a r ih => simp [intsOf, ih]
  simp only [bltD, sumD, h.ls, Option.bind_some, this]
theorem Lq.any {A : Ob} {bs : List Bool} (h : Lq A d (bs.map D.bl)) : bltD .any [d] (fs A) = .ok (.bl (bs.any id)) (fs A) := by
  simp only [bltD, anyD, h.ls, Option.bind_some, bools_of]
theorem Lq.all {A : Ob} {bs : List Bool} (h : Lq A d (bs.map D.bl)) : bltD .all [d] (fs A) = .ok (.bl (bs.all id)) (fs A) := by
  simp only [bltD, allD, h.ls, Option.bind_some, bools_of]
theorem Lq.nil (h : Lq A d (pl l)) : cmpD .eq d (.lv []) (fs A) = .ok (.bl l.isEmpty) (fs A) := by
  refine eq_nil ?_ ?_
  · have h1 := h.ls
    cases d <;> simp only [listOf, reduceCtorEq, Option.some.injEq] at h1
    · subst h1; exact top_lv l _
    · rename_i n
      cases e : (fs A)[n]? with
      | none => rw [e] at h1; cases h1
      | some o =>
        cases o with
        | dead => rw [e] at h1; cases h1
        | ins _ _ _ => rw [e] at h1; cases h1
        | lst ys => rw [e] at h1; cases h1; exact top_ref e
    · subst h1; simp [topPy, toPys_pl]
  · have h1 := h.ls
    cases d <;> simp only [listOf, reduceCtorEq] at h1 <;> rfl
theorem cmp_not {o1 o2 : COp} {b : Bool} {S : Sto} (ho : ∀ x y, cmpO o2 x y S = (cmpO o1 x y S).map (!·)) (h : cmpD o1 d e S = .ok (.bl b) S) : cmpD o2 d e S = .ok (.bl (!b)) S := by
  unfold cmpD at h ⊢
  rw [ho]
  cases q : cmpO o1 d e S with
  | none => rw [q] at h; cases h
  | some c => rw [q] at h; cases h; rfl
theorem Lq.nnil (h : Lq A d (pl l)) : cmpD .ne d (.lv []) (fs A) = .ok (.bl (!l.isEmpty)) (fs A) := cmp_not (o1 := .eq) (fun _ _ => rfl) h.nil
end
section
variable {T : Prg} {k : Nat} {A : Ob} {σ : Sg} {F : QF}
theorem s_one {s : Ev.S} : wSs T k (.cons s .nil) σ A F = wS T k s σ A F := by
  rw [s_cons]
  congr 1
  funext fl A
  cases fl with
  | nx σ => show wSs T k .nil σ A F = _; rw [s_nil]
  | _ => rfl
/-- a statement that goes on, cut off from what follows -/
theorem s_cut {s : Ev.S} {ss : Ss} (P : Sg → Ob → Prop) (h : ∀ K : QF, (∀ σ' A', P σ' A' → K (.nx σ') A') → wS T k s σ A K) (h2 : ∀ σ' A', P σ' A' → wSs T k ss σ' A' F) : wSs T k (.cons s ss) σ A F := by
  rw [s_cons]
  exact h _ h2
/-- the same, where the known objects stay -/
theorem s_cutA {s : Ev.S} {ss : Ss} (P : Sg → Prop) (h : ∀ K : QF, (∀ σ', P σ' → K (.nx σ') A) → wS T k s σ A K) (h2 : ∀ σ', P σ' → wSs T k ss σ' A F) : wSs T k (.cons s ss) σ A F :=
  s_cut (fun σ' A' => A' = A ∧ P σ') (fun K hk => h K fun σ' hp => hk σ' A ⟨rfl, hp⟩) fun σ' A' ⟨e, hp⟩ => by subst e; exact h2 σ' hp
end
/-- the law's def: behind its first statement, which makes the box, the second layer -/
theorem law_top {T : Prg} {k m : Nat} {F : Fn} {ss : Ss} {ns : List Int} (hf : T.fns.lookup ("law" : Str) = some F) (hbs : F.base = "law") (hps : F.ps.length = 1) (hb : F.body = .cons (.asg (.nm 1) (.call "_law_box" "_law_box" (.cons (.var 0) .nil))) ss)
    (hn : F.ns.length = m + 2) (hh : T.has "_law_box" "_law_box" = true) (box : callN T k "_law_box" "_law_box" [.fl (ns.map .int)] [] = .ok (.ref 0) [boxO ns 0 0 0 0])
    (w : wSs T k ss (none :: some (.ref 0) :: List.replicate m none) [] (fun fl _ => fl = .rt (.bl true))) (hst : F.star = false := by rfl) : ∃ S', callN T (k + 1) "law" "law" [.fl (ns.map .int)] [] = .ok (.bl true) S' := by
  have kn : Kn [] [boxO ns 0 0 0 0] := ⟨⟨_, rfl, ns, 0, 0, 0, 0, rfl, Int.le_refl 0⟩, List.nodup_nil, by simp, fun n o h => by simp at h⟩
  have fr : Fr2 1 [] [boxO ns 0 0 0 0] (none :: some (.ref 0) :: List.replicate m none) (some (.fl (ns.map .int)) :: some (.ref 0) :: List.replicate m none) := by
    have nr : ∀ (j : Nat) (d : D), (none :: some (D.ref 0) :: List.replicate m (none : Option D))[j]? = some (some d) → j = 1 ∧ d = .ref 0 := fun j d h => by
      rcases j with _ | _ | j
      · simp at h
      · simp at h; exact ⟨rfl, h.symm⟩
      · simp only [List.getElem?_cons_succ, List.getElem?_replicate] at h
        split at h <;> cases h
    refine ⟨by simp, by simp, fun j d h => ?_, fun i j n xs ys _ h1 _ _ => by cases (nr i _ h1).2⟩
    obtain ⟨rfl, rfl⟩ := nr j d h
    exact ⟨.ref 0, rfl, .same rfl, fun t xs e => by cases e⟩
  have z := snd_wSs ss w kn fr (Nat.le_refl _) (Nat.le_refl _) (.inr rfl)
  rw [callN_eq hf hbs.symm (by rw [hps]; rfl) hst, hb, eSs_cons]
  have e1 : evS (ctxOf T k) (.asg (.nm 1) (.call "_law_box" "_law_box" (.cons (.var 0) .nil))) ([D.fl (ns.map .int)].map some ++ List.replicate (F.ns.length - [D.fl (ns.map D.int)].length) none) [] = .ok (.nx (some (.fl (ns.map .int)) :: some (.ref 0) :: List.replicate m none)) [boxO ns 0 0 0 0] := by
    have : F.ns.length - [D.fl (ns.map D.int)].length = m + 1 := by rw [hn]; simp
    rw [this, List.replicate_succ, eS_asg, eE_call]
    have ea : evEs (ctxOf T k) (.cons (.var 0) .nil) ([D.fl (ns.map .int)].map some ++ none :: List.replicate m none) [] = .ok [.fl (ns.map .int)] [] := by
      rw [eEs_cons, eE_var]
      show (R.ok (D.fl (ns.map .int)) ([] : Sto)).bind _ = _
      rw [R.bind_ok, consK_ap, eEs_nil]
      rfl
    have ok : (ctxOf T k).ok "_law_box" "_law_box" = true := hh
    rw [ok, gd_t, ea, R.bind_ok, ctx_call, box]
    rfl
  rw [e1, R.bindC_ok, seqK_nx]
  cases hr : evSs (ctxOf T k) ss (some (.fl (ns.map .int)) :: some (.ref 0) :: List.replicate m none) [boxO ns 0 0 0 0] with
  | stuck => rw [hr] at z; exact z.elim
  | ex c fs S1 => rw [hr] at z; exact z.elim
  | ok fl' S1 =>
    rw [hr] at z
    obtain ⟨fl, A1, _, _, r, q⟩ := z
    subst q
    cases fl' with
    | rt d' =>
      have r' : Rt 1 A1 S1 (.bl true) d' := r
      cases r' with
      | same _ => exact ⟨S1, rfl⟩
    | nx => exact r.elim
    | bk => exact r.elim
    | ct => exact r.elim
    | ex => exact r.elim
/-! ### what is known stays known -/
def Kp (A A' : Ob) : Prop := ∀ n o, A.lookup n = some o → A'.lookup n = some o
theorem Kp.rfl' {A : Ob} : Kp A A := fun _ _ h => h
theorem Kp.trans {A B C : Ob} (a : Kp A B) (b : Kp B C) : Kp A C := fun n o h => b n o (a n o h)
theorem Kp.cons {A : Ob} {n : Nat} {o : O} (hn : n ∉ A.map (·.1)) : Kp A ((n, o) :: A) := fun m p h => by
  have hm : m ≠ n := fun e => hn (by rw [← e]; exact lookup_mem h)
  rw [List.lookup_cons, show (m == n) = false from by simp [hm]]
  exact h
theorem Lq.kp {A A' : Ob} {d : D} {xs : List D} (h : Lq A d xs) (k : Kp A A') : Lq A' d xs := by
  have h2 := h.ls
  have h1 := h.it
  cases d <;> simp only [Ev.listOf, reduceCtorEq] at h2
  · cases h2; exact .lv
  · rename_i m
    cases em : (fs A)[m]? with
    | none => rw [em] at h2; cases h2
    | some oo =>
      rw [em] at h2
      cases oo with
      | lst ys =>
        cases h2
        exact .ref (k _ _ (fs_lst em))
      | ins _ _ _ => cases h2
      | dead => cases h2
  · cases h2
    exact ⟨rfl, rfl, h.ok, h.st⟩
end Ev

namespace Pr
open PySem L2 Ev
/-! ### the text by places -/
def top (i : Nat) : Stmt := PySem.Challenge.pw_errortells_k05_columns_and_schemas.main.body.getD i (.Pass ⟨0, 0, 0, 0⟩)
abbrev s_is_name : Stmt := top 28
def d_is_name : He.DefD := ⟨("is_name", none), "is_name", "is_name", defArgs s_is_name, defBody s_is_name, defScope s_is_name, [], []⟩
abbrev s_check_name : Stmt := top 29
def d_check_name : He.DefD := ⟨("_check_name", none), "_check_name", "_check_name", defArgs s_check_name, defBody s_check_name, defScope s_check_name, [], []⟩
abbrev s_Column_init : Stmt := (clsB (top 30)).getD 0 (.Pass ⟨0, 0, 0, 0⟩)
def d_Column_init : He.DefD := ⟨("Column", some "__init__"), "__init__", "Column.__init__", defArgs s_Column_init, defBody s_Column_init, defScope s_Column_init, [], []⟩
abbrev s_Column_eq : Stmt := (clsB (top 30)).getD 1 (.Pass ⟨0, 0, 0, 0⟩)
def d_Column_eq : He.DefD := ⟨("Column", some "__eq__"), "__eq__", "Column.__eq__", defArgs s_Column_eq, defBody s_Column_eq, defScope s_Column_eq, [], []⟩
abbrev s_Schema_init : Stmt := (clsB (top 31)).getD 1 (.Pass ⟨0, 0, 0, 0⟩)
def d_Schema_init : He.DefD := ⟨("Schema", some "__init__"), "__init__", "Schema.__init__", defArgs s_Schema_init, defBody s_Schema_init, defScope s_Schema_init, [], []⟩
abbrev s_Schema_eq : Stmt := (clsB (top 31)).getD 2 (.Pass ⟨0, 0, 0, 0⟩)
def d_Schema_eq : He.DefD := ⟨("Schema", some "__eq__"), "__eq__", "Schema.__eq__", defArgs s_Schema_eq, defBody s_Schema_eq, defScope s_Schema_eq, [], []⟩
abbrev s_Schema_names : Stmt := (clsB (top 31)).getD 5 (.Pass ⟨0, 0, 0, 0⟩)
def d_Schema_names : He.DefD := ⟨("Schema", some "names"), "names", "Schema.names", defArgs s_Schema_names, defBody s_Schema_names, defScope s_Schema_names, [], []⟩
abbrev s_Schema_place : Stmt := (clsB (top 31)).getD 6 (.Pass ⟨0, 0, 0, 0⟩)
def d_Schema_place : He.DefD := ⟨("Schema", some "place"), "place", "Schema.place", defArgs s_Schema_place, defBody s_Schema_place, defScope s_Schema_place, [], []⟩
abbrev s_law_box : Stmt := top 33
def d_law_box : He.DefD := ⟨("_law_box", none), "_law_box", "_law_box", defArgs s_law_box, defBody s_law_box, defScope s_law_box, [], []⟩
abbrev s_law_draw : Stmt := top 34
def d_law_draw : He.DefD := ⟨("_law_draw", none), "_law_draw", "_law_draw", defArgs s_law_draw, defBody s_law_draw, defScope s_law_draw, [], []⟩
abbrev s_law_same : Stmt := top 35
def d_law_same : He.DefD := ⟨("_law_same", none), "_law_same", "_law_same", defArgs s_law_same, defBody s_law_same, defScope s_law_same, [], []⟩
abbrev s_law_name : Stmt := top 36
def d_law_name : He.DefD := ⟨("_law_name", none), "_law_name", "_law_name", defArgs s_law_name, defBody s_law_name, defScope s_law_name, [], []⟩
abbrev s_law_names : Stmt := top 37
def d_law_names : He.DefD := ⟨("_law_names", none), "_law_names", "_law_names", defArgs s_law_names, defBody s_law_names, defScope s_law_names, [], []⟩
abbrev s_law_columns : Stmt := top 38
def d_law_columns : He.DefD := ⟨("_law_columns", none), "_law_columns", "_law_columns", defArgs s_law_columns, defBody s_law_columns, defScope s_law_columns, [], []⟩
abbrev s_law_schema : Stmt := top 39
def d_law_schema : He.DefD := ⟨("_law_schema", none), "_law_schema", "_law_schema", defArgs s_law_schema, defBody s_law_schema, defScope s_law_schema, [], []⟩
abbrev s_law_column : Stmt := top 41
def d_law_column : He.DefD := ⟨("_law_column", none), "_law_column", "_law_column", defArgs s_law_column, defBody s_law_column, defScope s_law_column, [], []⟩
abbrev s_law_column_due : Stmt := top 42
def d_law_column_due : He.DefD := ⟨("_law_column_due", none), "_law_column_due", "_law_column_due", defArgs s_law_column_due, defBody s_law_column_due, defScope s_law_column_due, [], []⟩
abbrev s_law_build : Stmt := top 43
def d_law_build : He.DefD := ⟨("_law_build", none), "_law_build", "_law_build", defArgs s_law_build, defBody s_law_build, defScope s_law_build, [], []⟩
abbrev s_law_made_of : Stmt := top 44
def d_law_made_of : He.DefD := ⟨("_law_made_of", none), "_law_made_of", "_law_made_of", defArgs s_law_made_of, defBody s_law_made_of, defScope s_law_made_of, [], []⟩
abbrev s_law_made_due : Stmt := top 45
def d_law_made_due : He.DefD := ⟨("_law_made_due", none), "_law_made_due", "_law_made_due", defArgs s_law_made_due, defBody s_law_made_due, defScope s_law_made_due, [], []⟩
abbrev s_law_place : Stmt := top 46
def d_law_place : He.DefD := ⟨("_law_place", none), "_law_place", "_law_place", defArgs s_law_place, defBody s_law_place, defScope s_law_place, [], []⟩
abbrev s_law_columns_refused : Stmt := top 47
def d_law_columns_refused : He.DefD := ⟨("_law_columns_refused", none), "_law_columns_refused", "_law_columns_refused", defArgs s_law_columns_refused, defBody s_law_columns_refused, defScope s_law_columns_refused, [], []⟩
abbrev s_law_changed : Stmt := top 48
def d_law_changed : He.DefD := ⟨("_law_changed", none), "_law_changed", "_law_changed", defArgs s_law_changed, defBody s_law_changed, defScope s_law_changed, [], []⟩
abbrev s_law_kept : Stmt := top 49
def d_law_kept : He.DefD := ⟨("_law_kept", none), "_law_kept", "_law_kept", defArgs s_law_kept, defBody s_law_kept, defScope s_law_kept, [], []⟩
abbrev s_law_equal : Stmt := top 50
def d_law_equal : He.DefD := ⟨("_law_equal", none), "_law_equal", "_law_equal", defArgs s_law_equal, defBody s_law_equal, defScope s_law_equal, [], []⟩
abbrev s_law : Stmt := top 51
def d_law : He.DefD := ⟨("law", none), "law", "law", defArgs s_law, defBody s_law, defScope s_law, [], []⟩
def b_is_name : Ss :=
  (.cons (.ifs (.or2 (.not (.chain .le .le (.cint 1) (.blt .len (.cons (.var 0) .nil)) (.cint 12))) (.or1 (.cmp .in_ (.var 0) (.glob "RESERVED"))))
    (.cons (.ret (.cbl false))
    .nil)
    .nil)
  (.cons (.ret (.and2 (.cmp .in_ (.ix (.var 0) (.cint 0)) (.glob "LETTERS")) (.and1 (.blt .all (.cons (.lc (.cmp .in_ (.var 1) (.glob "REST")) (.nm 1) (.seq (.var 0)) (.cbl true)) .nil)))))
  .nil))
def f_is_name : Fn := ⟨"is_name", ["text", "sign"], ["text"], b_is_name, false, none⟩
def b_check_name : Ss :=
  (.cons (.ifs (.not (.call "is_name" "is_name" (.cons (.var 0) .nil)))
    (.cons (.raise_ "BadName" (.cons (.var 0) .nil))
    .nil)
    .nil)
  .nil)
def f_check_name : Fn := ⟨"_check_name", ["text"], ["text"], b_check_name, false, none⟩
def b_Column_init : Ss :=
  (.cons (.expr (.call "_check_name" "_check_name" (.cons (.var 1) .nil)))
  (.cons (.ifs (.cmp .gt (.var 2) (.var 3))
    (.cons (.raise_ "BadSpan" (.cons (.var 2) (.cons (.var 3) .nil)))
    .nil)
    .nil)
  (.cons (.setf (.var 0) "name" (.var 1))
  (.cons (.setf (.var 0) "low" (.var 2))
  (.cons (.setf (.var 0) "high" (.var 3))
  .nil)))))
def f_Column_init : Fn := ⟨"Column.__init__", ["self", "name", "low", "high"], ["self", "name", "low", "high"], b_Column_init, false, some ("Column", "__init__")⟩
def b_Column_eq : Ss :=
  (.cons (.ret (.and2 (.isc "Column" (.var 1)) (.and2 (.cmp .eq (.fld (.var 0) "name") (.fld (.var 1) "name")) (.and2 (.cmp .eq (.fld (.var 0) "low") (.fld (.var 1) "low")) (.and1 (.cmp .eq (.fld (.var 0) "high") (.fld (.var 1) "high")))))))
  .nil)
def f_Column_eq : Fn := ⟨"Column.__eq__", ["self", "other"], ["self", "other"], b_Column_eq, false, some ("Column", "__eq__")⟩
def b_Schema_init : Ss :=
  (.cons (.ifs (.not (.chain .le .le (.cint 1) (.blt .len (.cons (.var 1) .nil)) (.kc "Schema" "WIDEST")))
    (.cons (.raise_ "BadCount" (.cons (.blt .len (.cons (.var 1) .nil)) .nil))
    .nil)
    .nil)
  (.cons (.for_ (.nm 2) (.rng1 (.blt .len (.cons (.var 1) .nil)))
    (.cons (.ifs (.cmp .in_ (.fld (.ix (.var 1) (.var 2)) "name") (.lc (.fld (.var 3) "name") (.nm 3) (.seq (.sl (.var 1) .nop (.var 2))) (.cbl true)))
      (.cons (.raise_ "DuplicateName" (.cons (.fld (.ix (.var 1) (.var 2)) "name") .nil))
      .nil)
      .nil)
    .nil))
  (.cons (.setf (.var 0) "columns" (.blt .tuple (.cons (.var 1) .nil)))
  .nil)))
def f_Schema_init : Fn := ⟨"Schema.__init__", ["self", "columns", "at", "column"], ["self", "columns"], b_Schema_init, true, some ("Schema", "__init__")⟩
def b_Schema_eq : Ss :=
  (.cons (.ret (.and2 (.isc "Schema" (.var 1)) (.and1 (.oe (.fld (.var 0) "columns") (.fld (.var 1) "columns")))))
  .nil)
def f_Schema_eq : Fn := ⟨"Schema.__eq__", ["self", "other"], ["self", "other"], b_Schema_eq, false, some ("Schema", "__eq__")⟩
def b_Schema_names : Ss :=
  (.cons (.ret (.thw (.lc (.fld (.var 1) "name") (.nm 1) (.seq (.fld (.var 0) "columns")) (.cbl true))))
  .nil)
def f_Schema_names : Fn := ⟨"Schema.names", ["self", "column"], ["self"], b_Schema_names, false, some ("Schema", "names")⟩
def b_Schema_place : Ss :=
  (.cons (.for_ (.nm 2) (.rng1 (.blt .len (.cons (.fld (.var 0) "columns") .nil)))
    (.cons (.ifs (.cmp .eq (.fld (.ix (.fld (.var 0) "columns") (.var 2)) "name") (.var 1))
      (.cons (.ret (.var 2))
      .nil)
      .nil)
    .nil))
  (.cons (.raise_ "UnknownName" (.cons (.var 1) .nil))
  .nil))
def f_Schema_place : Fn := ⟨"Schema.place", ["self", "name", "at"], ["self", "name"], b_Schema_place, false, some ("Schema", "place")⟩
def b_law_box : Ss :=
  (.cons (.ret (.lstM (.cons (.blt .list (.cons (.var 0) .nil)) (.cons (.cint 0) (.cons (.cint 0) (.cons (.cint 0) (.cons (.cint 0) .nil)))))))
  .nil)
def f_law_box : Fn := ⟨"_law_box", ["_law_script"], ["_law_script"], b_law_box, false, none⟩
def b_law_draw : Ss :=
  (.cons (.ifs (.cmp .eq (.ix (.var 0) (.cint 3)) (.cint 0))
    (.cons (.ifs (.cmp .ge (.ix (.var 0) (.cint 1)) (.blt .len (.cons (.ix (.var 0) (.cint 0)) .nil)))
      (.cons (.ret (.cint 0))
      .nil)
      .nil)
    (.cons (.seti (.var 0) (.cint 2) (.blt .abs (.cons (.blt .int (.cons (.ix (.ix (.var 0) (.cint 0)) (.ix (.var 0) (.cint 1))) .nil)) .nil)))
    (.cons (.seti (.var 0) (.cint 1) (.bin .add (.ix (.var 0) (.cint 1)) (.cint 1)))
    (.cons (.seti (.var 0) (.cint 4) (.blt .int (.cons (.cmp .ge (.ix (.var 0) (.cint 2)) (.bin .pow (.cint 10) (.cint 18))) .nil)))
    (.cons (.seti (.var 0) (.cint 3) (.bin .add (.cint 12) (.bin .mul (.cint 48) (.ix (.var 0) (.cint 4)))))
    .nil)))))
    .nil)
  (.cons (.seti (.var 0) (.cint 3) (.bin .sub (.ix (.var 0) (.cint 3)) (.cint 1)))
  (.cons (.ifs (.cmp .eq (.ix (.var 0) (.cint 4)) (.cint 1))
    (.cons (.asg (.nm 3) (.bin .mod (.blt .int (.cons (.ix (.var 0) (.cint 2)) .nil)) (.var 1)))
    (.cons (.seti (.var 0) (.cint 2) (.bin .fdiv (.blt .int (.cons (.ix (.var 0) (.cint 2)) .nil)) (.var 1)))
    (.cons (.ifs (.cmp .eq (.ix (.var 0) (.cint 2)) (.cint 0))
      (.cons (.seti (.var 0) (.cint 3) (.cint 0))
      .nil)
      .nil)
    (.cons (.ret (.var 3))
    .nil))))
    .nil)
  (.cons (.asg (.nm 2) (.bin .mod (.blt .int (.cons (.bin .add (.bin .add (.bin .mul (.blt .int (.cons (.ix (.var 0) (.cint 2)) .nil)) (.cint 48271)) (.bin .mul (.ix (.var 0) (.cint 3)) (.cint 69621))) (.cint 13)) .nil)) (.cint 2147483647)))
  (.cons (.asg (.nm 2) (.bin .mod (.blt .int (.cons (.bin .add (.bin .add (.bin .mul (.var 2) (.cint 16807)) (.bin .mul (.ix (.var 0) (.cint 3)) (.cint 40692))) (.cint 7)) .nil)) (.cint 2147483629)))
  (.cons (.ret (.bin .mod (.blt .int (.cons (.var 2) .nil)) (.var 1)))
  .nil))))))
def f_law_draw : Fn := ⟨"_law_draw", ["_law_box_here", "_law_size", "_law_mixed", "_law_drawn"], ["_law_box_here", "_law_size"], b_law_draw, false, none⟩
def b_law_same : Ss :=
  (.cons (.ifs (.cmp .is_ (.var 1) .cnon)
    (.cons (.ret (.cmp .is_ (.var 0) .cnon))
    .nil)
    .nil)
  (.cons (.ifs (.blt .isi (.cons (.var 1) (.cons (.ty "bool") .nil)))
    (.cons (.ret (.and2 (.blt .isi (.cons (.var 0) (.cons (.ty "bool") .nil))) (.and1 (.cmp .eq (.var 0) (.var 1)))))
    .nil)
    .nil)
  (.cons (.ifs (.blt .isi (.cons (.var 1) (.cons (.ty "int") .nil)))
    (.cons (.ret (.and2 (.blt .isi (.cons (.var 0) (.cons (.ty "int") .nil))) (.and2 (.not (.blt .isi (.cons (.var 0) (.cons (.ty "bool") .nil)))) (.and1 (.cmp .eq (.var 0) (.var 1))))))
    .nil)
    .nil)
  (.cons (.ifs (.blt .isi (.cons (.var 1) (.cons (.ty "str") .nil)))
    (.cons (.ret (.and2 (.blt .isi (.cons (.var 0) (.cons (.ty "str") .nil))) (.and1 (.cmp .eq (.var 0) (.var 1)))))
    .nil)
    .nil)
  (.cons (.ifs (.and2 (.blt .isi (.cons (.var 1) (.cons (.ty "tuple") .nil))) (.and1 (.not (.blt .isi (.cons (.var 0) (.cons (.ty "tuple") .nil))))))
    (.cons (.ret (.cbl false))
    .nil)
    .nil)
  (.cons (.ifs (.or2 (.and2 (.blt .isi (.cons (.var 1) (.cons (.ty "list") .nil))) (.and1 (.not (.blt .isi (.cons (.var 0) (.cons (.ty "list") .nil)))))) (.or1 (.cmp .ne (.blt .len (.cons (.var 0) .nil)) (.blt .len (.cons (.var 1) .nil)))))
    (.cons (.ret (.cbl false))
    .nil)
    .nil)
  (.cons (.for_ (.nm 2) (.rng1 (.blt .len (.cons (.var 1) .nil)))
    (.cons (.ifs (.not (.call "_law_same" "_law_same" (.cons (.ix (.var 0) (.var 2)) (.cons (.ix (.var 1) (.var 2)) .nil))))
      (.cons (.ret (.cbl false))
      .nil)
      .nil)
    .nil))
  (.cons (.ret (.cbl true))
  .nil))))))))
def f_law_same : Fn := ⟨"_law_same", ["_law_one", "_law_two", "_law_k"], ["_law_one", "_law_two"], b_law_same, false, none⟩
def b_law_name : Ss :=
  (.cons (.asg (.nm 2) (.cstr "abcdefghijklmnopqrstuvwxyz0123456789_"))
  (.cons (.asg (.nm 3) (.ix (.lst (.cons (.cint 1) (.cons (.cint 1) (.cons (.cint 2) (.cons (.cint 2) (.cons (.cint 3) (.cons (.cint 3) (.cons (.cint 4) (.cons (.cint 5) (.cons (.cint 6) (.cons (.cint 8) (.cons (.cint 11) (.cons (.cint 12) .nil))))))))))))) (.call "_law_draw" "_law_draw" (.cons (.var 0) (.cons (.cint 12) .nil)))))
  (.cons (.asg (.nm 4) (.call "_law_draw" "_law_draw" (.cons (.var 0) (.cons (.bin .mul (.cint 26) (.bin .pow (.cint 37) (.cint 11))) .nil))))
  (.cons (.asg (.nm 5) (.ix (.var 2) (.bin .mod (.blt .int (.cons (.var 4) .nil)) (.cint 26))))
  (.cons (.asg (.nm 4) (.bin .fdiv (.var 4) (.cint 26)))
  (.cons (.for_ (.nm 6) (.rng1 (.bin .sub (.var 3) (.cint 1)))
    (.cons (.asg (.nm 5) (.bin .add (.var 5) (.ix (.var 2) (.bin .mod (.blt .int (.cons (.bin .add (.var 4) (.var 6)) .nil)) (.cint 37)))))
    (.cons (.asg (.nm 4) (.bin .fdiv (.var 4) (.cint 37)))
    .nil)))
  (.cons (.ifs (.cmp .nin (.var 5) (.bin .add (.var 1) (.lst (.cons (.cstr "all") (.cons (.cstr "and") (.cons (.cstr "in") (.cons (.cstr "is") (.cons (.cstr "none") (.cons (.cstr "not") (.cons (.cstr "or") (.cons (.cstr "rule") (.cons (.cstr "zero") (.cons (.cstr "range") (.cons (.cstr "fuse") .nil))))))))))))))
    (.cons (.ret (.var 5))
    .nil)
    .nil)
  (.cons (.asg (.nm 7) (.lc (.bin .add (.bin .add (.sl (.var 5) .nop (.cint 9)) (.cstr "z")) (.blt .str (.cons (.var 6) .nil))) (.nm 6) (.rng1 (.bin .add (.blt .len (.cons (.var 1) .nil)) (.cint 1))) (.cbl true)))
  (.cons (.ret (.ix (.lc (.var 8) (.nm 8) (.seq (.var 7)) (.cmp .nin (.var 8) (.var 1))) (.cint 0)))
  .nil)))))))))
def f_law_name : Fn := ⟨"_law_name", ["_law_box_here", "_law_taken", "_law_signs", "_law_size", "_law_rest", "_law_name_here", "_law_k", "_law_others", "_law_other"], ["_law_box_here", "_law_taken"], b_law_name, false, none⟩
def b_law_names : Ss :=
  (.cons (.asg (.nm 2) (.lstM .nil))
  (.cons (.for_ (.nm 3) (.rng1 (.var 1))
    (.cons (.expr (.meth .append (.var 2) (.cons (.call "_law_name" "_law_name" (.cons (.var 0) (.cons (.var 2) .nil))) .nil)))
    .nil))
  (.cons (.ret (.frz (.var 2)))
  .nil)))
def f_law_names : Fn := ⟨"_law_names", ["_law_box_here", "_law_many", "_law_names_here", "_law_k"], ["_law_box_here", "_law_many"], b_law_names, false, none⟩
def b_law_columns : Ss :=
  (.cons (.asg (.nm 2) (.lstM .nil))
  (.cons (.for_ (.nm 3) (.seq (.call "_law_names" "_law_names" (.cons (.var 0) (.cons (.bin .add (.cint 1) (.call "_law_draw" "_law_draw" (.cons (.var 0) (.cons (.var 1) .nil)))) .nil))))
    (.cons (.asg (.nm 4) (.call "_law_draw" "_law_draw" (.cons (.var 0) (.cons (.cint 7) .nil))))
    (.cons (.asg (.nm 5) (.bin .sub (.call "_law_draw" "_law_draw" (.cons (.var 0) (.cons (.cint 9) .nil))) (.cint 5)))
    (.cons (.asg (.nm 6) (.bin .add (.bin .add (.var 5) (.cint 1)) (.call "_law_draw" "_law_draw" (.cons (.var 0) (.cons (.cint 6) .nil)))))
    (.cons (.ifs (.cmp .eq (.var 4) (.cint 4))
      (.cons (.asg (.nm 5) (.bin .sub (.bin .mul (.var 5) (.bin .pow (.cint 10) (.cint 6))) (.call "_law_draw" "_law_draw" (.cons (.var 0) (.cons (.bin .pow (.cint 10) (.cint 6)) .nil)))))
      (.cons (.asg (.nm 6) (.bin .add (.bin .add (.var 5) (.bin .pow (.cint 10) (.cint 7))) (.call "_law_draw" "_law_draw" (.cons (.var 0) (.cons (.bin .pow (.cint 10) (.cint 6)) .nil)))))
      .nil))
      .nil)
    (.cons (.ifs (.cmp .eq (.var 4) (.cint 5))
      (.cons (.asg (.nm 5) (.bin .sub (.cint 0) (.call "_law_draw" "_law_draw" (.cons (.var 0) (.cons (.bin .pow (.cint 10) (.cint 30)) .nil)))))
      (.cons (.asg (.nm 6) (.call "_law_draw" "_law_draw" (.cons (.var 0) (.cons (.bin .pow (.cint 10) (.cint 30)) .nil))))
      .nil))
      .nil)
    (.cons (.ifs (.cmp .eq (.var 4) (.cint 6))
      (.cons (.asg (.nm 6) (.var 5))
      .nil)
      .nil)
    (.cons (.expr (.meth .append (.var 2) (.cons (.tup (.cons (.var 3) (.cons (.var 5) (.cons (.var 6) .nil)))) .nil)))
    .nil))))))))
  (.cons (.ret (.frz (.var 2)))
  .nil)))
def f_law_columns : Fn := ⟨"_law_columns", ["_law_box_here", "_law_most", "_law_columns_here", "_law_name_here", "_law_wide", "_law_low", "_law_high"], ["_law_box_here", "_law_most"], b_law_columns, false, none⟩
def b_law_schema : Ss :=
  (.cons (.asg (.nm 1) (.lc (.call "Column" "Column" (.cons (.ix (.var 2) (.cint 0)) (.cons (.ix (.var 2) (.cint 1)) (.cons (.ix (.var 2) (.cint 2)) .nil)))) (.nm 2) (.seq (.var 0)) (.cbl true)))
  (.cons (.ifs (.cmp .eq (.blt .len (.cons (.var 1) .nil)) (.cint 1))
    (.cons (.ret (.call "Schema" "Schema" (.cons (.ix (.var 1) (.cint 0)) .nil)))
    .nil)
    .nil)
  (.cons (.ifs (.cmp .eq (.blt .len (.cons (.var 1) .nil)) (.cint 2))
    (.cons (.ret (.call "Schema" "Schema" (.cons (.ix (.var 1) (.cint 0)) (.cons (.ix (.var 1) (.cint 1)) .nil))))
    .nil)
    .nil)
  (.cons (.ret (.call "Schema" "Schema" (.cons (.ix (.var 1) (.cint 0)) (.cons (.ix (.var 1) (.cint 1)) (.cons (.ix (.var 1) (.cint 2)) .nil)))))
  .nil))))
def f_law_schema : Fn := ⟨"_law_schema", ["_law_columns_here", "_law_made", "_law_one"], ["_law_columns_here"], b_law_schema, false, none⟩
def b_law_column : Ss :=
  (.cons (.trym
    (.cons (.asg (.nm 5) (.call "Column" "Column" (.cons (.var 0) (.cons (.var 1) (.cons (.var 2) .nil)))))
    .nil) [("BadName", 3, (.lst (.cons (.kinds "_law_kinds") (.cons (.fld "name") .nil)))), ("BadSpan", 4, (.lst (.cons (.kinds "_law_kinds") (.cons (.fld "low") (.cons (.fld "high") .nil)))))])
  (.cons (.ret (.lst (.cons (.lst (.cons (.cstr "let") .nil)) (.cons (.fld (.var 5) "name") (.cons (.fld (.var 5) "low") (.cons (.fld (.var 5) "high") .nil))))))
  .nil))
def f_law_column : Fn := ⟨"_law_column", ["_law_name_here", "_law_low", "_law_high", "_law_e", "f", "_law_made"], ["_law_name_here", "_law_low", "_law_high"], b_law_column, false, none⟩
def b_law_column_due : Ss :=
  (.cons (.ifs (.not (.var 0))
    (.cons (.ret (.lst (.cons (.lst (.cons (.cstr "ValueError") (.cons (.cstr "TellError") (.cons (.cstr "NameFault") (.cons (.cstr "BadName") .nil))))) (.cons (.var 1) .nil))))
    .nil)
    .nil)
  (.cons (.ifs (.cmp .gt (.var 2) (.var 3))
    (.cons (.ret (.lst (.cons (.lst (.cons (.cstr "ValueError") (.cons (.cstr "TellError") (.cons (.cstr "BadSpan") .nil)))) (.cons (.var 2) (.cons (.var 3) .nil)))))
    .nil)
    .nil)
  (.cons (.ret (.lst (.cons (.lst (.cons (.cstr "let") .nil)) (.cons (.var 1) (.cons (.var 2) (.cons (.var 3) .nil))))))
  .nil)))
def f_law_column_due : Fn := ⟨"_law_column_due", ["_law_good", "_law_name_here", "_law_low", "_law_high"], ["_law_good", "_law_name_here", "_law_low", "_law_high"], b_law_column_due, false, none⟩
def b_law_build : Ss :=
  (.cons (.ifs (.cmp .eq (.blt .len (.cons (.var 0) .nil)) (.cint 0))
    (.cons (.ret (.call "Schema" "Schema" .nil))
    .nil)
    .nil)
  (.cons (.ifs (.cmp .eq (.blt .len (.cons (.var 0) .nil)) (.cint 1))
    (.cons (.ret (.call "Schema" "Schema" (.cons (.ix (.var 0) (.cint 0)) .nil)))
    .nil)
    .nil)
  (.cons (.ifs (.cmp .eq (.blt .len (.cons (.var 0) .nil)) (.cint 2))
    (.cons (.ret (.call "Schema" "Schema" (.cons (.ix (.var 0) (.cint 0)) (.cons (.ix (.var 0) (.cint 1)) .nil))))
    .nil)
    .nil)
  (.cons (.ifs (.cmp .eq (.blt .len (.cons (.var 0) .nil)) (.cint 3))
    (.cons (.ret (.call "Schema" "Schema" (.cons (.ix (.var 0) (.cint 0)) (.cons (.ix (.var 0) (.cint 1)) (.cons (.ix (.var 0) (.cint 2)) .nil)))))
    .nil)
    .nil)
  (.cons (.ifs (.cmp .eq (.blt .len (.cons (.var 0) .nil)) (.cint 4))
    (.cons (.ret (.call "Schema" "Schema" (.cons (.ix (.var 0) (.cint 0)) (.cons (.ix (.var 0) (.cint 1)) (.cons (.ix (.var 0) (.cint 2)) (.cons (.ix (.var 0) (.cint 3)) .nil))))))
    .nil)
    .nil)
  (.cons (.ret (.call "Schema" "Schema" (.cons (.ix (.var 0) (.cint 0)) (.cons (.ix (.var 0) (.cint 1)) (.cons (.ix (.var 0) (.cint 2)) (.cons (.ix (.var 0) (.cint 3)) (.cons (.ix (.var 0) (.cint 4)) .nil)))))))
  .nil))))))
def f_law_build : Fn := ⟨"_law_build", ["_law_made"], ["_law_made"], b_law_build, false, none⟩
def b_law_made_of : Ss :=
  (.cons (.trym
    (.cons (.asg (.nm 3) (.call "_law_build" "_law_build" (.cons (.lc (.call "Column" "Column" (.cons (.ix (.var 4) (.cint 0)) (.cons (.ix (.var 4) (.cint 1)) (.cons (.ix (.var 4) (.cint 2)) .nil)))) (.nm 4) (.seq (.var 0)) (.cbl true)) .nil)))
    .nil) [("BadCount", 1, (.lst (.cons (.kinds "_law_kinds") (.cons (.fld "number") .nil)))), ("DuplicateName", 2, (.lst (.cons (.kinds "_law_kinds") (.cons (.fld "name") .nil))))])
  (.cons (.ret (.lst (.cons (.lst (.cons (.cstr "let") .nil)) (.cons (.prop (.var 3) "names") .nil))))
  .nil))
def f_law_made_of : Fn := ⟨"_law_made_of", ["_law_columns_here", "_law_e", "f", "_law_schema_here", "_law_one"], ["_law_columns_here"], b_law_made_of, false, none⟩
def b_law_made_due : Ss :=
  (.cons (.ifs (.not (.chain .le .le (.cint 1) (.blt .len (.cons (.var 0) .nil)) (.cint 3)))
    (.cons (.ret (.lst (.cons (.lst (.cons (.cstr "ValueError") (.cons (.cstr "TellError") (.cons (.cstr "BadCount") .nil)))) (.cons (.blt .len (.cons (.var 0) .nil)) .nil))))
    .nil)
    .nil)
  (.cons (.asg (.nm 1) (.lc (.ix (.var 3) (.cint 0)) (.nm 3) (.seq (.var 0)) (.cbl true)))
  (.cons (.for_ (.nm 2) (.rng1 (.blt .len (.cons (.var 1) .nil)))
    (.cons (.ifs (.cmp .in_ (.ix (.var 1) (.var 2)) (.sl (.var 1) .nop (.var 2)))
      (.cons (.ret (.lst (.cons (.lst (.cons (.cstr "ValueError") (.cons (.cstr "TellError") (.cons (.cstr "NameFault") (.cons (.cstr "DuplicateName") .nil))))) (.cons (.ix (.var 1) (.var 2)) .nil))))
      .nil)
      .nil)
    .nil))
  (.cons (.ret (.lst (.cons (.lst (.cons (.cstr "let") .nil)) (.cons (.var 1) .nil))))
  .nil))))
def f_law_made_due : Fn := ⟨"_law_made_due", ["_law_columns_here", "_law_names_here", "_law_k", "_law_one"], ["_law_columns_here"], b_law_made_due, false, none⟩
def b_law_place : Ss :=
  (.cons (.try_
    (.cons (.ret (.lst (.cons (.lst (.cons (.cstr "let") .nil)) (.cons (.mc "place" "" (.var 0) (.cons (.var 1) .nil)) .nil))))
    .nil) "UnknownName" 2 (.lst (.cons (.kinds "_law_kinds") (.cons (.fld "name") .nil))))
  .nil)
def f_law_place : Fn := ⟨"_law_place", ["_law_schema_here", "_law_name_here", "_law_e"], ["_law_schema_here", "_law_name_here"], b_law_place, false, none⟩
def b_law_columns_refused : Ss :=
  (.cons (.asg (.nm 3) (.ix (.lst (.cons (.cstr "") (.cons (.cstr "A") (.cons (.cstr "0a") (.cons (.cstr "_") (.cons (.cstr "a-") (.cons (.cstr "rule") (.cons (.cstr "not") (.cons (.cstr "abcdefghijklm") (.cons (.cstr "aB") (.cons (.cstr "a b") .nil))))))))))) (.call "_law_draw" "_law_draw" (.cons (.var 0) (.cons (.cint 10) .nil)))))
  (.cons (.asg (.nm 4) (.ix (.lst (.cons (.cstr "a") (.cons (.cstr "a0") (.cons (.cstr "a_") (.cons (.cstr "rules") (.cons (.cstr "no") (.cons (.cstr "abcdefghijkl") (.cons (.cstr "z9") (.cons (.cstr "x__") (.cons (.cstr "ruler") (.cons (.cstr "b") .nil))))))))))) (.call "_law_draw" "_law_draw" (.cons (.var 0) (.cons (.cint 10) .nil)))))
  (.cons (.for_ (.nm 5) (.seq (.lst (.cons (.var 3) (.cons (.var 4) .nil))))
    (.cons (.for_ (.nm 6) (.seq (.lst (.cons (.tup (.cons (.var 1) (.cons (.var 2) .nil))) (.cons (.tup (.cons (.bin .add (.var 2) (.cint 1)) (.cons (.var 1) .nil))) (.cons (.tup (.cons (.var 1) (.cons (.var 1) .nil))) (.cons (.tup (.cons (.var 2) (.cons (.bin .sub (.var 2) (.cint 1)) .nil))) .nil))))))
      (.cons (.asg (.nm 7) (.call "_law_column_due" "_law_column_due" (.cons (.cmp .eq (.var 5) (.var 4)) (.cons (.var 5) (.cons (.ix (.var 6) (.cint 0)) (.cons (.ix (.var 6) (.cint 1)) .nil))))))
      (.cons (.ifs (.not (.call "_law_same" "_law_same" (.cons (.call "_law_column" "_law_column" (.cons (.var 5) (.cons (.ix (.var 6) (.cint 0)) (.cons (.ix (.var 6) (.cint 1)) .nil)))) (.cons (.var 7) .nil))))
        (.cons (.ret (.cbl false))
        .nil)
        .nil)
      .nil)))
    .nil))
  (.cons (.ret (.cbl true))
  .nil))))
def f_law_columns_refused : Fn := ⟨"_law_columns_refused", ["_law_box_here", "_law_low", "_law_high", "_law_bad", "_law_fine", "_law_name_here", "_law_ends", "_law_due"], ["_law_box_here", "_law_low", "_law_high"], b_law_columns_refused, false, none⟩
def b_law_changed : Ss :=
  (.cons (.asg (.nm 2) (.call "_law_draw" "_law_draw" (.cons (.var 0) (.cons (.blt .len (.cons (.var 1) .nil)) .nil))))
  (.cons (.asg (.tp [5, 6, 7]) (.ix (.var 1) (.var 2)))
  (.cons (.asg (.nm 3) (.call "_law_name" "_law_name" (.cons (.var 0) (.cons (.lc (.ix (.var 8) (.cint 0)) (.nm 8) (.seq (.var 1)) (.cbl true)) .nil))))
  (.cons (.asg (.nm 4) (.call "_law_draw" "_law_draw" (.cons (.var 0) (.cons (.cint 6) .nil))))
  (.cons (.ifs (.cmp .eq (.var 4) (.cint 0))
    (.cons (.ret (.bin .add (.bin .add (.sl (.var 1) .nop (.var 2)) (.lst (.cons (.tup (.cons (.var 3) (.cons (.var 6) (.cons (.var 7) .nil)))) .nil))) (.sl (.var 1) (.bin .add (.var 2) (.cint 1)) .nop)))
    .nil)
    .nil)
  (.cons (.ifs (.cmp .eq (.var 4) (.cint 1))
    (.cons (.ret (.bin .add (.bin .add (.sl (.var 1) .nop (.var 2)) (.lst (.cons (.tup (.cons (.var 5) (.cons (.bin .sub (.var 6) (.cint 1)) (.cons (.var 7) .nil)))) .nil))) (.sl (.var 1) (.bin .add (.var 2) (.cint 1)) .nop)))
    .nil)
    .nil)
  (.cons (.ifs (.cmp .eq (.var 4) (.cint 2))
    (.cons (.ret (.bin .add (.bin .add (.sl (.var 1) .nop (.var 2)) (.lst (.cons (.tup (.cons (.var 5) (.cons (.var 6) (.cons (.bin .add (.var 7) (.cint 1)) .nil)))) .nil))) (.sl (.var 1) (.bin .add (.var 2) (.cint 1)) .nop)))
    .nil)
    .nil)
  (.cons (.ifs (.cmp .eq (.var 4) (.cint 3))
    (.cons (.ret (.rev (.var 1)))
    .nil)
    .nil)
  (.cons (.ifs (.and2 (.cmp .eq (.var 4) (.cint 4)) (.and1 (.cmp .gt (.blt .len (.cons (.var 1) .nil)) (.cint 1))))
    (.cons (.ret (.sl (.var 1) (.cint 1) .nop))
    .nil)
    .nil)
  (.cons (.ret (.bin .add (.sl (.var 1) .nop (.cint 2)) (.lst (.cons (.tup (.cons (.var 3) (.cons (.var 6) (.cons (.var 7) .nil)))) .nil))))
  .nil))))))))))
def f_law_changed : Fn := ⟨"_law_changed", ["_law_box_here", "_law_columns_here", "_law_at", "_law_other", "_law_way", "_law_name_here", "_law_low", "_law_high", "_law_one"], ["_law_box_here", "_law_columns_here"], b_law_changed, false, none⟩
def b_law_kept : Ss :=
  (.cons (.asg (.nm 2) (.lc (.ix (.var 3) (.cint 0)) (.nm 3) (.seq (.var 1)) (.cbl true)))
  (.cons (.ifs (.or2 (.not (.blt .isi (.cons (.fld (.var 0) "columns") (.cons (.ty "tuple") .nil)))) (.or1 (.not (.call "_law_same" "_law_same" (.cons (.prop (.var 0) "names") (.cons (.var 2) .nil))))))
    (.cons (.ret (.cbl false))
    .nil)
    .nil)
  (.cons (.ifs (.not (.call "_law_same" "_law_same" (.cons (.lc (.tup (.cons (.fld (.var 3) "name") (.cons (.fld (.var 3) "low") (.cons (.fld (.var 3) "high") .nil)))) (.nm 3) (.seq (.fld (.var 0) "columns")) (.cbl true)) (.cons (.var 1) .nil))))
    (.cons (.ret (.cbl false))
    .nil)
    .nil)
  (.cons (.ret (.call "_law_same" "_law_same" (.cons (.lc (.call "_law_place" "_law_place" (.cons (.var 0) (.cons (.var 4) .nil))) (.nm 4) (.seq (.var 2)) (.cbl true)) (.cons (.lc (.lst (.cons (.lst (.cons (.cstr "let") .nil)) (.cons (.var 5) .nil))) (.nm 5) (.rng1 (.blt .len (.cons (.var 2) .nil))) (.cbl true)) .nil))))
  .nil))))
def f_law_kept : Fn := ⟨"_law_kept", ["_law_schema_here", "_law_columns_here", "_law_names_here", "_law_one", "_law_name_here", "_law_k"], ["_law_schema_here", "_law_columns_here"], b_law_kept, false, none⟩
def b_law_equal : Ss :=
  (.cons (.ifs (.or2 (.not (.call "_law_same" "_law_same" (.cons (.oe (.var 0) (.var 1)) (.cons (.cmp .eq (.var 2) (.var 3)) .nil)))) (.or1 (.not (.call "_law_same" "_law_same" (.cons (.oe (.var 1) (.var 0)) (.cons (.cmp .eq (.var 2) (.var 3)) .nil))))))
    (.cons (.ret (.cbl false))
    .nil)
    .nil)
  (.cons (.for_ (.nm 4) (.rng1 (.blt .min (.cons (.blt .len (.cons (.var 2) .nil)) (.cons (.blt .len (.cons (.var 3) .nil)) .nil))))
    (.cons (.asg (.nm 5) (.cmp .eq (.ix (.var 2) (.var 4)) (.ix (.var 3) (.var 4))))
    (.cons (.ifs (.not (.call "_law_same" "_law_same" (.cons (.oe (.ix (.fld (.var 0) "columns") (.var 4)) (.ix (.fld (.var 1) "columns") (.var 4))) (.cons (.var 5) .nil))))
      (.cons (.ret (.cbl false))
      .nil)
      .nil)
    .nil)))
  (.cons (.ret (.cbl true))
  .nil)))
def f_law_equal : Fn := ⟨"_law_equal", ["_law_one", "_law_other", "_law_first", "_law_second", "_law_k", "_law_same_here"], ["_law_one", "_law_other", "_law_first", "_law_second"], b_law_equal, false, none⟩
def b_law : Ss :=
  (.cons (.asg (.nm 1) (.call "_law_box" "_law_box" (.cons (.var 0) .nil)))
  (.cons (.asg (.nm 2) (.call "_law_columns" "_law_columns" (.cons (.var 1) (.cons (.cint 5) .nil))))
  (.cons (.asg (.nm 3) (.trk (.bltM .list (.cons (.var 2) .nil))))
  (.cons (.ifs (.and2 (.cmp .gt (.blt .len (.cons (.var 2) .nil)) (.cint 1)) (.and1 (.cmp .eq (.call "_law_draw" "_law_draw" (.cons (.var 1) (.cons (.cint 2) .nil))) (.cint 1))))
    (.cons (.asg (.nm 11) (.bin .add (.cint 1) (.call "_law_draw" "_law_draw" (.cons (.var 1) (.cons (.bin .sub (.blt .len (.cons (.var 2) .nil)) (.cint 1)) .nil)))))
    (.cons (.seti (.var 3) (.var 11) (.tup (.cons (.ix (.ix (.var 2) (.call "_law_draw" "_law_draw" (.cons (.var 1) (.cons (.var 11) .nil)))) (.cint 0)) (.cons (.ix (.ix (.var 2) (.var 11)) (.cint 1)) (.cons (.ix (.ix (.var 2) (.var 11)) (.cint 2)) .nil)))))
    .nil))
    .nil)
  (.cons (.for_ (.nm 4) (.seq (.lst (.cons (.var 3) (.cons (.sl (.var 3) .nop (.cint 3)) (.cons (.sl (.var 3) .nop (.cint 2)) (.cons (.lst .nil) (.cons (.var 2) (.cons (.sl (.var 2) .nop (.cint 4)) (.cons (.sl (.var 2) .nop (.cint 3)) .nil)))))))))
    (.cons (.ifs (.not (.call "_law_same" "_law_same" (.cons (.call "_law_made_of" "_law_made_of" (.cons (.var 4) .nil)) (.cons (.call "_law_made_due" "_law_made_due" (.cons (.var 4) .nil)) .nil))))
      (.cons (.ret (.cbl false))
      .nil)
      .nil)
    .nil))
  (.cons (.asg (.nm 2) (.sl (.var 2) .nop (.cint 3)))
  (.cons (.asg (.nm 5) (.call "_law_schema" "_law_schema" (.cons (.var 2) .nil)))
  (.cons (.asg (.nm 6) (.call "_law_changed" "_law_changed" (.cons (.var 1) (.cons (.var 2) .nil))))
  (.cons (.asg (.nm 7) (.call "_law_schema" "_law_schema" (.cons (.var 6) .nil)))
  (.cons (.ifs (.or2 (.not (.call "_law_kept" "_law_kept" (.cons (.var 5) (.cons (.var 2) .nil)))) (.or2 (.not (.call "_law_kept" "_law_kept" (.cons (.var 7) (.cons (.var 6) .nil)))) (.or1 (.not (.call "_law_same" "_law_same" (.cons (.kc "Schema" "WIDEST") (.cons (.cint 3) .nil)))))))
    (.cons (.ret (.cbl false))
    .nil)
    .nil)
  (.cons (.asg (.nm 8) (.prop (.var 5) "names"))
  (.cons (.expr (.meth .append (.var 8) (.cons (.cstr "more") .nil)))
  (.cons (.asg (.nm 9) (.call "_law_name" "_law_name" (.cons (.var 1) (.cons (.lc (.ix (.var 13) (.cint 0)) (.nm 13) (.seq (.bin .add (.var 2) (.var 6))) (.cbl true)) .nil))))
  (.cons (.for_ (.nm 10) (.seq (.lst (.cons (.var 9) (.cons (.cstr "") (.cons (.cstr "rule") .nil)))))
    (.cons (.asg (.nm 12) (.lst (.cons (.lst (.cons (.cstr "ValueError") (.cons (.cstr "TellError") (.cons (.cstr "NameFault") (.cons (.cstr "UnknownName") .nil))))) (.cons (.var 10) .nil))))
    (.cons (.ifs (.or2 (.not (.call "_law_same" "_law_same" (.cons (.call "_law_place" "_law_place" (.cons (.var 5) (.cons (.var 10) .nil))) (.cons (.var 12) .nil)))) (.or1 (.not (.call "_law_same" "_law_same" (.cons (.call "_law_place" "_law_place" (.cons (.var 7) (.cons (.var 10) .nil))) (.cons (.var 12) .nil))))))
      (.cons (.ret (.cbl false))
      .nil)
      .nil)
    .nil)))
  (.cons (.ifs (.or2 (.not (.call "_law_equal" "_law_equal" (.cons (.var 5) (.cons (.var 7) (.cons (.var 2) (.cons (.var 6) .nil)))))) (.or1 (.not (.call "_law_equal" "_law_equal" (.cons (.var 5) (.cons (.call "_law_schema" "_law_schema" (.cons (.var 2) .nil)) (.cons (.var 2) (.cons (.var 2) .nil))))))))
    (.cons (.ret (.cbl false))
    .nil)
    .nil)
  (.cons (.ret (.and2 (.call "_law_kept" "_law_kept" (.cons (.var 5) (.cons (.var 2) .nil))) (.and1 (.call "_law_columns_refused" "_law_columns_refused" (.cons (.var 1) (.cons (.ix (.ix (.var 2) (.cint 0)) (.cint 1)) (.cons (.ix (.ix (.var 2) (.cint 0)) (.cint 2)) .nil)))))))
  .nil))))))))))))))))
def f_law : Fn := ⟨"law", ["_law_script", "_law_box_here", "_law_columns_here", "_law_twice", "_law_some", "_law_schema_here", "_law_other", "_law_apart", "_law_names_here", "_law_strange", "_law_name_here", "_law_at", "_law_due", "_law_one"], ["_law_script"], b_law, false, none⟩
def cs : List (Str × Cn) := [("LETTERS", .str "abcdefghijklmnopqrstuvwxyz"), ("REST", .str "abcdefghijklmnopqrstuvwxyz0123456789_"), ("RESERVED", .tup ["all", "and", "in", "is", "none", "not", "or", "rule"])]
abbrev s_law_kinds : Stmt := top 40
def d_law_kinds : He.DefD := ⟨("_law_kinds", none), "_law_kinds", "_law_kinds", defArgs s_law_kinds, defBody s_law_kinds, defScope s_law_kinds, [], []⟩

abbrev s_BadName_init : Stmt := (clsB (top 2)).getD 0 (.Pass ⟨0, 0, 0, 0⟩)
def d_BadName_init : He.DefD := ⟨("BadName", some "__init__"), "__init__", "NameFault.__init__", defArgs s_BadName_init, defBody s_BadName_init, defScope s_BadName_init, [], []⟩
abbrev s_DuplicateName_init : Stmt := (clsB (top 2)).getD 0 (.Pass ⟨0, 0, 0, 0⟩)
def d_DuplicateName_init : He.DefD := ⟨("DuplicateName", some "__init__"), "__init__", "NameFault.__init__", defArgs s_DuplicateName_init, defBody s_DuplicateName_init, defScope s_DuplicateName_init, [], []⟩
abbrev s_UnknownName_init : Stmt := (clsB (top 2)).getD 0 (.Pass ⟨0, 0, 0, 0⟩)
def d_UnknownName_init : He.DefD := ⟨("UnknownName", some "__init__"), "__init__", "NameFault.__init__", defArgs s_UnknownName_init, defBody s_UnknownName_init, defScope s_UnknownName_init, [], []⟩
abbrev s_BadSpan_init : Stmt := (clsB (top 6)).getD 0 (.Pass ⟨0, 0, 0, 0⟩)
def d_BadSpan_init : He.DefD := ⟨("BadSpan", some "__init__"), "__init__", "BadSpan.__init__", defArgs s_BadSpan_init, defBody s_BadSpan_init, defScope s_BadSpan_init, [], []⟩
abbrev s_BadCount_init : Stmt := (clsB (top 7)).getD 0 (.Pass ⟨0, 0, 0, 0⟩)
def d_BadCount_init : He.DefD := ⟨("BadCount", some "__init__"), "__init__", "BadCount.__init__", defArgs s_BadCount_init, defBody s_BadCount_init, defScope s_BadCount_init, [], []⟩
def xs : List XD := [⟨"BadName", some ([("name", true)], d_BadName_init, "self", "TellError")⟩, ⟨"DuplicateName", some ([("name", true)], d_DuplicateName_init, "self", "TellError")⟩, ⟨"UnknownName", some ([("name", true)], d_UnknownName_init, "self", "TellError")⟩, ⟨"BadSpan", some ([("low", false), ("high", false)], d_BadSpan_init, "self", "TellError")⟩, ⟨"BadCount", some ([("number", false)], d_BadCount_init, "self", "TellError")⟩]
def sub : List (Str × Str) := [(("BadName" : Str), ("ValueError" : Str)), (("BadName" : Str), ("TellError" : Str)), (("BadName" : Str), ("NameFault" : Str)), (("BadName" : Str), ("BadName" : Str)), (("DuplicateName" : Str), ("ValueError" : Str)), (("DuplicateName" : Str), ("TellError" : Str)), (("DuplicateName" : Str), ("NameFault" : Str)), (("DuplicateName" : Str), ("DuplicateName" : Str)), (("UnknownName" : Str), ("ValueError" : Str)), (("UnknownName" : Str), ("TellError" : Str)), (("UnknownName" : Str), ("NameFault" : Str)), (("UnknownName" : Str), ("UnknownName" : Str)), (("BadSpan" : Str), ("ValueError" : Str)), (("BadSpan" : Str), ("TellError" : Str)), (("BadSpan" : Str), ("BadSpan" : Str)), (("BadCount" : Str), ("ValueError" : Str)), (("BadCount" : Str), ("TellError" : Str)), (("BadCount" : Str), ("BadCount" : Str))]
def kin : Str × List Str := ("_law_kinds", [("ValueError" : Str), ("TellError" : Str), ("NameFault" : Str), ("BadName" : Str), ("DuplicateName" : Str), ("UnknownName" : Str), ("BadSpan" : Str), ("BadCount" : Str), ("BadLimit" : Str), ("BadLevel" : Str), ("BadChoice" : Str), ("BadRow" : Str), ("BadPlace" : Str), ("BadText" : Str), ("BadProgram" : Str), ("BadChange" : Str), ("OtherSchema" : Str), ("OrderFault" : Str), ("BadOrder" : Str), ("NotSilent" : Str), ("PinRing" : Str), ("NoPin" : Str), ("NotHidden" : Str), ("Refused" : Str)])
def cds : List CD := [⟨"Column", [("name" : Str), ("low" : Str), ("high" : Str)], [("__eq__" : Str)], true, [], [], [(("Column" : Str), true)]⟩, ⟨"Schema", [("columns" : Str)], [("__eq__" : Str), ("place" : Str)], true, [(("WIDEST" : Str), 3)], [("names" : Str)], [(("Schema" : Str), true)]⟩]
def eks : List (Str × Ek) := [(("Column" : Str), Ek.mk ("Column" : Str) ("Column.__init__" : Str) true), (("Schema" : Str), Ek.mk ("Schema" : Str) ("Schema.__init__" : Str) true), (("Column.__eq__.low" : Str), Ek.low ("Column.__eq__" : Str)), (("Schema.names.prop" : Str), Ek.low ("Schema.names" : Str))]
def mts : List ((Str × Str × Str) × Str) := [((("Column" : Str), ("__eq__" : Str), ("" : Str)), ("Column.__eq__" : Str)), ((("Column" : Str), ("__eq__" : Str), ("low" : Str)), ("Column.__eq__.low" : Str)), ((("Schema" : Str), ("__eq__" : Str), ("" : Str)), ("Schema.__eq__" : Str)), ((("Schema" : Str), ("names" : Str), ("prop" : Str)), ("Schema.names.prop" : Str)), ((("Schema" : Str), ("place" : Str), ("" : Str)), ("Schema.place" : Str))]
def prg (w : Nat) : Prg := ⟨[("is_name", f_is_name), ("_check_name", f_check_name), ("Column.__init__", f_Column_init), ("Column.__eq__", f_Column_eq), ("Schema.__init__", f_Schema_init), ("Schema.__eq__", f_Schema_eq), ("Schema.names", f_Schema_names), ("Schema.place", f_Schema_place), ("_law_box", f_law_box), ("_law_draw", f_law_draw), ("_law_same", f_law_same), ("_law_name", f_law_name), ("_law_names", f_law_names), ("_law_columns", f_law_columns), ("_law_schema", f_law_schema), ("_law_column", f_law_column), ("_law_column_due", f_law_column_due), ("_law_build", f_law_build), ("_law_made_of", f_law_made_of), ("_law_made_due", f_law_made_due), ("_law_place", f_law_place), ("_law_columns_refused", f_law_columns_refused), ("_law_changed", f_law_changed), ("_law_kept", f_law_kept), ("_law_equal", f_law_equal), ("law", f_law)], cs.map fun p => (p.1, p.2.d), w, excOf xs, sub, kin, eks, clsOf cds, mts, kcsOf cds, islOf cds⟩
def dtab : Dt := [(("is_name" : Str), false, d_is_name), (("_check_name" : Str), false, d_check_name), (("Column.__init__" : Str), false, d_Column_init), (("Column.__eq__" : Str), false, d_Column_eq), (("Schema.__init__" : Str), false, d_Schema_init), (("Schema.__eq__" : Str), false, d_Schema_eq), (("Schema.names" : Str), true, d_Schema_names), (("Schema.place" : Str), false, d_Schema_place), (("_law_box" : Str), false, d_law_box), (("_law_draw" : Str), false, d_law_draw), (("_law_same" : Str), false, d_law_same), (("_law_name" : Str), false, d_law_name), (("_law_names" : Str), false, d_law_names), (("_law_columns" : Str), false, d_law_columns), (("_law_schema" : Str), false, d_law_schema), (("_law_column" : Str), false, d_law_column), (("_law_column_due" : Str), false, d_law_column_due), (("_law_build" : Str), false, d_law_build), (("_law_made_of" : Str), false, d_law_made_of), (("_law_made_due" : Str), false, d_law_made_due), (("_law_place" : Str), false, d_law_place), (("_law_columns_refused" : Str), false, d_law_columns_refused), (("_law_changed" : Str), false, d_law_changed), (("_law_kept" : Str), false, d_law_kept), (("_law_equal" : Str), false, d_law_equal), (("law" : Str), false, d_law)]
def fn : List He.DefD := [d_is_name, d_check_name, d_Column_init, d_Column_eq, d_Schema_init, d_Schema_eq, d_Schema_place, d_law_box, d_law_draw, d_law_same, d_law_name, d_law_names, d_law_columns, d_law_schema, d_law_column, d_law_column_due, d_law_build, d_law_made_of, d_law_made_due, d_law_place, d_law_columns_refused, d_law_changed, d_law_kept, d_law_equal, d_law, d_law_kinds, d_BadName_init, d_DuplicateName_init, d_UnknownName_init, d_BadSpan_init, d_BadCount_init]
def pn : List He.DefD := [d_Schema_names]
def bx : PySem.W.Frag → Bool := fun K => excB xs sub kin K && cds.all fun d => cdB K d
/-! ### a call is its body's run -/
theorem call_is_name {w k : Nat} {S : Sto} {a0 : D} : callN (prg w) (k + 1) "is_name" "is_name" [a0] S = (evSs (ctxOf (prg w) k) b_is_name [some a0, none] S).bind retK := callN_eq (F := f_is_name) rfl rfl rfl
theorem call_check_name {w k : Nat} {S : Sto} {a0 : D} : callN (prg w) (k + 1) "_check_name" "_check_name" [a0] S = (evSs (ctxOf (prg w) k) b_check_name [some a0] S).bind retK := callN_eq (F := f_check_name) rfl rfl rfl
theorem call_Column_init {w k : Nat} {S : Sto} {a0 a1 a2 a3 : D} : callN (prg w) (k + 1) "Column.__init__" "Column.__init__" [a0, a1, a2, a3] S = (evSs (ctxOf (prg w) k) b_Column_init [some a0, some a1, some a2, some a3] S).bind retK := callN_eq (F := f_Column_init) rfl rfl rfl
theorem call_Column_eq {w k : Nat} {S : Sto} {a0 a1 : D} : callN (prg w) (k + 1) "Column.__eq__" "Column.__eq__" [a0, a1] S = (evSs (ctxOf (prg w) k) b_Column_eq [some a0, some a1] S).bind retK := callN_eq (F := f_Column_eq) rfl rfl rfl
theorem call_Schema_eq {w k : Nat} {S : Sto} {a0 a1 : D} : callN (prg w) (k + 1) "Schema.__eq__" "Schema.__eq__" [a0, a1] S = (evSs (ctxOf (prg w) k) b_Schema_eq [some a0, some a1] S).bind retK := callN_eq (F := f_Schema_eq) rfl rfl rfl
theorem call_Schema_names {w k : Nat} {S : Sto} {a0 : D} : callN (prg w) (k + 1) "Schema.names" "Schema.names" [a0] S = (evSs (ctxOf (prg w) k) b_Schema_names [some a0, none] S).bind retK := callN_eq (F := f_Schema_names) rfl rfl rfl
theorem call_Schema_place {w k : Nat} {S : Sto} {a0 a1 : D} : callN (prg w) (k + 1) "Schema.place" "Schema.place" [a0, a1] S = (evSs (ctxOf (prg w) k) b_Schema_place [some a0, some a1, none] S).bind retK := callN_eq (F := f_Schema_place) rfl rfl rfl
theorem call_law_box {w k : Nat} {S : Sto} {a0 : D} : callN (prg w) (k + 1) "_law_box" "_law_box" [a0] S = (evSs (ctxOf (prg w) k) b_law_box [some a0] S).bind retK := callN_eq (F := f_law_box) rfl rfl rfl
theorem call_law_draw {w k : Nat} {S : Sto} {a0 a1 : D} : callN (prg w) (k + 1) "_law_draw" "_law_draw" [a0, a1] S = (evSs (ctxOf (prg w) k) b_law_draw [some a0, some a1, none, none] S).bind retK := callN_eq (F := f_law_draw) rfl rfl rfl
theorem call_law_same {w k : Nat} {S : Sto} {a0 a1 : D} : callN (prg w) (k + 1) "_law_same" "_law_same" [a0, a1] S = (evSs (ctxOf (prg w) k) b_law_same [some a0, some a1, none] S).bind retK := callN_eq (F := f_law_same) rfl rfl rfl
theorem call_law_name {w k : Nat} {S : Sto} {a0 a1 : D} : callN (prg w) (k + 1) "_law_name" "_law_name" [a0, a1] S = (evSs (ctxOf (prg w) k) b_law_name [some a0, some a1, none, none, none, none, none, none, none] S).bind retK := callN_eq (F := f_law_name) rfl rfl rfl
theorem call_law_names {w k : Nat} {S : Sto} {a0 a1 : D} : callN (prg w) (k + 1) "_law_names" "_law_names" [a0, a1] S = (evSs (ctxOf (prg w) k) b_law_names [some a0, some a1, none, none] S).bind retK := callN_eq (F := f_law_names) rfl rfl rfl
theorem call_law_columns {w k : Nat} {S : Sto} {a0 a1 : D} : callN (prg w) (k + 1) "_law_columns" "_law_columns" [a0, a1] S = (evSs (ctxOf (prg w) k) b_law_columns [some a0, some a1, none, none, none, none, none] S).bind retK := callN_eq (F := f_law_columns) rfl rfl rfl
theorem call_law_schema {w k : Nat} {S : Sto} {a0 : D} : callN (prg w) (k + 1) "_law_schema" "_law_schema" [a0] S = (evSs (ctxOf (prg w) k) b_law_schema [some a0, none, none] S).bind retK := callN_eq (F := f_law_schema) rfl rfl rfl
theorem call_law_column {w k : Nat} {S : Sto} {a0 a1 a2 : D} : callN (prg w) (k + 1) "_law_column" "_law_column" [a0, a1, a2] S = (evSs (ctxOf (prg w) k) b_law_column [some a0, some a1, some a2, none, none, none] S).bind retK := callN_eq (F := f_law_column) rfl rfl rfl
theorem call_law_column_due {w k : Nat} {S : Sto} {a0 a1 a2 a3 : D} : callN (prg w) (k + 1) "_law_column_due" "_law_column_due" [a0, a1, a2, a3] S = (evSs (ctxOf (prg w) k) b_law_column_due [some a0, some a1, some a2, some a3] S).bind retK := callN_eq (F := f_law_column_due) rfl rfl rfl
theorem call_law_build {w k : Nat} {S : Sto} {a0 : D} : callN (prg w) (k + 1) "_law_build" "_law_build" [a0] S = (evSs (ctxOf (prg w) k) b_law_build [some a0] S).bind retK := callN_eq (F := f_law_build) rfl rfl rfl
theorem call_law_made_of {w k : Nat} {S : Sto} {a0 : D} : callN (prg w) (k + 1) "_law_made_of" "_law_made_of" [a0] S = (evSs (ctxOf (prg w) k) b_law_made_of [some a0, none, none, none, none] S).bind retK := callN_eq (F := f_law_made_of) rfl rfl rfl
theorem call_law_made_due {w k : Nat} {S : Sto} {a0 : D} : callN (prg w) (k + 1) "_law_made_due" "_law_made_due" [a0] S = (evSs (ctxOf (prg w) k) b_law_made_due [some a0, none, none, none] S).bind retK := callN_eq (F := f_law_made_due) rfl rfl rfl
theorem call_law_place {w k : Nat} {S : Sto} {a0 a1 : D} : callN (prg w) (k + 1) "_law_place" "_law_place" [a0, a1] S = (evSs (ctxOf (prg w) k) b_law_place [some a0, some a1, none] S).bind retK := callN_eq (F := f_law_place) rfl rfl rfl
theorem call_law_columns_refused {w k : Nat} {S : Sto} {a0 a1 a2 : D} : callN (prg w) (k + 1) "_law_columns_refused" "_law_columns_refused" [a0, a1, a2] S = (evSs (ctxOf (prg w) k) b_law_columns_refused [some a0, some a1, some a2, none, none, none, none, none] S).bind retK := callN_eq (F := f_law_columns_refused) rfl rfl rfl
theorem call_law_changed {w k : Nat} {S : Sto} {a0 a1 : D} : callN (prg w) (k + 1) "_law_changed" "_law_changed" [a0, a1] S = (evSs (ctxOf (prg w) k) b_law_changed [some a0, some a1, none, none, none, none, none, none, none] S).bind retK := callN_eq (F := f_law_changed) rfl rfl rfl
theorem call_law_kept {w k : Nat} {S : Sto} {a0 a1 : D} : callN (prg w) (k + 1) "_law_kept" "_law_kept" [a0, a1] S = (evSs (ctxOf (prg w) k) b_law_kept [some a0, some a1, none, none, none, none] S).bind retK := callN_eq (F := f_law_kept) rfl rfl rfl
theorem call_law_equal {w k : Nat} {S : Sto} {a0 a1 a2 a3 : D} : callN (prg w) (k + 1) "_law_equal" "_law_equal" [a0, a1, a2, a3] S = (evSs (ctxOf (prg w) k) b_law_equal [some a0, some a1, some a2, some a3, none, none] S).bind retK := callN_eq (F := f_law_equal) rfl rfl rfl
theorem call_law {w k : Nat} {S : Sto} {a0 : D} : callN (prg w) (k + 1) "law" "law" [a0] S = (evSs (ctxOf (prg w) k) b_law [some a0, none, none, none, none, none, none, none, none, none, none, none, none, none] S).bind retK := callN_eq (F := f_law) rfl rfl rfl
theorem has_is_name {w : Nat} : (prg w).has "is_name" "is_name" = true := (rfl)
theorem has_check_name {w : Nat} : (prg w).has "_check_name" "_check_name" = true := (rfl)
theorem has_law_box {w : Nat} : (prg w).has "_law_box" "_law_box" = true := (rfl)
theorem has_law_draw {w : Nat} : (prg w).has "_law_draw" "_law_draw" = true := (rfl)
theorem has_law_same {w : Nat} : (prg w).has "_law_same" "_law_same" = true := (rfl)
theorem has_law_name {w : Nat} : (prg w).has "_law_name" "_law_name" = true := (rfl)
theorem has_law_names {w : Nat} : (prg w).has "_law_names" "_law_names" = true := (rfl)
theorem has_law_columns {w : Nat} : (prg w).has "_law_columns" "_law_columns" = true := (rfl)
theorem has_law_schema {w : Nat} : (prg w).has "_law_schema" "_law_schema" = true := (rfl)
theorem has_law_column {w : Nat} : (prg w).has "_law_column" "_law_column" = true := (rfl)
theorem has_law_column_due {w : Nat} : (prg w).has "_law_column_due" "_law_column_due" = true := (rfl)
theorem has_law_build {w : Nat} : (prg w).has "_law_build" "_law_build" = true := (rfl)
theorem has_law_made_of {w : Nat} : (prg w).has "_law_made_of" "_law_made_of" = true := (rfl)
theorem has_law_made_due {w : Nat} : (prg w).has "_law_made_due" "_law_made_due" = true := (rfl)
theorem has_law_place {w : Nat} : (prg w).has "_law_place" "_law_place" = true := (rfl)
theorem has_law_columns_refused {w : Nat} : (prg w).has "_law_columns_refused" "_law_columns_refused" = true := (rfl)
theorem has_law_changed {w : Nat} : (prg w).has "_law_changed" "_law_changed" = true := (rfl)
theorem has_law_kept {w : Nat} : (prg w).has "_law_kept" "_law_kept" = true := (rfl)
theorem has_law_equal {w : Nat} : (prg w).has "_law_equal" "_law_equal" = true := (rfl)
theorem has_law {w : Nat} : (prg w).has "law" "law" = true := (rfl)
theorem has_Column {w : Nat} : (prg w).has "Column" "Column" = true := (rfl)
theorem has_Schema {w : Nat} : (prg w).has "Schema" "Schema" = true := (rfl)
theorem fk_Column_name {w : Nat} : (prg w).fk "Column" "name" = true := (rfl)
theorem fk_Column_low {w : Nat} : (prg w).fk "Column" "low" = true := (rfl)
theorem fk_Column_high {w : Nat} : (prg w).fk "Column" "high" = true := (rfl)
theorem fo_Column_name {a0 a1 a2 : D} : fldOf [("name" : Str), ("low" : Str), ("high" : Str)] [a0, a1, a2] ("name" : Str) = some a0 := (rfl)
theorem pk_Column_name : putKs ("name" : Str) [] = [("name" : Str)] := (rfl)
theorem pd_Column_name {a0 : D} : putDs ("name" : Str) a0 [] [] = [a0] := (rfl)
theorem fo_Column_low {a0 a1 a2 : D} : fldOf [("name" : Str), ("low" : Str), ("high" : Str)] [a0, a1, a2] ("low" : Str) = some a1 := (rfl)
theorem pk_Column_low : putKs ("low" : Str) [("name" : Str)] = [("name" : Str), ("low" : Str)] := (rfl)
theorem pd_Column_low {a0 a1 : D} : putDs ("low" : Str) a1 [("name" : Str)] [a0] = [a0, a1] := (rfl)
theorem fo_Column_high {a0 a1 a2 : D} : fldOf [("name" : Str), ("low" : Str), ("high" : Str)] [a0, a1, a2] ("high" : Str) = some a2 := (rfl)
theorem pk_Column_high : putKs ("high" : Str) [("name" : Str), ("low" : Str)] = [("name" : Str), ("low" : Str), ("high" : Str)] := (rfl)
theorem pd_Column_high {a0 a1 a2 : D} : putDs ("high" : Str) a2 [("name" : Str), ("low" : Str)] [a0, a1] = [a0, a1, a2] := (rfl)
theorem fk_Schema_columns {w : Nat} : (prg w).fk "Schema" "columns" = true := (rfl)
theorem fo_Schema_columns {a0 : D} : fldOf [("columns" : Str)] [a0] ("columns" : Str) = some a0 := (rfl)
theorem pk_Schema_columns : putKs ("columns" : Str) [] = [("columns" : Str)] := (rfl)
theorem pd_Schema_columns {a0 : D} : putDs ("columns" : Str) a0 [] [] = [a0] := (rfl)
theorem ky_Column_eq {w : Nat} {A : Ob} {ds : List D} {K : Str → Prop} : keyQ (prg w) "__eq__" "" A (.ob "Column" [("name" : Str), ("low" : Str), ("high" : Str)] ds) K = K "Column.__eq__" := key_ob rfl rfl rfl
theorem ky_Column_eq_low {w : Nat} {A : Ob} {ds : List D} {K : Str → Prop} : keyQ (prg w) "__eq__" "low" A (.ob "Column" [("name" : Str), ("low" : Str), ("high" : Str)] ds) K = K "Column.__eq__.low" := key_ob rfl rfl rfl
theorem ky_Schema_eq {w : Nat} {A : Ob} {ds : List D} {K : Str → Prop} : keyQ (prg w) "__eq__" "" A (.ob "Schema" [("columns" : Str)] ds) K = K "Schema.__eq__" := key_ob rfl rfl rfl
theorem ky_Schema_names_prop {w : Nat} {A : Ob} {ds : List D} {K : Str → Prop} : keyQ (prg w) "names" "prop" A (.ob "Schema" [("columns" : Str)] ds) K = K "Schema.names.prop" := key_ob rfl rfl rfl
theorem ky_Schema_place {w : Nat} {A : Ob} {ds : List D} {K : Str → Prop} : keyQ (prg w) "place" "" A (.ob "Schema" [("columns" : Str)] ds) K = K "Schema.place" := key_ob rfl rfl rfl
theorem kc_Schema_WIDEST {w : Nat} : List.lookup (("Schema" : Str), ("WIDEST" : Str)) (prg w).kcs = some (.int 3) := (rfl)
theorem is_Column_Column {w : Nat} : List.lookup (("Column" : Str), ("Column" : Str)) (prg w).isl = some true := (rfl)
theorem is_Schema_Schema {w : Nat} : List.lookup (("Schema" : Str), ("Schema" : Str)) (prg w).isl = some true := (rfl)
theorem ig_Column {w k : Nat} : (ctxOf (prg w) k).isg ("Column" : Str) = true := (rfl)
theorem ig_Schema {w k : Nat} : (ctxOf (prg w) k).isg ("Schema" : Str) = true := (rfl)
theorem exc_BadName {w : Nat} : (prg w).exc.lookup ("BadName" : Str) = some (some [(("name" : Str), true)]) := (rfl)
theorem lab_BadName : (kin.2.filter fun y => decide ((("BadName" : Str), y) ∈ sub)) = [("ValueError" : Str), ("TellError" : Str), ("NameFault" : Str), ("BadName" : Str)] := by decide +kernel
theorem sub_BadName_BadName : decide ((("BadName" : Str), ("BadName" : Str)) ∈ sub) = true := by decide +kernel
theorem sub_BadName_DuplicateName : decide ((("BadName" : Str), ("DuplicateName" : Str)) ∈ sub) = false := by decide +kernel
theorem sub_BadName_UnknownName : decide ((("BadName" : Str), ("UnknownName" : Str)) ∈ sub) = false := by decide +kernel
theorem sub_BadName_BadSpan : decide ((("BadName" : Str), ("BadSpan" : Str)) ∈ sub) = false := by decide +kernel
theorem sub_BadName_BadCount : decide ((("BadName" : Str), ("BadCount" : Str)) ∈ sub) = false := by decide +kernel
theorem fok_BadName_name {w k : Nat} : (ctxOf (prg w) k).fok ("BadName" : Str) ("name" : Str) = true := by
  unfold Ctx.fok
  rw [ctx_exc, exc_BadName]
  decide +kernel
theorem exc_DuplicateName {w : Nat} : (prg w).exc.lookup ("DuplicateName" : Str) = some (some [(("name" : Str), true)]) := (rfl)
theorem lab_DuplicateName : (kin.2.filter fun y => decide ((("DuplicateName" : Str), y) ∈ sub)) = [("ValueError" : Str), ("TellError" : Str), ("NameFault" : Str), ("DuplicateName" : Str)] := by decide +kernel
theorem sub_DuplicateName_BadName : decide ((("DuplicateName" : Str), ("BadName" : Str)) ∈ sub) = false := by decide +kernel
theorem sub_DuplicateName_DuplicateName : decide ((("DuplicateName" : Str), ("DuplicateName" : Str)) ∈ sub) = true := by decide +kernel
theorem sub_DuplicateName_UnknownName : decide ((("DuplicateName" : Str), ("UnknownName" : Str)) ∈ sub) = false := by decide +kernel
theorem sub_DuplicateName_BadSpan : decide ((("DuplicateName" : Str), ("BadSpan" : Str)) ∈ sub) = false := by decide +kernel
theorem sub_DuplicateName_BadCount : decide ((("DuplicateName" : Str), ("BadCount" : Str)) ∈ sub) = false := by decide +kernel
theorem fok_DuplicateName_name {w k : Nat} : (ctxOf (prg w) k).fok ("DuplicateName" : Str) ("name" : Str) = true := by
  unfold Ctx.fok
  rw [ctx_exc, exc_DuplicateName]
  decide +kernel
theorem exc_UnknownName {w : Nat} : (prg w).exc.lookup ("UnknownName" : Str) = some (some [(("name" : Str), true)]) := (rfl)
theorem lab_UnknownName : (kin.2.filter fun y => decide ((("UnknownName" : Str), y) ∈ sub)) = [("ValueError" : Str), ("TellError" : Str), ("NameFault" : Str), ("UnknownName" : Str)] := by decide +kernel
theorem sub_UnknownName_BadName : decide ((("UnknownName" : Str), ("BadName" : Str)) ∈ sub) = false := by decide +kernel
theorem sub_UnknownName_DuplicateName : decide ((("UnknownName" : Str), ("DuplicateName" : Str)) ∈ sub) = false := by decide +kernel
theorem sub_UnknownName_UnknownName : decide ((("UnknownName" : Str), ("UnknownName" : Str)) ∈ sub) = true := by decide +kernel
theorem sub_UnknownName_BadSpan : decide ((("UnknownName" : Str), ("BadSpan" : Str)) ∈ sub) = false := by decide +kernel
theorem sub_UnknownName_BadCount : decide ((("UnknownName" : Str), ("BadCount" : Str)) ∈ sub) = false := by decide +kernel
theorem fok_UnknownName_name {w k : Nat} : (ctxOf (prg w) k).fok ("UnknownName" : Str) ("name" : Str) = true := by
  unfold Ctx.fok
  rw [ctx_exc, exc_UnknownName]
  decide +kernel
theorem exc_BadSpan {w : Nat} : (prg w).exc.lookup ("BadSpan" : Str) = some (some [(("low" : Str), false), (("high" : Str), false)]) := (rfl)
theorem lab_BadSpan : (kin.2.filter fun y => decide ((("BadSpan" : Str), y) ∈ sub)) = [("ValueError" : Str), ("TellError" : Str), ("BadSpan" : Str)] := by decide +kernel
theorem sub_BadSpan_BadName : decide ((("BadSpan" : Str), ("BadName" : Str)) ∈ sub) = false := by decide +kernel
theorem sub_BadSpan_DuplicateName : decide ((("BadSpan" : Str), ("DuplicateName" : Str)) ∈ sub) = false := by decide +kernel
theorem sub_BadSpan_UnknownName : decide ((("BadSpan" : Str), ("UnknownName" : Str)) ∈ sub) = false := by decide +kernel
theorem sub_BadSpan_BadSpan : decide ((("BadSpan" : Str), ("BadSpan" : Str)) ∈ sub) = true := by decide +kernel
theorem sub_BadSpan_BadCount : decide ((("BadSpan" : Str), ("BadCount" : Str)) ∈ sub) = false := by decide +kernel
theorem fok_BadSpan_low {w k : Nat} : (ctxOf (prg w) k).fok ("BadSpan" : Str) ("low" : Str) = true := by
  unfold Ctx.fok
  rw [ctx_exc, exc_BadSpan]
  decide +kernel
theorem fok_BadSpan_high {w k : Nat} : (ctxOf (prg w) k).fok ("BadSpan" : Str) ("high" : Str) = true := by
  unfold Ctx.fok
  rw [ctx_exc, exc_BadSpan]
  decide +kernel
theorem exc_BadCount {w : Nat} : (prg w).exc.lookup ("BadCount" : Str) = some (some [(("number" : Str), false)]) := (rfl)
theorem lab_BadCount : (kin.2.filter fun y => decide ((("BadCount" : Str), y) ∈ sub)) = [("ValueError" : Str), ("TellError" : Str), ("BadCount" : Str)] := by decide +kernel
theorem sub_BadCount_BadName : decide ((("BadCount" : Str), ("BadName" : Str)) ∈ sub) = false := by decide +kernel
theorem sub_BadCount_DuplicateName : decide ((("BadCount" : Str), ("DuplicateName" : Str)) ∈ sub) = false := by decide +kernel
theorem sub_BadCount_UnknownName : decide ((("BadCount" : Str), ("UnknownName" : Str)) ∈ sub) = false := by decide +kernel
theorem sub_BadCount_BadSpan : decide ((("BadCount" : Str), ("BadSpan" : Str)) ∈ sub) = false := by decide +kernel
theorem sub_BadCount_BadCount : decide ((("BadCount" : Str), ("BadCount" : Str)) ∈ sub) = true := by decide +kernel
theorem fok_BadCount_number {w k : Nat} : (ctxOf (prg w) k).fok ("BadCount" : Str) ("number" : Str) = true := by
  unfold Ctx.fok
  rw [ctx_exc, exc_BadCount]
  decide +kernel
def HAS := And.intro @has_is_name <| And.intro @has_check_name <| And.intro @has_law_box <| And.intro @has_law_draw <| And.intro @has_law_same <| And.intro @has_law_name <| And.intro @has_law_names <| And.intro @has_law_columns <| And.intro @has_law_schema <| And.intro @has_law_column <| And.intro @has_law_column_due <| And.intro @has_law_build <| And.intro @has_law_made_of <| And.intro @has_law_made_due <| And.intro @has_law_place <| And.intro @has_law_columns_refused <| And.intro @has_law_changed <| And.intro @has_law_kept <| And.intro @has_law_equal <| And.intro @has_law <| And.intro @has_Column <| And.intro @has_Schema <| And.intro @fk_Column_name <| And.intro @fk_Column_low <| And.intro @fk_Column_high <| And.intro @fo_Column_name <| And.intro @pk_Column_name <| And.intro @pd_Column_name <| And.intro @fo_Column_low <| And.intro @pk_Column_low <| And.intro @pd_Column_low <| And.intro @fo_Column_high <| And.intro @pk_Column_high <| And.intro @pd_Column_high <| And.intro @fk_Schema_columns <| And.intro @fo_Schema_columns <| And.intro @pk_Schema_columns <| And.intro @pd_Schema_columns <| And.intro @ky_Column_eq <| And.intro @ky_Column_eq_low <| And.intro @ky_Schema_eq <| And.intro @ky_Schema_names_prop <| And.intro @ky_Schema_place <| And.intro @kc_Schema_WIDEST <| And.intro @is_Column_Column <| And.intro @is_Schema_Schema <| And.intro @ig_Column @ig_Schema
theorem con_LETTERS {w : Nat} : List.lookup ("LETTERS" : Str) (prg w).con = some (.str "abcdefghijklmnopqrstuvwxyz") := (rfl)
theorem con_REST {w : Nat} : List.lookup ("REST" : Str) (prg w).con = some (.str "abcdefghijklmnopqrstuvwxyz0123456789_") := (rfl)
theorem con_RESERVED {w : Nat} : List.lookup ("RESERVED" : Str) (prg w).con = some (.tup ((["all", "and", "in", "is", "none", "not", "or", "rule"] : List Str).map D.str)) := (rfl)
end Pr

namespace Pr
open PySem L2 Ev
/-! ### the own syntax fits the text -/
theorem sc_is_name : FnScope f_is_name.ns f_is_name.ps d_is_name.scope := ⟨rfl, rfl, rfl, by decide +kernel, rfl, by decide +kernel, by decide +kernel⟩
theorem fit_is_name : fitSs f_is_name.ns d_is_name.scope f_is_name.body d_is_name.body = true := by decide +kernel
theorem sc_check_name : FnScope f_check_name.ns f_check_name.ps d_check_name.scope := ⟨rfl, rfl, rfl, by decide +kernel, rfl, by decide +kernel, by decide +kernel⟩
theorem fit_check_name : fitSs f_check_name.ns d_check_name.scope f_check_name.body d_check_name.body = true := by decide +kernel
theorem sc_Column_init : FnScope f_Column_init.ns f_Column_init.ps d_Column_init.scope := ⟨rfl, rfl, rfl, by decide +kernel, rfl, by decide +kernel, by decide +kernel⟩
theorem fit_Column_init : fitSs f_Column_init.ns d_Column_init.scope f_Column_init.body d_Column_init.body = true := by decide +kernel
theorem sc_Column_eq : FnScope f_Column_eq.ns f_Column_eq.ps d_Column_eq.scope := ⟨rfl, rfl, rfl, by decide +kernel, rfl, by decide +kernel, by decide +kernel⟩
theorem fit_Column_eq : fitSs f_Column_eq.ns d_Column_eq.scope f_Column_eq.body d_Column_eq.body = true := by decide +kernel
theorem sc_Schema_init : FnScope f_Schema_init.ns f_Schema_init.ps d_Schema_init.scope := ⟨rfl, rfl, rfl, by decide +kernel, rfl, by decide +kernel, by decide +kernel⟩
theorem fit_Schema_init : fitSs f_Schema_init.ns d_Schema_init.scope f_Schema_init.body d_Schema_init.body = true := by decide +kernel
theorem sc_Schema_eq : FnScope f_Schema_eq.ns f_Schema_eq.ps d_Schema_eq.scope := ⟨rfl, rfl, rfl, by decide +kernel, rfl, by decide +kernel, by decide +kernel⟩
theorem fit_Schema_eq : fitSs f_Schema_eq.ns d_Schema_eq.scope f_Schema_eq.body d_Schema_eq.body = true := by decide +kernel
theorem sc_Schema_names : FnScope f_Schema_names.ns f_Schema_names.ps d_Schema_names.scope := ⟨rfl, rfl, rfl, by decide +kernel, rfl, by decide +kernel, by decide +kernel⟩
theorem fit_Schema_names : fitSs f_Schema_names.ns d_Schema_names.scope f_Schema_names.body d_Schema_names.body = true := by decide +kernel
theorem sc_Schema_place : FnScope f_Schema_place.ns f_Schema_place.ps d_Schema_place.scope := ⟨rfl, rfl, rfl, by decide +kernel, rfl, by decide +kernel, by decide +kernel⟩
theorem fit_Schema_place : fitSs f_Schema_place.ns d_Schema_place.scope f_Schema_place.body d_Schema_place.body = true := by decide +kernel
theorem sc_law_box : FnScope f_law_box.ns f_law_box.ps d_law_box.scope := ⟨rfl, rfl, rfl, by decide +kernel, rfl, by decide +kernel, by decide +kernel⟩
theorem fit_law_box : fitSs f_law_box.ns d_law_box.scope f_law_box.body d_law_box.body = true := by decide +kernel
theorem sc_law_draw : FnScope f_law_draw.ns f_law_draw.ps d_law_draw.scope := ⟨rfl, rfl, rfl, by decide +kernel, rfl, by decide +kernel, by decide +kernel⟩
theorem fit_law_draw : fitSs f_law_draw.ns d_law_draw.scope f_law_draw.body d_law_draw.body = true := by decide +kernel
theorem sc_law_same : FnScope f_law_same.ns f_law_same.ps d_law_same.scope := ⟨rfl, rfl, rfl, by decide +kernel, rfl, by decide +kernel, by decide +kernel⟩
theorem fit_law_same : fitSs f_law_same.ns d_law_same.scope f_law_same.body d_law_same.body = true := by decide +kernel
theorem sc_law_name : FnScope f_law_name.ns f_law_name.ps d_law_name.scope := ⟨rfl, rfl, rfl, by decide +kernel, rfl, by decide +kernel, by decide +kernel⟩
theorem fit_law_name : fitSs f_law_name.ns d_law_name.scope f_law_name.body d_law_name.body = true := by decide +kernel
theorem sc_law_names : FnScope f_law_names.ns f_law_names.ps d_law_names.scope := ⟨rfl, rfl, rfl, by decide +kernel, rfl, by decide +kernel, by decide +kernel⟩
theorem fit_law_names : fitSs f_law_names.ns d_law_names.scope f_law_names.body d_law_names.body = true := by decide +kernel
theorem sc_law_columns : FnScope f_law_columns.ns f_law_columns.ps d_law_columns.scope := ⟨rfl, rfl, rfl, by decide +kernel, rfl, by decide +kernel, by decide +kernel⟩
theorem fit_law_columns : fitSs f_law_columns.ns d_law_columns.scope f_law_columns.body d_law_columns.body = true := by decide +kernel
theorem sc_law_schema : FnScope f_law_schema.ns f_law_schema.ps d_law_schema.scope := ⟨rfl, rfl, rfl, by decide +kernel, rfl, by decide +kernel, by decide +kernel⟩
theorem fit_law_schema : fitSs f_law_schema.ns d_law_schema.scope f_law_schema.body d_law_schema.body = true := by decide +kernel
theorem sc_law_column : FnScope f_law_column.ns f_law_column.ps d_law_column.scope := ⟨rfl, rfl, rfl, by decide +kernel, rfl, by decide +kernel, by decide +kernel⟩
theorem fit_law_column : fitSs f_law_column.ns d_law_column.scope f_law_column.body d_law_column.body = true := by decide +kernel
theorem sc_law_column_due : FnScope f_law_column_due.ns f_law_column_due.ps d_law_column_due.scope := ⟨rfl, rfl, rfl, by decide +kernel, rfl, by decide +kernel, by decide +kernel⟩
theorem fit_law_column_due : fitSs f_law_column_due.ns d_law_column_due.scope f_law_column_due.body d_law_column_due.body = true := by decide +kernel
theorem sc_law_build : FnScope f_law_build.ns f_law_build.ps d_law_build.scope := ⟨rfl, rfl, rfl, by decide +kernel, rfl, by decide +kernel, by decide +kernel⟩
theorem fit_law_build : fitSs f_law_build.ns d_law_build.scope f_law_build.body d_law_build.body = true := by decide +kernel
theorem sc_law_made_of : FnScope f_law_made_of.ns f_law_made_of.ps d_law_made_of.scope := ⟨rfl, rfl, rfl, by decide +kernel, rfl, by decide +kernel, by decide +kernel⟩
theorem fit_law_made_of : fitSs f_law_made_of.ns d_law_made_of.scope f_law_made_of.body d_law_made_of.body = true := by decide +kernel
theorem sc_law_made_due : FnScope f_law_made_due.ns f_law_made_due.ps d_law_made_due.scope := ⟨rfl, rfl, rfl, by decide +kernel, rfl, by decide +kernel, by decide +kernel⟩
theorem fit_law_made_due : fitSs f_law_made_due.ns d_law_made_due.scope f_law_made_due.body d_law_made_due.body = true := by decide +kernel
theorem sc_law_place : FnScope f_law_place.ns f_law_place.ps d_law_place.scope := ⟨rfl, rfl, rfl, by decide +kernel, rfl, by decide +kernel, by decide +kernel⟩
theorem fit_law_place : fitSs f_law_place.ns d_law_place.scope f_law_place.body d_law_place.body = true := by decide +kernel
theorem sc_law_columns_refused : FnScope f_law_columns_refused.ns f_law_columns_refused.ps d_law_columns_refused.scope := ⟨rfl, rfl, rfl, by decide +kernel, rfl, by decide +kernel, by decide +kernel⟩
theorem fit_law_columns_refused : fitSs f_law_columns_refused.ns d_law_columns_refused.scope f_law_columns_refused.body d_law_columns_refused.body = true := by decide +kernel
theorem sc_law_changed : FnScope f_law_changed.ns f_law_changed.ps d_law_changed.scope := ⟨rfl, rfl, rfl, by decide +kernel, rfl, by decide +kernel, by decide +kernel⟩
theorem fit_law_changed : fitSs f_law_changed.ns d_law_changed.scope f_law_changed.body d_law_changed.body = true := by decide +kernel
theorem sc_law_kept : FnScope f_law_kept.ns f_law_kept.ps d_law_kept.scope := ⟨rfl, rfl, rfl, by decide +kernel, rfl, by decide +kernel, by decide +kernel⟩
theorem fit_law_kept : fitSs f_law_kept.ns d_law_kept.scope f_law_kept.body d_law_kept.body = true := by decide +kernel
theorem sc_law_equal : FnScope f_law_equal.ns f_law_equal.ps d_law_equal.scope := ⟨rfl, rfl, rfl, by decide +kernel, rfl, by decide +kernel, by decide +kernel⟩
theorem fit_law_equal : fitSs f_law_equal.ns d_law_equal.scope f_law_equal.body d_law_equal.body = true := by decide +kernel
theorem sc_law : FnScope f_law.ns f_law.ps d_law.scope := ⟨rfl, rfl, rfl, by decide +kernel, rfl, by decide +kernel, by decide +kernel⟩
theorem fit_law : fitSs f_law.ns d_law.scope f_law.body d_law.body = true := by decide +kernel
/-! ### the facts of the head -/
abbrev RR : PySem.W.OpenRow := PySem.W.OpenLaw.row PySem.Challenge.rw_errortells_k05_columns_and_schemas
abbrev hk : PySem.W.Hook := hookX 5 cs fn pn bx
def ob (s : PySem.W.SharedT) : He.AlD := obsXG 5 cs fn pn bx (HandSHeadRun.getT s)
theorem ob_eq (s : PySem.W.SharedT) : ob s = hk.obs s.abs := obsXG_eq (HandSHeadRun.getT_eq s)
def loose : List PySem.Str := [("TellError" : PySem.Str), ("NameFault" : PySem.Str), ("BadName" : PySem.Str), ("DuplicateName" : PySem.Str), ("UnknownName" : PySem.Str), ("BadSpan" : PySem.Str), ("BadCount" : PySem.Str), ("BadLimit" : PySem.Str), ("BadLevel" : PySem.Str), ("BadChoice" : PySem.Str), ("BadRow" : PySem.Str), ("BadPlace" : PySem.Str), ("BadText" : PySem.Str), ("BadProgram" : PySem.Str), ("BadChange" : PySem.Str), ("OtherSchema" : PySem.Str), ("OrderFault" : PySem.Str), ("BadOrder" : PySem.Str), ("NotSilent" : PySem.Str), ("PinRing" : PySem.Str), ("NoPin" : PySem.Str), ("NotHidden" : PySem.Str), ("Refused" : PySem.Str), ("LETTERS" : PySem.Str), ("REST" : PySem.Str), ("RESERVED" : PySem.Str), ("is_name" : PySem.Str), ("_check_name" : PySem.Str), ("Column" : PySem.Str), ("Schema" : PySem.Str), ("_law_box" : PySem.Str), ("_law_draw" : PySem.Str), ("_law_same" : PySem.Str), ("_law_name" : PySem.Str), ("_law_names" : PySem.Str), ("_law_columns" : PySem.Str), ("_law_schema" : PySem.Str), ("_law_kinds" : PySem.Str), ("_law_column" : PySem.Str), ("_law_column_due" : PySem.Str), ("_law_build" : PySem.Str), ("_law_made_of" : PySem.Str), ("_law_made_due" : PySem.Str), ("_law_place" : PySem.Str), ("_law_columns_refused" : PySem.Str), ("_law_changed" : PySem.Str), ("_law_kept" : PySem.Str), ("_law_equal" : PySem.Str)]
theorem run (w : World) : HandSHeadRun.RunEq RR (PySem.W.view RR.prog [51]) hk ob 30000 loose w := by
  intro os
  kernel_rfl
theorem good {K : PySem.W.Frag} {h : Heap} {mg : Str → Option Value} (X : K.In h) (G : h.Ns mainGlobals mg) (c : SaysX cs fn pn bx K) (w : Nat) : ∀ f F, (prg w).fns.lookup f = some F → ∃ d, dtab.lookup f = some d ∧ Good K mg F d.2 (aOf K d) := by
  intro f F e
  have hm := PySem.mem_of_lookup e
  simp only [prg, List.mem_cons, Prod.mk.injEq, List.not_mem_nil, or_false] at hm
  rcases hm with ⟨rfl, rfl⟩ | ⟨rfl, rfl⟩ | ⟨rfl, rfl⟩ | ⟨rfl, rfl⟩ | ⟨rfl, rfl⟩ | ⟨rfl, rfl⟩ | ⟨rfl, rfl⟩ | ⟨rfl, rfl⟩ | ⟨rfl, rfl⟩ | ⟨rfl, rfl⟩ | ⟨rfl, rfl⟩ | ⟨rfl, rfl⟩ | ⟨rfl, rfl⟩ | ⟨rfl, rfl⟩ | ⟨rfl, rfl⟩ | ⟨rfl, rfl⟩ | ⟨rfl, rfl⟩ | ⟨rfl, rfl⟩ | ⟨rfl, rfl⟩ | ⟨rfl, rfl⟩ | ⟨rfl, rfl⟩ | ⟨rfl, rfl⟩ | ⟨rfl, rfl⟩ | ⟨rfl, rfl⟩ | ⟨rfl, rfl⟩ | ⟨rfl, rfl⟩
  · obtain ⟨fd, FD⟩ := c.def_ (i := 0) (d := d_is_name) rfl
    exact ⟨(false, d_is_name), rfl, ⟨fd, FD, FunD.bindsN FD fun _ _ _ _ _ _ us hl => match us, hl with | [_], _ => rfl⟩, (fun _ => c.glo X G (d := d_is_name) (by simp [fn]) rfl), sc_is_name, fit_is_name⟩
  · obtain ⟨fd, FD⟩ := c.def_ (i := 1) (d := d_check_name) rfl
    exact ⟨(false, d_check_name), rfl, ⟨fd, FD, FunD.bindsN FD fun _ _ _ _ _ _ us hl => match us, hl with | [_], _ => rfl⟩, (fun _ => c.glo X G (d := d_check_name) (by simp [fn]) rfl), sc_check_name, fit_check_name⟩
  · obtain ⟨fd, FD⟩ := c.def_ (i := 2) (d := d_Column_init) rfl
    exact ⟨(false, d_Column_init), rfl, ⟨fd, FD, FunD.bindsN FD fun _ _ _ _ _ _ us hl => match us, hl with | [_, _, _, _], _ => rfl⟩, (fun h => by cases h), sc_Column_init, fit_Column_init⟩
  · obtain ⟨fd, FD⟩ := c.def_ (i := 3) (d := d_Column_eq) rfl
    exact ⟨(false, d_Column_eq), rfl, ⟨fd, FD, FunD.bindsN FD fun _ _ _ _ _ _ us hl => match us, hl with | [_, _], _ => rfl⟩, (fun h => by cases h), sc_Column_eq, fit_Column_eq⟩
  · obtain ⟨fd, FD⟩ := c.def_ (i := 4) (d := d_Schema_init) rfl
    refine ⟨(false, d_Schema_init), rfl, ⟨fd, FD, ?_⟩, (fun h => by cases h), sc_Schema_init, fit_Schema_init⟩
    obtain ⟨oc, od, dV, kV, doc, pm, an, cdv, ct, osl, rfl, _, _, hD, _⟩ := FD.ex
    rcases hD with ⟨_, rfl⟩ | ⟨e, _⟩
    · exact ⟨["self"], "columns", rfl, fun us rest h => match us, h with | [_], _ => (match rest with | [] => rfl | _ :: _ => rfl)⟩
    · exact absurd rfl e
  · obtain ⟨fd, FD⟩ := c.def_ (i := 5) (d := d_Schema_eq) rfl
    exact ⟨(false, d_Schema_eq), rfl, ⟨fd, FD, FunD.bindsN FD fun _ _ _ _ _ _ us hl => match us, hl with | [_, _], _ => rfl⟩, (fun h => by cases h), sc_Schema_eq, fit_Schema_eq⟩
  · obtain ⟨fd, FD⟩ := c.pro_ (i := 0) (d := d_Schema_names) rfl
    exact ⟨(true, d_Schema_names), rfl, ⟨fd, FD, FunD.bindsN FD fun _ _ _ _ _ _ us hl => match us, hl with | [_], _ => rfl⟩, (fun h => by cases h), sc_Schema_names, fit_Schema_names⟩
  · obtain ⟨fd, FD⟩ := c.def_ (i := 6) (d := d_Schema_place) rfl
    exact ⟨(false, d_Schema_place), rfl, ⟨fd, FD, FunD.bindsN FD fun _ _ _ _ _ _ us hl => match us, hl with | [_, _], _ => rfl⟩, (fun h => by cases h), sc_Schema_place, fit_Schema_place⟩
  · obtain ⟨fd, FD⟩ := c.def_ (i := 7) (d := d_law_box) rfl
    exact ⟨(false, d_law_box), rfl, ⟨fd, FD, FunD.bindsN FD fun _ _ _ _ _ _ us hl => match us, hl with | [_], _ => rfl⟩, (fun _ => c.glo X G (d := d_law_box) (by simp [fn]) rfl), sc_law_box, fit_law_box⟩
  · obtain ⟨fd, FD⟩ := c.def_ (i := 8) (d := d_law_draw) rfl
    exact ⟨(false, d_law_draw), rfl, ⟨fd, FD, FunD.bindsN FD fun _ _ _ _ _ _ us hl => match us, hl with | [_, _], _ => rfl⟩, (fun _ => c.glo X G (d := d_law_draw) (by simp [fn]) rfl), sc_law_draw, fit_law_draw⟩
  · obtain ⟨fd, FD⟩ := c.def_ (i := 9) (d := d_law_same) rfl
    exact ⟨(false, d_law_same), rfl, ⟨fd, FD, FunD.bindsN FD fun _ _ _ _ _ _ us hl => match us, hl with | [_, _], _ => rfl⟩, (fun _ => c.glo X G (d := d_law_same) (by simp [fn]) rfl), sc_law_same, fit_law_same⟩
  · obtain ⟨fd, FD⟩ := c.def_ (i := 10) (d := d_law_name) rfl
    exact ⟨(false, d_law_name), rfl, ⟨fd, FD, FunD.bindsN FD fun _ _ _ _ _ _ us hl => match us, hl with | [_, _], _ => rfl⟩, (fun _ => c.glo X G (d := d_law_name) (by simp [fn]) rfl), sc_law_name, fit_law_name⟩
  · obtain ⟨fd, FD⟩ := c.def_ (i := 11) (d := d_law_names) rfl
    exact ⟨(false, d_law_names), rfl, ⟨fd, FD, FunD.bindsN FD fun _ _ _ _ _ _ us hl => match us, hl with | [_, _], _ => rfl⟩, (fun _ => c.glo X G (d := d_law_names) (by simp [fn]) rfl), sc_law_names, fit_law_names⟩
  · obtain ⟨fd, FD⟩ := c.def_ (i := 12) (d := d_law_columns) rfl
    exact ⟨(false, d_law_columns), rfl, ⟨fd, FD, FunD.bindsN FD fun _ _ _ _ _ _ us hl => match us, hl with | [_, _], _ => rfl⟩, (fun _ => c.glo X G (d := d_law_columns) (by simp [fn]) rfl), sc_law_columns, fit_law_columns⟩
  · obtain ⟨fd, FD⟩ := c.def_ (i := 13) (d := d_law_schema) rfl
    exact ⟨(false, d_law_schema), rfl, ⟨fd, FD, FunD.bindsN FD fun _ _ _ _ _ _ us hl => match us, hl with | [_], _ => rfl⟩, (fun _ => c.glo X G (d := d_law_schema) (by simp [fn]) rfl), sc_law_schema, fit_law_schema⟩
  · obtain ⟨fd, FD⟩ := c.def_ (i := 14) (d := d_law_column) rfl
    exact ⟨(false, d_law_column), rfl, ⟨fd, FD, FunD.bindsN FD fun _ _ _ _ _ _ us hl => match us, hl with | [_, _, _], _ => rfl⟩, (fun _ => c.glo X G (d := d_law_column) (by simp [fn]) rfl), sc_law_column, fit_law_column⟩
  · obtain ⟨fd, FD⟩ := c.def_ (i := 15) (d := d_law_column_due) rfl
    exact ⟨(false, d_law_column_due), rfl, ⟨fd, FD, FunD.bindsN FD fun _ _ _ _ _ _ us hl => match us, hl with | [_, _, _, _], _ => rfl⟩, (fun _ => c.glo X G (d := d_law_column_due) (by simp [fn]) rfl), sc_law_column_due, fit_law_column_due⟩
  · obtain ⟨fd, FD⟩ := c.def_ (i := 16) (d := d_law_build) rfl
    exact ⟨(false, d_law_build), rfl, ⟨fd, FD, FunD.bindsN FD fun _ _ _ _ _ _ us hl => match us, hl with | [_], _ => rfl⟩, (fun _ => c.glo X G (d := d_law_build) (by simp [fn]) rfl), sc_law_build, fit_law_build⟩
  · obtain ⟨fd, FD⟩ := c.def_ (i := 17) (d := d_law_made_of) rfl
    exact ⟨(false, d_law_made_of), rfl, ⟨fd, FD, FunD.bindsN FD fun _ _ _ _ _ _ us hl => match us, hl with | [_], _ => rfl⟩, (fun _ => c.glo X G (d := d_law_made_of) (by simp [fn]) rfl), sc_law_made_of, fit_law_made_of⟩
  · obtain ⟨fd, FD⟩ := c.def_ (i := 18) (d := d_law_made_due) rfl
    exact ⟨(false, d_law_made_due), rfl, ⟨fd, FD, FunD.bindsN FD fun _ _ _ _ _ _ us hl => match us, hl with | [_], _ => rfl⟩, (fun _ => c.glo X G (d := d_law_made_due) (by simp [fn]) rfl), sc_law_made_due, fit_law_made_due⟩
  · obtain ⟨fd, FD⟩ := c.def_ (i := 19) (d := d_law_place) rfl
    exact ⟨(false, d_law_place), rfl, ⟨fd, FD, FunD.bindsN FD fun _ _ _ _ _ _ us hl => match us, hl with | [_, _], _ => rfl⟩, (fun _ => c.glo X G (d := d_law_place) (by simp [fn]) rfl), sc_law_place, fit_law_place⟩
  · obtain ⟨fd, FD⟩ := c.def_ (i := 20) (d := d_law_columns_refused) rfl
    exact ⟨(false, d_law_columns_refused), rfl, ⟨fd, FD, FunD.bindsN FD fun _ _ _ _ _ _ us hl => match us, hl with | [_, _, _], _ => rfl⟩, (fun _ => c.glo X G (d := d_law_columns_refused) (by simp [fn]) rfl), sc_law_columns_refused, fit_law_columns_refused⟩
  · obtain ⟨fd, FD⟩ := c.def_ (i := 21) (d := d_law_changed) rfl
    exact ⟨(false, d_law_changed), rfl, ⟨fd, FD, FunD.bindsN FD fun _ _ _ _ _ _ us hl => match us, hl with | [_, _], _ => rfl⟩, (fun _ => c.glo X G (d := d_law_changed) (by simp [fn]) rfl), sc_law_changed, fit_law_changed⟩
  · obtain ⟨fd, FD⟩ := c.def_ (i := 22) (d := d_law_kept) rfl
    exact ⟨(false, d_law_kept), rfl, ⟨fd, FD, FunD.bindsN FD fun _ _ _ _ _ _ us hl => match us, hl with | [_, _], _ => rfl⟩, (fun _ => c.glo X G (d := d_law_kept) (by simp [fn]) rfl), sc_law_kept, fit_law_kept⟩
  · obtain ⟨fd, FD⟩ := c.def_ (i := 23) (d := d_law_equal) rfl
    exact ⟨(false, d_law_equal), rfl, ⟨fd, FD, FunD.bindsN FD fun _ _ _ _ _ _ us hl => match us, hl with | [_, _, _, _], _ => rfl⟩, (fun _ => c.glo X G (d := d_law_equal) (by simp [fn]) rfl), sc_law_equal, fit_law_equal⟩
  · obtain ⟨fd, FD⟩ := c.def_ (i := 24) (d := d_law) rfl
    exact ⟨(false, d_law), rfl, ⟨fd, FD, FunD.bindsN FD fun _ _ _ _ _ _ us hl => match us, hl with | [_], _ => rfl⟩, (fun _ => c.glo X G (d := d_law) (by simp [fn]) rfl), sc_law, fit_law⟩
theorem inis {K : PySem.W.Frag} {h : Heap} {mg : Str → Option Value} (X : K.In h) (G : h.Ns mainGlobals mg) (c : SaysX cs fn pn bx K) : ∀ d ps di sf B, d ∈ xs → d.own = some (ps, di, sf, B) → IniT K ps di sf B := by
  intro d ps di sf B hd ho
  simp only [xs, List.mem_cons, List.not_mem_nil, or_false] at hd
  rcases hd with rfl | rfl | rfl | rfl | rfl
  · simp only [Option.some.injEq, Prod.mk.injEq] at ho
    obtain ⟨rfl, rfl, rfl, rfl⟩ := ho
    obtain ⟨fd, FD⟩ := c.def_ (i := 26) (d := d_BadName_init) rfl
    exact ⟨⟨fd, FD, FunD.bindsN FD fun _ _ _ _ _ _ us hl => match us, hl with | [_, _], _ => rfl⟩, ⟨rfl, rfl, rfl, by decide +kernel, rfl, by decide +kernel, by decide +kernel⟩, by decide, by simp, by decide +kernel⟩
  · simp only [Option.some.injEq, Prod.mk.injEq] at ho
    obtain ⟨rfl, rfl, rfl, rfl⟩ := ho
    obtain ⟨fd, FD⟩ := c.def_ (i := 27) (d := d_DuplicateName_init) rfl
    exact ⟨⟨fd, FD, FunD.bindsN FD fun _ _ _ _ _ _ us hl => match us, hl with | [_, _], _ => rfl⟩, ⟨rfl, rfl, rfl, by decide +kernel, rfl, by decide +kernel, by decide +kernel⟩, by decide, by simp, by decide +kernel⟩
  · simp only [Option.some.injEq, Prod.mk.injEq] at ho
    obtain ⟨rfl, rfl, rfl, rfl⟩ := ho
    obtain ⟨fd, FD⟩ := c.def_ (i := 28) (d := d_UnknownName_init) rfl
    exact ⟨⟨fd, FD, FunD.bindsN FD fun _ _ _ _ _ _ us hl => match us, hl with | [_, _], _ => rfl⟩, ⟨rfl, rfl, rfl, by decide +kernel, rfl, by decide +kernel, by decide +kernel⟩, by decide, by simp, by decide +kernel⟩
  · simp only [Option.some.injEq, Prod.mk.injEq] at ho
    obtain ⟨rfl, rfl, rfl, rfl⟩ := ho
    obtain ⟨fd, FD⟩ := c.def_ (i := 29) (d := d_BadSpan_init) rfl
    exact ⟨⟨fd, FD, FunD.bindsN FD fun _ _ _ _ _ _ us hl => match us, hl with | [_, _, _], _ => rfl⟩, ⟨rfl, rfl, rfl, by decide +kernel, rfl, by decide +kernel, by decide +kernel⟩, by decide, by simp, by decide +kernel⟩
  · simp only [Option.some.injEq, Prod.mk.injEq] at ho
    obtain ⟨rfl, rfl, rfl, rfl⟩ := ho
    obtain ⟨fd, FD⟩ := c.def_ (i := 30) (d := d_BadCount_init) rfl
    exact ⟨⟨fd, FD, FunD.bindsN FD fun _ _ _ _ _ _ us hl => match us, hl with | [_, _], _ => rfl⟩, ⟨rfl, rfl, rfl, by decide +kernel, rfl, by decide +kernel, by decide +kernel⟩, by decide, by simp, by decide +kernel⟩
theorem kins {K : PySem.W.Frag} {h : Heap} {mg : Str → Option Value} (X : K.In h) (G : h.Ns mainGlobals mg) (c : SaysX cs fn pn bx K) : xs ≠ [] → KinT K kin d_law_kinds "_law_e" "_law_found" ∧ mg kin.1 = some (.ref (He.fAd K (He.DefD.at_ d_law_kinds))) := by
  intro _
  obtain ⟨fd, FD⟩ := c.def_ (i := 25) (d := d_law_kinds) rfl
  exact ⟨⟨⟨fd, FD, FunD.bindsN FD fun _ _ _ _ _ _ us hl => match us, hl with | [_], _ => rfl⟩, ⟨rfl, rfl, rfl, by decide +kernel, rfl, by decide +kernel, by decide +kernel⟩, by decide +kernel, by decide⟩, c.glo X G (d := d_law_kinds) (by simp [fn]) rfl⟩
theorem facts {P : Program} {w : World} {K : PySem.W.Frag} {h : Heap} {mg : Str → Option Value} {f : Addr} (X : K.In h) (G : h.Ns mainGlobals mg) (hfa : mg ("law" : Str) = some (.ref f)) (c : SaysX cs fn pn bx K) (wn k : Nat)
    (H : ∀ ns : List Int, ns.length ≤ 63 → ∃ S', callN (prg wn) (k + 1) "law" "law" [.fl (ns.map .int)] [] = .ok (.bl true) S') :
    ∃ fd : FuncData, (∀ (s : Shared) (v : Value), BindsTo s fd ⟨[v], []⟩ [("_law_script", v)]) ∧ ∀ base : Heap, K.In base → base.Ns mainGlobals mg → FnOk P w K mg base CX0 (k + 1) f fd ["_law_script"] (spLaw K) := by
  have fr : ∀ x, x ∈ nameFree → mg x = none := fun x hx => c.free X G hx
  have W : ∀ (base : Heap) (k : Nat), WldF (prg wn) k P w K mg base := fun base k => wld_all (hds_of (xs := xs) (dk := d_law_kinds) (e := "_law_e") (f := "_law_found") X G fr (c.con X G) rfl (show excB xs (prg wn).sub (prg wn).kin K = true from (He.ba c.more).1) (inis X G c) (kins X G c)) (keys_of (ds := dtab) (cds := cds) X G (good X G c wn) rfl rfl rfl (by kernel_rfl) (He.ba c.more).2) k
  obtain ⟨fd, FD⟩ := c.def_ (i := 24) (d := d_law) rfl
  have e := hfa.symm.trans (c.glo X G (d := d_law) (by simp [fn]) rfl)
  cases e
  have hl : (prg wn).fns.lookup ("law" : Str) = some f_law := rfl
  have b := FunD.bindsA (ps := ["_law_script"]) FD fun _ _ _ _ _ _ us hl => match us, hl with | [_], _ => rfl
  have b2 := FunD.bindsN (ps := ["_law_script"]) FD fun _ _ _ _ _ _ us hl => match us, hl with | [_], _ => rfl
  refine ⟨fd, fun s v => b s [v] rfl, fun base _ _ => ?_⟩
  have g := fn_good (f := "law") (W base k) hl rfl ⟨⟨fd, FD, b2⟩, (fun _ => c.glo X G (d := d_law) (by simp [fn]) rfl), sc_law, fit_law⟩ FD
  exact calm_ok (FnOk.imp g (law_sp H)) fun _ _ _ _ h => h
end Pr

namespace Pr
open PySem L2 Ev
variable {w k : Nat} {S : Sto} {b : Nat}
theorem pow_10_18 (S : Sto) : binD .pow (.int 10) (.int 18) S = .ok (.int 1000000000000000000) S := rfl
theorem draw_run {size : Int} (hb : BoxAt S b) (h0 : 0 < size) (h1 : size < 2 ^ 250) :
    ∃ r o, callN (prg w) (k + 1) "_law_draw" "_law_draw" [.ref b, .int size] S = .ok (.int r) (S.set b o) ∧ IsBox o ∧ 0 ≤ r ∧ r < size := by
  obtain ⟨o, ho, sc, p, c, l, g, rfl, hp⟩ := hb.ex
  -- behind the first if
  have tail : ∀ (S1 : Sto) (c l g p : Int), 0 ≤ p → S1[b]? = some (boxO sc p c l g) → ∃ r o, (evSs (ctxOf (prg w) k) (match b_law_draw with | .cons _ t => t | _ => .nil) [some (.ref b), some (.int size), none, none] S1).bind retK = .ok (.int r) (S1.set b o) ∧ IsBox o ∧ 0 ≤ r ∧ r < size := by
    intro S1 c l g p hp h
    simp only [b_law_draw]
    unfold boxO at h
    have m1 := fun x => cmul_r (i := x) (j := 48271) (by decide)
    have m2 := fun x => cmul_r (i := x) (j := 69621) (by decide)
    have m3 := fun x => cmul_r (i := x) (j := 16807) (by decide)
    have m4 := fun x => cmul_r (i := x) (j := 40692) (by decide)
    have g1 := get_set (o' := .lst [.lv (sc.map .int), .int p, .int c, .int (l - 1), .int g]) h
    simp only [eE_var, varK_s, eE_glob, eE_ty, eE_int, eE_str, eE_bl, eE_non, eE_bin, eE_binM, eE_cmp, eE_ix, k2_ap, eE_neg, negK_i, eE_not, notK_b, eE_chain, chK1_ap, chK3_ap, chK2_t, chK2_f, eE_and1, eE_or1, eE_and2, andK_t, andK_f, eE_or2, orK_t, orK_f, eE_ife, iteK_t, iteK_f, eE_tup, eE_lst, eE_lstM, tupK_1, tupK_2, lstK_0, lstK_1, eE_sl, slK1_ap, slK2_ap, part_no, eE_call, eE_blt, eE_bltM, bltMK_ap, thaw_lv, eE_meth, eE_lcS, eE_lcR, eE_frz, eE_rev, rev_lv, eEs_nil, eEs_cons, consK_ap, cnsK_ap, eSs_nil, eSs_cons, eS_asg, asgK_nm, eS_seti, stK1_ap, stK2_ap, stK3_ap, stK4_ap, eS_expr, expK_ap, eS_ret, rtK_ap, eS_ifs, eS_forS, eS_forR, eS_whl, eS_pass, eS_ctn, eS_brk, eS_retN, R.bind_ok, R.bindC_ok, gd_t, seqK_nx, seqK_rt, seqK_bk, seqK_ct, loopK_nx, loopK_rt, loopK_bk, loopK_ct, retK_nx, retK_rt, tr_bl, add_int, sub_int, cmp_eq_int, cmp_eq_str, cmp_eq_bl, cmp_ne_int, cmp_ne_str, cmp_lt_int, cmp_le_int, cmp_gt_int, cmp_ge_int, int_int, int_bl, abs_int, len_lv, len_tup, List.getElem?_cons_zero, List.getElem?_cons_succ, List.set_cons_zero, List.set_cons_succ, E.isNop, List.set_set, ctx_call, ofOpt_some, in_sign, nin_sign, all_lv, any_lv, part_f, partK_i, ix_ref h ix5_3, seti_ref h (show ixN 5 3 = some 3 from rfl), ix_ref g1 ix5_4]
    by_cases hg : g = 1
    · subst hg
      have g2 := get_set (o' := .lst [.lv (sc.map .int), .int p, .int (c / size), .int (l - 1), .int 1]) h
      simp only [eE_var, varK_s, eE_glob, eE_ty, eE_int, eE_str, eE_bl, eE_non, eE_bin, eE_binM, eE_cmp, eE_ix, k2_ap, eE_neg, negK_i, eE_not, notK_b, eE_chain, chK1_ap, chK3_ap, chK2_t, chK2_f, eE_and1, eE_or1, eE_and2, andK_t, andK_f, eE_or2, orK_t, orK_f, eE_ife, iteK_t, iteK_f, eE_tup, eE_lst, eE_lstM, tupK_1, tupK_2, lstK_0, lstK_1, eE_sl, slK1_ap, slK2_ap, part_no, eE_call, eE_blt, eE_bltM, bltMK_ap, thaw_lv, eE_meth, eE_lcS, eE_lcR, eE_frz, eE_rev, rev_lv, eEs_nil, eEs_cons, consK_ap, cnsK_ap, eSs_nil, eSs_cons, eS_asg, asgK_nm, eS_seti, stK1_ap, stK2_ap, stK3_ap, stK4_ap, eS_expr, expK_ap, eS_ret, rtK_ap, eS_ifs, eS_forS, eS_forR, eS_whl, eS_pass, eS_ctn, eS_brk, eS_retN, R.bind_ok, R.bindC_ok, gd_t, seqK_nx, seqK_rt, seqK_bk, seqK_ct, loopK_nx, loopK_rt, loopK_bk, loopK_ct, retK_nx, retK_rt, tr_bl, add_int, sub_int, cmp_eq_int, cmp_eq_str, cmp_eq_bl, cmp_ne_int, cmp_ne_str, cmp_lt_int, cmp_le_int, cmp_gt_int, cmp_ge_int, int_int, int_bl, abs_int, len_lv, len_tup, List.getElem?_cons_zero, List.getElem?_cons_succ, List.set_cons_zero, List.set_cons_succ, E.isNop, List.set_set, ctx_call, ofOpt_some, in_sign, nin_sign, all_lv, any_lv, part_f, partK_i, decide_true, ix_ref g1 ix5_2, mod_int h0, fdiv_int h0 (log2_small h0 h1), seti_ref g1 (show ixN 5 2 = some 2 from rfl), ix_ref g2 ix5_2]
      by_cases hc : c / size = 0
      · simp only [eE_var, varK_s, eE_glob, eE_ty, eE_int, eE_str, eE_bl, eE_non, eE_bin, eE_binM, eE_cmp, eE_ix, k2_ap, eE_neg, negK_i, eE_not, notK_b, eE_chain, chK1_ap, chK3_ap, chK2_t, chK2_f, eE_and1, eE_or1, eE_and2, andK_t, andK_f, eE_or2, orK_t, orK_f, eE_ife, iteK_t, iteK_f, eE_tup, eE_lst, eE_lstM, tupK_1, tupK_2, lstK_0, lstK_1, eE_sl, slK1_ap, slK2_ap, part_no, eE_call, eE_blt, eE_bltM, bltMK_ap, thaw_lv, eE_meth, eE_lcS, eE_lcR, eE_frz, eE_rev, rev_lv, eEs_nil, eEs_cons, consK_ap, cnsK_ap, eSs_nil, eSs_cons, eS_asg, asgK_nm, eS_seti, stK1_ap, stK2_ap, stK3_ap, stK4_ap, eS_expr, expK_ap, eS_ret, rtK_ap, eS_ifs, eS_forS, eS_forR, eS_whl, eS_pass, eS_ctn, eS_brk, eS_retN, R.bind_ok, R.bindC_ok, gd_t, seqK_nx, seqK_rt, seqK_bk, seqK_ct, loopK_nx, loopK_rt, loopK_bk, loopK_ct, retK_nx, retK_rt, tr_bl, add_int, sub_int, cmp_eq_int, cmp_eq_str, cmp_eq_bl, cmp_ne_int, cmp_ne_str, cmp_lt_int, cmp_le_int, cmp_gt_int, cmp_ge_int, int_int, int_bl, abs_int, len_lv, len_tup, List.getElem?_cons_zero, List.getElem?_cons_succ, List.set_cons_zero, List.set_cons_succ, E.isNop, List.set_set, ctx_call, ofOpt_some, in_sign, nin_sign, all_lv, any_lv, part_f, partK_i, hc, decide_true]
        rw [hc] at g2
        simp only [eE_var, varK_s, eE_glob, eE_ty, eE_int, eE_str, eE_bl, eE_non, eE_bin, eE_binM, eE_cmp, eE_ix, k2_ap, eE_neg, negK_i, eE_not, notK_b, eE_chain, chK1_ap, chK3_ap, chK2_t, chK2_f, eE_and1, eE_or1, eE_and2, andK_t, andK_f, eE_or2, orK_t, orK_f, eE_ife, iteK_t, iteK_f, eE_tup, eE_lst, eE_lstM, tupK_1, tupK_2, lstK_0, lstK_1, eE_sl, slK1_ap, slK2_ap, part_no, eE_call, eE_blt, eE_bltM, bltMK_ap, thaw_lv, eE_meth, eE_lcS, eE_lcR, eE_frz, eE_rev, rev_lv, eEs_nil, eEs_cons, consK_ap, cnsK_ap, eSs_nil, eSs_cons, eS_asg, asgK_nm, eS_seti, stK1_ap, stK2_ap, stK3_ap, stK4_ap, eS_expr, expK_ap, eS_ret, rtK_ap, eS_ifs, eS_forS, eS_forR, eS_whl, eS_pass, eS_ctn, eS_brk, eS_retN, R.bind_ok, R.bindC_ok, gd_t, seqK_nx, seqK_rt, seqK_bk, seqK_ct, loopK_nx, loopK_rt, loopK_bk, loopK_ct, retK_nx, retK_rt, tr_bl, add_int, sub_int, cmp_eq_int, cmp_eq_str, cmp_eq_bl, cmp_ne_int, cmp_ne_str, cmp_lt_int, cmp_le_int, cmp_gt_int, cmp_ge_int, int_int, int_bl, abs_int, len_lv, len_tup, List.getElem?_cons_zero, List.getElem?_cons_succ, List.set_cons_zero, List.set_cons_succ, E.isNop, List.set_set, ctx_call, ofOpt_some, in_sign, nin_sign, all_lv, any_lv, part_f, partK_i, seti_ref g2 (show ixN 5 3 = some 3 from rfl), List.set_set]
        exact ⟨_, _, rfl, ⟨sc, p, 0, 0, 1, rfl, hp⟩, Int.emod_nonneg _ (by omega), Int.emod_lt_of_pos _ h0⟩
      · simp only [eE_var, varK_s, eE_glob, eE_ty, eE_int, eE_str, eE_bl, eE_non, eE_bin, eE_binM, eE_cmp, eE_ix, k2_ap, eE_neg, negK_i, eE_not, notK_b, eE_chain, chK1_ap, chK3_ap, chK2_t, chK2_f, eE_and1, eE_or1, eE_and2, andK_t, andK_f, eE_or2, orK_t, orK_f, eE_ife, iteK_t, iteK_f, eE_tup, eE_lst, eE_lstM, tupK_1, tupK_2, lstK_0, lstK_1, eE_sl, slK1_ap, slK2_ap, part_no, eE_call, eE_blt, eE_bltM, bltMK_ap, thaw_lv, eE_meth, eE_lcS, eE_lcR, eE_frz, eE_rev, rev_lv, eEs_nil, eEs_cons, consK_ap, cnsK_ap, eSs_nil, eSs_cons, eS_asg, asgK_nm, eS_seti, stK1_ap, stK2_ap, stK3_ap, stK4_ap, eS_expr, expK_ap, eS_ret, rtK_ap, eS_ifs, eS_forS, eS_forR, eS_whl, eS_pass, eS_ctn, eS_brk, eS_retN, R.bind_ok, R.bindC_ok, gd_t, seqK_nx, seqK_rt, seqK_bk, seqK_ct, loopK_nx, loopK_rt, loopK_bk, loopK_ct, retK_nx, retK_rt, tr_bl, add_int, sub_int, cmp_eq_int, cmp_eq_str, cmp_eq_bl, cmp_ne_int, cmp_ne_str, cmp_lt_int, cmp_le_int, cmp_gt_int, cmp_ge_int, int_int, int_bl, abs_int, len_lv, len_tup, List.getElem?_cons_zero, List.getElem?_cons_succ, List.set_cons_zero, List.set_cons_succ, E.isNop, List.set_set, ctx_call, ofOpt_some, in_sign, nin_sign, all_lv, any_lv, part_f, partK_i, hc, decide_false, List.set_set]
        exact ⟨_, _, rfl, ⟨sc, p, _, _, 1, rfl, hp⟩, Int.emod_nonneg _ (by omega), Int.emod_lt_of_pos _ h0⟩
    · simp only [eE_var, varK_s, eE_glob, eE_ty, eE_int, eE_str, eE_bl, eE_non, eE_bin, eE_binM, eE_cmp, eE_ix, k2_ap, eE_neg, negK_i, eE_not, notK_b, eE_chain, chK1_ap, chK3_ap, chK2_t, chK2_f, eE_and1, eE_or1, eE_and2, andK_t, andK_f, eE_or2, orK_t, orK_f, eE_ife, iteK_t, iteK_f, eE_tup, eE_lst, eE_lstM, tupK_1, tupK_2, lstK_0, lstK_1, eE_sl, slK1_ap, slK2_ap, part_no, eE_call, eE_blt, eE_bltM, bltMK_ap, thaw_lv, eE_meth, eE_lcS, eE_lcR, eE_frz, eE_rev, rev_lv, eEs_nil, eEs_cons, consK_ap, cnsK_ap, eSs_nil, eSs_cons, eS_asg, asgK_nm, eS_seti, stK1_ap, stK2_ap, stK3_ap, stK4_ap, eS_expr, expK_ap, eS_ret, rtK_ap, eS_ifs, eS_forS, eS_forR, eS_whl, eS_pass, eS_ctn, eS_brk, eS_retN, R.bind_ok, R.bindC_ok, gd_t, seqK_nx, seqK_rt, seqK_bk, seqK_ct, loopK_nx, loopK_rt, loopK_bk, loopK_ct, retK_nx, retK_rt, tr_bl, add_int, sub_int, cmp_eq_int, cmp_eq_str, cmp_eq_bl, cmp_ne_int, cmp_ne_str, cmp_lt_int, cmp_le_int, cmp_gt_int, cmp_ge_int, int_int, int_bl, abs_int, len_lv, len_tup, List.getElem?_cons_zero, List.getElem?_cons_succ, List.set_cons_zero, List.set_cons_succ, E.isNop, List.set_set, ctx_call, ofOpt_some, in_sign, nin_sign, all_lv, any_lv, part_f, partK_i, hg, decide_false, ix_ref g1 ix5_2, ix_ref g1 ix5_3, mul_int (m1 _), mul_int (m2 _), mul_int (m3 _), mul_int (m4 _), mod_int (show (0 : Int) < 2147483647 by decide), mod_int (show (0 : Int) < 2147483629 by decide), mod_int h0]
      exact ⟨_, _, rfl, ⟨sc, p, c, _, g, rfl, hp⟩, Int.emod_nonneg _ (by omega), Int.emod_lt_of_pos _ h0⟩
  rw [call_law_draw]
  have split : ∀ S' , evSs (ctxOf (prg w) k) b_law_draw [some (.ref b), some (.int size), none, none] S' = (evS (ctxOf (prg w) k) (match b_law_draw with | .cons s _ => s | _ => .pass) [some (.ref b), some (.int size), none, none] S').bindC [some (.ref b), some (.int size), none, none] (seqK (evSs (ctxOf (prg w) k) (match b_law_draw with | .cons _ t => t | _ => .nil))) := fun S' => by
    unfold b_law_draw
    exact eSs_cons
  rw [split]
  unfold boxO at ho
  have fin : ∀ S1 : Sto, (evS (ctxOf (prg w) k) (match b_law_draw with | .cons s _ => s | _ => .pass) [some (.ref b), some (.int size), none, none] S) = .ok (.nx [some (.ref b), some (.int size), none, none]) S1 → (∃ o, S1 = S.set b o ∧ ∃ p c l g, o = boxO sc p c l g ∧ 0 ≤ p) →
      ∃ r o, ((evS (ctxOf (prg w) k) (match b_law_draw with | .cons s _ => s | _ => .pass) [some (.ref b), some (.int size), none, none] S).bindC [some (.ref b), some (.int size), none, none] (seqK (evSs (ctxOf (prg w) k) (match b_law_draw with | .cons _ t => t | _ => .nil)))).bind retK = .ok (.int r) (S.set b o) ∧ IsBox o ∧ 0 ≤ r ∧ r < size := by
    rintro S1 e ⟨o, rfl, p, c, l, g, rfl, hp⟩
    rw [e, R.bindC_ok, seqK_nx]
    obtain ⟨r, o, h1, h2⟩ := tail _ c l g p hp (get_set ho)
    rw [List.set_set] at h1
    exact ⟨r, o, h1, h2⟩
  by_cases hl : l = 0
  · subst hl
    by_cases hx : (sc.length : Int) ≤ p
    · refine ⟨0, boxO sc p c 0 g, ?_, ⟨sc, p, c, 0, g, rfl, hp⟩, Int.le_refl 0, h0⟩
      have e : S.set b (boxO sc p c 0 g) = S := by
        apply List.ext_getElem?
        intro j
        by_cases hj : b = j
        · subst hj
          rw [get_set ho, ho]
          rfl
        · rw [List.getElem?_set_ne hj]
      rw [e]
      simp only [b_law_draw]
      simp only [eE_var, varK_s, eE_glob, eE_ty, eE_int, eE_str, eE_bl, eE_non, eE_bin, eE_binM, eE_cmp, eE_ix, k2_ap, eE_neg, negK_i, eE_not, notK_b, eE_chain, chK1_ap, chK3_ap, chK2_t, chK2_f, eE_and1, eE_or1, eE_and2, andK_t, andK_f, eE_or2, orK_t, orK_f, eE_ife, iteK_t, iteK_f, eE_tup, eE_lst, eE_lstM, tupK_1, tupK_2, lstK_0, lstK_1, eE_sl, slK1_ap, slK2_ap, part_no, eE_call, eE_blt, eE_bltM, bltMK_ap, thaw_lv, eE_meth, eE_lcS, eE_lcR, eE_frz, eE_rev, rev_lv, eEs_nil, eEs_cons, consK_ap, cnsK_ap, eSs_nil, eSs_cons, eS_asg, asgK_nm, eS_seti, stK1_ap, stK2_ap, stK3_ap, stK4_ap, eS_expr, expK_ap, eS_ret, rtK_ap, eS_ifs, eS_forS, eS_forR, eS_whl, eS_pass, eS_ctn, eS_brk, eS_retN, R.bind_ok, R.bindC_ok, gd_t, seqK_nx, seqK_rt, seqK_bk, seqK_ct, loopK_nx, loopK_rt, loopK_bk, loopK_ct, retK_nx, retK_rt, tr_bl, add_int, sub_int, cmp_eq_int, cmp_eq_str, cmp_eq_bl, cmp_ne_int, cmp_ne_str, cmp_lt_int, cmp_le_int, cmp_gt_int, cmp_ge_int, int_int, int_bl, abs_int, len_lv, len_tup, List.getElem?_cons_zero, List.getElem?_cons_succ, List.set_cons_zero, List.set_cons_succ, E.isNop, List.set_set, ctx_call, ofOpt_some, in_sign, nin_sign, all_lv, any_lv, part_f, partK_i, ix_ref ho ix5_3, ix_ref ho ix5_1, ix_ref ho ix5_0, decide_true, List.length_map, decide_eq_true hx]
    · have hx2 : p < sc.length := by omega
      obtain ⟨n, rfl⟩ : ∃ n : Nat, p = n := ⟨p.toNat, by omega⟩
      have hn : n < sc.length := by omega
      have ea : atI (sc.map D.int) (n : Int) = some (.int sc[n]) := atI_nat (by rw [List.getElem?_map, List.getElem?_eq_getElem hn]; rfl)
      simp only [b_law_draw] at fin ⊢
      have m5 := fun x => cmul_l (i := 48) (j := x) (by decide)
      have q1 := get_set (o' := .lst [.lv (sc.map .int), .int n, .int (if sc[n] < 0 then -sc[n] else sc[n]), .int 0, .int g]) ho
      have q2 := get_set (o' := .lst [.lv (sc.map .int), .int (n + 1), .int (if sc[n] < 0 then -sc[n] else sc[n]), .int 0, .int g]) ho
      have q3 := get_set (o' := .lst [.lv (sc.map .int), .int (n + 1), .int (if sc[n] < 0 then -sc[n] else sc[n]), .int 0, .int (if decide (1000000000000000000 ≤ if sc[n] < 0 then -sc[n] else sc[n]) = true then 1 else 0)]) ho
      refine fin (S.set b (boxO sc (n + 1) (if sc[n] < 0 then -sc[n] else sc[n]) (12 + 48 * (if decide (1000000000000000000 ≤ if sc[n] < 0 then -sc[n] else sc[n]) = true then 1 else 0)) (if decide (1000000000000000000 ≤ if sc[n] < 0 then -sc[n] else sc[n]) = true then 1 else 0))) ?_ ⟨_, rfl, n + 1, _, _, _, rfl, by omega⟩
      simp only [eE_var, varK_s, eE_glob, eE_ty, eE_int, eE_str, eE_bl, eE_non, eE_bin, eE_binM, eE_cmp, eE_ix, k2_ap, eE_neg, negK_i, eE_not, notK_b, eE_chain, chK1_ap, chK3_ap, chK2_t, chK2_f, eE_and1, eE_or1, eE_and2, andK_t, andK_f, eE_or2, orK_t, orK_f, eE_ife, iteK_t, iteK_f, eE_tup, eE_lst, eE_lstM, tupK_1, tupK_2, lstK_0, lstK_1, eE_sl, slK1_ap, slK2_ap, part_no, eE_call, eE_blt, eE_bltM, bltMK_ap, thaw_lv, eE_meth, eE_lcS, eE_lcR, eE_frz, eE_rev, rev_lv, eEs_nil, eEs_cons, consK_ap, cnsK_ap, eSs_nil, eSs_cons, eS_asg, asgK_nm, eS_seti, stK1_ap, stK2_ap, stK3_ap, stK4_ap, eS_expr, expK_ap, eS_ret, rtK_ap, eS_ifs, eS_forS, eS_forR, eS_whl, eS_pass, eS_ctn, eS_brk, eS_retN, R.bind_ok, R.bindC_ok, gd_t, seqK_nx, seqK_rt, seqK_bk, seqK_ct, loopK_nx, loopK_rt, loopK_bk, loopK_ct, retK_nx, retK_rt, tr_bl, add_int, sub_int, cmp_eq_int, cmp_eq_str, cmp_eq_bl, cmp_ne_int, cmp_ne_str, cmp_lt_int, cmp_le_int, cmp_gt_int, cmp_ge_int, int_int, int_bl, abs_int, len_lv, len_tup, List.getElem?_cons_zero, List.getElem?_cons_succ, List.set_cons_zero, List.set_cons_succ, E.isNop, List.set_set, ctx_call, ofOpt_some, in_sign, nin_sign, all_lv, any_lv, part_f, partK_i, ix_ref ho ix5_3, ix_ref ho ix5_1, ix_ref ho ix5_0, decide_true, List.length_map, decide_eq_false hx, ix_lv ea, seti_ref ho (show ixN 5 2 = some 2 from rfl), ix_ref q1 ix5_1, seti_ref q1 (show ixN 5 1 = some 1 from rfl), ix_ref q2 ix5_2, pow_10_18, seti_ref q2 (show ixN 5 4 = some 4 from rfl), ix_ref q3 ix5_4, mul_int (m5 _), seti_ref q3 (show ixN 5 3 = some 3 from rfl)]
      rfl
  · refine fin S ?_ ⟨boxO sc p c l g, ?_, p, c, l, g, rfl, hp⟩
    · simp only [b_law_draw]
      simp only [eE_var, varK_s, eE_glob, eE_ty, eE_int, eE_str, eE_bl, eE_non, eE_bin, eE_binM, eE_cmp, eE_ix, k2_ap, eE_neg, negK_i, eE_not, notK_b, eE_chain, chK1_ap, chK3_ap, chK2_t, chK2_f, eE_and1, eE_or1, eE_and2, andK_t, andK_f, eE_or2, orK_t, orK_f, eE_ife, iteK_t, iteK_f, eE_tup, eE_lst, eE_lstM, tupK_1, tupK_2, lstK_0, lstK_1, eE_sl, slK1_ap, slK2_ap, part_no, eE_call, eE_blt, eE_bltM, bltMK_ap, thaw_lv, eE_meth, eE_lcS, eE_lcR, eE_frz, eE_rev, rev_lv, eEs_nil, eEs_cons, consK_ap, cnsK_ap, eSs_nil, eSs_cons, eS_asg, asgK_nm, eS_seti, stK1_ap, stK2_ap, stK3_ap, stK4_ap, eS_expr, expK_ap, eS_ret, rtK_ap, eS_ifs, eS_forS, eS_forR, eS_whl, eS_pass, eS_ctn, eS_brk, eS_retN, R.bind_ok, R.bindC_ok, gd_t, seqK_nx, seqK_rt, seqK_bk, seqK_ct, loopK_nx, loopK_rt, loopK_bk, loopK_ct, retK_nx, retK_rt, tr_bl, add_int, sub_int, cmp_eq_int, cmp_eq_str, cmp_eq_bl, cmp_ne_int, cmp_ne_str, cmp_lt_int, cmp_le_int, cmp_gt_int, cmp_ge_int, int_int, int_bl, abs_int, len_lv, len_tup, List.getElem?_cons_zero, List.getElem?_cons_succ, List.set_cons_zero, List.set_cons_succ, E.isNop, List.set_set, ctx_call, ofOpt_some, in_sign, nin_sign, all_lv, any_lv, part_f, partK_i, ix_ref ho ix5_3, hl, decide_false]
    · apply List.ext_getElem?
      intro j
      by_cases hj : b = j
      · subst hj
        rw [get_set ho, ho]
        rfl
      · rw [List.getElem?_set_ne hj]

theorem list_fl {xs : List D} (h : xs.length ≤ lim) (S : Sto) : bltD .list [.fl xs] S = .ok (.lv xs) S := by
  simp [bltD, lstD, items, isSeq]
theorem box_run {ns : List Int} (hn : ns.length ≤ 63) : callN (prg w) (k + 1) "_law_box" "_law_box" [.fl (ns.map .int)] [] = .ok (.ref 0) [boxO ns 0 0 0 0] := by
  rw [call_law_box]
  unfold b_law_box
  simp only [eE_var, varK_s, eE_glob, eE_ty, eE_int, eE_str, eE_bl, eE_non, eE_bin, eE_binM, eE_cmp, eE_ix, k2_ap, eE_neg, negK_i, eE_not, notK_b, eE_chain, chK1_ap, chK3_ap, chK2_t, chK2_f, eE_and1, eE_or1, eE_and2, andK_t, andK_f, eE_or2, orK_t, orK_f, eE_ife, iteK_t, iteK_f, eE_tup, eE_lst, eE_lstM, tupK_1, tupK_2, lstK_0, lstK_1, eE_sl, slK1_ap, slK2_ap, part_no, eE_call, eE_blt, eE_bltM, bltMK_ap, thaw_lv, eE_meth, eE_lcS, eE_lcR, eE_frz, eE_rev, rev_lv, eEs_nil, eEs_cons, consK_ap, cnsK_ap, eSs_nil, eSs_cons, eS_asg, asgK_nm, eS_seti, stK1_ap, stK2_ap, stK3_ap, stK4_ap, eS_expr, expK_ap, eS_ret, rtK_ap, eS_ifs, eS_forS, eS_forR, eS_whl, eS_pass, eS_ctn, eS_brk, eS_retN, R.bind_ok, R.bindC_ok, gd_t, seqK_nx, seqK_rt, seqK_bk, seqK_ct, loopK_nx, loopK_rt, loopK_bk, loopK_ct, retK_nx, retK_rt, tr_bl, add_int, sub_int, cmp_eq_int, cmp_eq_str, cmp_eq_bl, cmp_ne_int, cmp_ne_str, cmp_lt_int, cmp_le_int, cmp_gt_int, cmp_ge_int, int_int, int_bl, abs_int, len_lv, len_tup, List.getElem?_cons_zero, List.getElem?_cons_succ, List.set_cons_zero, List.set_cons_succ, E.isNop, List.set_set, ctx_call, ofOpt_some, in_sign, nin_sign, all_lv, any_lv, part_f, partK_i, list_fl (xs := ns.map D.int) (by simp [lim]; omega)]
  rw [lstMK_n (by simp [lim])]
  simp only [eE_var, varK_s, eE_glob, eE_ty, eE_int, eE_str, eE_bl, eE_non, eE_bin, eE_binM, eE_cmp, eE_ix, k2_ap, eE_neg, negK_i, eE_not, notK_b, eE_chain, chK1_ap, chK3_ap, chK2_t, chK2_f, eE_and1, eE_or1, eE_and2, andK_t, andK_f, eE_or2, orK_t, orK_f, eE_ife, iteK_t, iteK_f, eE_tup, eE_lst, eE_lstM, tupK_1, tupK_2, lstK_0, lstK_1, eE_sl, slK1_ap, slK2_ap, part_no, eE_call, eE_blt, eE_bltM, bltMK_ap, thaw_lv, eE_meth, eE_lcS, eE_lcR, eE_frz, eE_rev, rev_lv, eEs_nil, eEs_cons, consK_ap, cnsK_ap, eSs_nil, eSs_cons, eS_asg, asgK_nm, eS_seti, stK1_ap, stK2_ap, stK3_ap, stK4_ap, eS_expr, expK_ap, eS_ret, rtK_ap, eS_ifs, eS_forS, eS_forR, eS_whl, eS_pass, eS_ctn, eS_brk, eS_retN, R.bind_ok, R.bindC_ok, gd_t, seqK_nx, seqK_rt, seqK_bk, seqK_ct, loopK_nx, loopK_rt, loopK_bk, loopK_ct, retK_nx, retK_rt, tr_bl, add_int, sub_int, cmp_eq_int, cmp_eq_str, cmp_eq_bl, cmp_ne_int, cmp_ne_str, cmp_lt_int, cmp_le_int, cmp_gt_int, cmp_ge_int, int_int, int_bl, abs_int, len_lv, len_tup, List.getElem?_cons_zero, List.getElem?_cons_succ, List.set_cons_zero, List.set_cons_succ, E.isNop, List.set_set, ctx_call, ofOpt_some, in_sign, nin_sign, all_lv, any_lv, part_f, partK_i]
  rfl
theorem draw_fr {S : Sto} {b : Nat} {size : Int} (hb : BoxAt S b) (h0 : 0 < size) (h1 : size < 2 ^ 250) :
    ∃ r S', callN (prg w) (k + 1) "_law_draw" "_law_draw" [.ref b, .int size] S = .ok (.int r) S' ∧ Fr b S S' ∧ 0 ≤ r ∧ r < size := by
  obtain ⟨r, o, e, ho, h2⟩ := draw_run (w := w) (k := k) hb h0 h1
  exact ⟨r, _, e, Fr.set hb ho, h2⟩
end Pr

namespace Pr
open PySem L2 Ev
variable {w k : Nat} {A : Ob}
theorem draw_w {size : Int} (h0 : 0 < size) (h1 : size < 2 ^ 250) : callQ (prg w) (k + 1) "_law_draw" [.ref 0, .int size] A (fun d A' => A' = A ∧ ∃ r, d = .int r ∧ 0 ≤ r ∧ r < size) noX := by
  intro x S ds' hx kn v
  have e0 : ds' = [.ref 0, .int size] := by
    cases v with
    | cons a t =>
      cases a with
      | same _ =>
        cases t with
        | cons b t =>
          cases b with
          | same _ => cases t; rfl
  subst e0
  have hb : x = "_law_draw" := has_base (F := f_law_draw) rfl hx
  subst hb
  obtain ⟨r, o, e, ho, h2, h3⟩ := draw_run (w := w) (k := k) kn.box h0 h1
  rw [e]
  have hne : ∀ n o, A.lookup n = some o → n ≠ 0 := fun n o h z => kn.n0 (z ▸ lookup_mem h)
  refine ⟨.int r, A, ⟨kn.box.set ho, kn.nd, kn.n0, fun n o' h => ?_⟩, ⟨by simp, fun n h1 h2 h3 => ?_, fun n h => .inl h⟩, .same rfl, rfl, r, rfl, h2, h3⟩
  · obtain ⟨g1, g2⟩ := kn.get n o' h
    exact ⟨by rw [List.getElem?_set_ne (fun z => hne n o' h z.symm)]; exact g1, g2⟩
  · rw [List.getElem?_set_ne (fun z => h2 z.symm)]
/-- a draw, used -/
theorem draw_u {size : Int} {Q : QD} {E : QX} (h0 : 0 < size) (h1 : size < 2 ^ 250) (h : ∀ r : Int, 0 ≤ r → r < size → Q (.int r) A) : callQ (prg w) (k + 1) "_law_draw" [.ref 0, .int size] A Q E :=
  (draw_w h0 h1).use fun d ⟨r, e, a, b⟩ => e ▸ h r a b
end Pr

namespace Pr
open PySem L2 Ev
variable {w k : Nat} {A : Ob}
/-! ### names -/
def sgn : Str := "abcdefghijklmnopqrstuvwxyz0123456789_"
def lets : Str := "abcdefghijklmnopqrstuvwxyz"
def rsv8 : List Str := ["all", "and", "in", "is", "none", "not", "or", "rule"]
def rsvN : List Str := ["all", "and", "in", "is", "none", "not", "or", "rule", "zero", "range", "fuse"]
theorem sgn_len : sgn.cps.toList.length = 37 := by decide +kernel
theorem sgn_ok : ∀ c, c ∈ sgn.cps.toList → c < 0x110000 := by decide +kernel
theorem sgn_lets : sgn.cps.toList.take 26 = lets.cps.toList := by decide +kernel
theorem lets_sgn : ∀ c, c ∈ lets.cps.toList → c ∈ sgn.cps.toList := by decide +kernel
theorem sgn_at {r : Int} (h0 : 0 ≤ r) (h1 : r < 37) (S : Sto) : ∃ c, c ∈ sgn.cps.toList ∧ (r < 26 → c ∈ lets.cps.toList) ∧ ixD (.str sgn) (.int r) S = .ok (.str ⟨#[c]⟩) S := by
  obtain ⟨n, rfl⟩ : ∃ n : Nat, r = n := ⟨r.toNat, by omega⟩
  have hn : n < sgn.cps.toList.length := by rw [sgn_len]; omega
  refine ⟨sgn.cps.toList[n], List.getElem_mem hn, fun h => ?_, ix_st (by decide +kernel) (atI_nat (List.getElem?_eq_getElem hn)) S⟩
  rw [← sgn_lets]
  have : n < (sgn.cps.toList.take 26).length := by rw [List.length_take]; omega
  have e : (sgn.cps.toList.take 26)[n] = sgn.cps.toList[n] := List.getElem_take
  rw [← e]
  exact List.getElem_mem this
/-- what a column's name is -/
def nmS (x : Str) : Prop := ∃ c r, x.cps.toList = c :: r ∧ c ∈ lets.cps.toList ∧ (∀ d, d ∈ r → d ∈ sgn.cps.toList) ∧ x.length ≤ 12
def nmOk (x : Str) : Prop := nmS x ∧ x ∉ rsv8
theorem len_list (x : Str) : x.length = x.cps.toList.length := by simp [Str.length]
theorem nodup_le : ∀ {l m : List Str}, l.Nodup → (∀ x, x ∈ l → x ∈ m) → l.length ≤ m.length
  | [], _, _, _ => by simp
  | a :: r, m, hn, hs => by
    rw [List.nodup_cons] at hn
    have ha : a ∈ m := hs a List.mem_cons_self
    have := nodup_le (l := r) (m := m.erase a) hn.2 fun x hx => (List.mem_erase_of_ne (fun (e : x = a) => hn.1 (by rw [← e]; exact hx))).mpr (hs x (List.mem_cons_of_mem _ hx))
    rw [List.length_erase_of_mem ha] at this
    have hp : 0 < m.length := List.length_pos_of_mem ha
    simp only [List.length_cons]
    omega
def ot (t : Str) (i : Nat) : Str := cutS t none (some 9) ++ "z" ++ (toString ((i : Nat) : Int) : String)
theorem digits_inj : ∀ i j : Fin 40, ((toString ((i.1 : Nat) : Int) : String) : Str) = ((toString ((j.1 : Nat) : Int) : String) : Str) → i = j := by decide +kernel
theorem digits_ok : ∀ i : Fin 40, (∀ c, c ∈ ((toString ((i.1 : Nat) : Int) : String) : Str).cps.toList → c ∈ sgn.cps.toList) ∧ ((toString ((i.1 : Nat) : Int) : String) : Str).length ≤ 2 := by decide +kernel
theorem ot_inj {t : Str} {i j : Nat} (hi : i < 40) (hj : j < 40) (h : ot t i = ot t j) : i = j := by
  have h2 := congrArg (fun z : Str => z.cps.toList) h
  simp only [ot, str_list] at h2
  have h3 := List.append_cancel_left h2
  have h4 : ((toString ((i : Nat) : Int) : String) : Str) = ((toString ((j : Nat) : Int) : String) : Str) := by
    have : ∀ x y : Str, x.cps.toList = y.cps.toList → x = y := by
      rintro ⟨⟨x⟩⟩ ⟨⟨y⟩⟩ h
      simp at h
      subst h
      rfl
    exact this _ _ h3
  have := digits_inj ⟨i, hi⟩ ⟨j, hj⟩ h4
  exact congrArg Fin.val this
theorem ot_free {t : Str} {l : List Str} (hl : l.length ≤ 30) : ∃ i, i < l.length + 1 ∧ ot t i ∉ l := by
  by_cases h : ∃ i, i < l.length + 1 ∧ ot t i ∉ l
  · exact h
  · exfalso
    have hall : ∀ x, x ∈ (List.range (l.length + 1)).map (ot t) → x ∈ l := by
      intro x hx
      obtain ⟨i, hi, rfl⟩ := List.mem_map.mp hx
      rw [List.mem_range] at hi
      by_cases q : ot t i ∈ l
      · exact q
      · exact absurd ⟨i, hi, q⟩ h
    have nd : ((List.range (l.length + 1)).map (ot t)).Nodup := by
      rw [List.nodup_iff_pairwise_ne, List.pairwise_map]
      have : (List.range (l.length + 1)).Pairwise fun a b => a < b := List.pairwise_lt_range
      refine List.Pairwise.imp_of_mem ?_ this
      intro a b ha hb hab e
      rw [List.mem_range] at ha hb
      have := ot_inj (by omega) (by omega) e
      omega
    have := nodup_le nd hall
    simp at this
    omega
theorem cut9 (t : Str) : (cutS t none (some 9)).cps.toList = t.cps.toList.take (HT.sIx t.length t.length (some 9)) := by
  rw [cutS_list]
  have : HT.sIx t.length 0 none = 0 := rfl
  rw [this]
  simp
theorem six9 (n : Nat) : HT.sIx n n (some 9) ≤ 9 ∧ (0 < n → 0 < HT.sIx n n (some 9)) := by
  have e : (9 : Int) = ((9 : Nat) : Int) := rfl
  by_cases h : 9 ≤ n
  · rw [e, six_nat _ _ _ h]; omega
  · unfold HT.sIx
    simp
    omega
theorem ot_ok {t : Str} (ht : nmS t) {i : Nat} (hi : i < 40) : nmOk (ot t i) := by
  obtain ⟨c, r, e, hc, hr, hl⟩ := ht
  have hlt : 0 < t.length := by rw [len_list, e]; simp
  obtain ⟨s1, s2⟩ := six9 t.length
  obtain ⟨n, hn⟩ : ∃ n, HT.sIx t.length t.length (some 9) = n + 1 := ⟨HT.sIx t.length t.length (some 9) - 1, by have := s2 hlt; omega⟩
  obtain ⟨d1, d2⟩ := digits_ok ⟨i, hi⟩
  have hz : ("z" : Str).cps.toList = [122] := by decide +kernel
  have el : (ot t i).cps.toList = c :: (r.take n ++ [122] ++ ((toString ((i : Nat) : Int) : String) : Str).cps.toList) := by
    unfold ot
    rw [str_list, str_list, cut9, hn, e, hz]
    simp
  refine ⟨⟨c, _, el, hc, fun d hd => ?_, ?_⟩, fun hm => ?_⟩
  · rw [List.mem_append, List.mem_append] at hd
    rcases hd with (hd | hd) | hd
    · exact hr d (List.mem_of_mem_take hd)
    · simp at hd
      subst hd
      decide +kernel
    · exact d1 d hd
  · rw [len_list, el]
    rw [len_list] at d2
    simp only [List.length_cons, List.length_append, List.length_take, List.length_nil]
    simp only at d2
    omega
  · have : ∀ x, x ∈ rsv8 → 122 ∉ x.cps.toList := by decide +kernel
    refine this _ hm ?_
    rw [el]
    simp
theorem str_run {i : Nat} (hi : i < 40) (S : Sto) : bltD .str [.int ((i : Nat) : Int)] S = .ok (.str ((toString ((i : Nat) : Int) : String) : Str)) S := by
  have : ((i : Nat) : Int).natAbs.log2 < 1920 := by
    have : ∀ i : Fin 40, ((i.1 : Nat) : Int).natAbs.log2 < 1920 := by decide
    exact this ⟨i, hi⟩
  simp only [bltD, strD, this, if_true]
theorem pw11 : ∃ P : Int, 0 < P ∧ P < 2 ^ 200 ∧ ∀ S : Sto, binD .pow (.int 37) (.int 11) S = .ok (.int P) S :=
  ⟨37 ^ 11, by decide, by decide, fun S => pow_int (by decide) S⟩
def szs : List Nat := [1, 1, 2, 2, 3, 3, 4, 5, 6, 8, 11, 12]
theorem wLr_pure {σ : Sg} {Q : QD} {tg : Tg} {cond elt : Sg → Ob → QD → Prop} {g : Nat → D} {lo : Int} : ∀ (n i : Nat) (acc : List D), n + acc.length ≤ lim →
    (∀ j, i ≤ j → j < i + n → stQ tg (.int (lo + j)) (wipeD σ tg.slots) fun σ1 => (∀ K : QD, K (.bl true) A → cond σ1 A K) ∧ isVw (g j) = false ∧ ∀ K : QD, K (g j) A → elt σ1 A K) →
    Q (.lv (acc ++ (List.range n).map fun j => g (i + j))) A → wLr tg σ cond elt (rngL lo i n) acc A Q
  | 0, i, acc, hl, hx, q => by simpa [rngL, wLr] using q
  | n + 1, i, acc, hl, hx, q => by
    have h1 := hx i (Nat.le_refl _) (by omega)
    unfold rngL wLr
    unfold stQ at h1 ⊢
    split at h1
    · obtain ⟨h2, h3, h4⟩ := h1
      rename_i σ1 e
      try rw [e]
      refine h2 _ ?_
      show trQ A (.bl true) _
      refine ⟨fun _ => h4 _ ⟨by omega, h3, ?_⟩, fun h => by cases h⟩
      refine wLr_pure n (i + 1) (acc ++ [g i]) (by simp; omega) (fun j a b => hx j (by omega) (by omega)) ?_
      have : acc ++ [g i] ++ (List.range n).map (fun j => g (i + 1 + j)) = acc ++ (List.range (n + 1)).map fun j => g (i + j) := by
        rw [List.range_succ_eq_map, List.map_cons, List.map_map, List.append_assoc]
        congr 2
        simp only [List.singleton_append, Nat.add_zero, List.cons.injEq, true_and]
        apply List.map_congr_left
        intro a _
        show g (i + 1 + a) = g (i + (a + 1))
        congr 1
        omega
      rw [this]
      exact q
    · exact h1.elim
end Pr

namespace Pr
open PySem L2 Ev
variable {w k : Nat} {A : Ob}
theorem mul26 (P : Int) (S : Sto) : binD .mul (.int 26) (.int P) S = .ok (.int (26 * P)) S := mul_int (cmul_l (i := 26) (by decide)) S
theorem add_vl {l m : List Str} (hl : l.length + m.length ≤ lim) (S : Sto) : binD .add (.vw 0 (sl l)) (.lv (sl m)) S = .ok (.lv (sl (l ++ m))) S := by
  have e : (sl l).length + (sl m).length ≤ lim := by rw [sl_len, sl_len]; exact hl
  simp only [binD, Ev.listOf, e, if_true, sl_app]
theorem nin_vw (t : Str) (l : List Str) (S : Sto) : cmpD .nin (.str t) (.vw 0 (sl l)) S = .ok (.bl (!decide (t ∈ l))) S := by
  have e : inD S (.str t) (.vw 0 (sl l)) = some (decide (t ∈ l)) := by
    have h1 := inV_strs t l
    have h2 := flat_strs l
    have hi : items S (.vw 0 (sl l)) = some (l.map D.str) := by simp [items, sl]
    unfold inD
    simp only [hi]
    rw [if_pos (by rw [h2]; rfl)]
    exact congrArg some h1
  simp only [cmpD, cmpO, e, Option.map_some, ofOpt_some, R.bind_ok]
theorem nin_sl (t : Str) (l : List Str) (S : Sto) : cmpD .nin (.str t) (.lv (sl l)) S = .ok (.bl (!decide (t ∈ l))) S := nin_lv t l S
theorem len_vw0 (l : List Str) (S : Sto) : bltD .len [.vw 0 (sl l)] S = .ok (.int ((l.length : Nat) : Int)) S := by
  simp only [bltD, lenD, lengthOf, items, Option.map_some, sl_len]
theorem name_u {l : List Str} {Q : QD} {E : QX} (hl : l.length ≤ 20) (h : ∀ x, nmOk x → x ∉ l → Q (.str x) A) : callQ (prg w) (k + 2) "_law_name" [.ref 0, .vw 0 (sl l)] A Q E := by
  obtain ⟨P, p0, p1, hP⟩ := pw11
  refine call_of (F := f_law_name) rfl rfl ?_
  show wSs _ _ b_law_name [some (.ref 0), some (.vw 0 (sl l)), none, none, none, none, none, none, none] A _
  unfold b_law_name
  have sg : Str.ofString "abcdefghijklmnopqrstuvwxyz0123456789_" = sgn := rfl
  have hr : [D.str "all", .str "and", .str "in", .str "is", .str "none", .str "not", .str "or", .str "rule", .str "zero", .str "range", .str "fuse"] = sl rsvN := rfl
  simp only [↓WP, ↓WP3, ↓WP4, ↓s_cons, WQ, WQ3, WQ4, clean, wipeD, Tg.slots, lim, Nat.reduceAdd, Nat.reduceLeDiff, HAS, sg]
  refine draw_u (by decide) (by decide) fun r1 q1 q2 => ?_
  obtain ⟨dd, hdd, hat⟩ := atI_ex (xs := szs.map fun (n : Nat) => D.int n) q1 (by simpa [szs] using q2)
  obtain ⟨n, hn, rfl⟩ := List.mem_map.mp hdd
  have hn12 : 1 ≤ n ∧ n ≤ 12 := by
    have : ∀ n, n ∈ szs → 1 ≤ n ∧ n ≤ 12 := by decide
    exact this n hn
  have hat2 : ∀ S : Sto, ixD (.lv [.int 1, .int 1, .int 2, .int 2, .int 3, .int 3, .int 4, .int 5, .int 6, .int 8, .int 11, .int 12]) (.int r1) S = .ok (.int n) S := ix_lv hat
  simp only [↓WP, ↓WP3, ↓WP4, ↓s_cons, WQ, WQ3, WQ4, clean, wipeD, Tg.slots, lim, Nat.reduceAdd, Nat.reduceLeDiff, HAS, hat2, hP, mul26]
  refine draw_u (by omega) (by omega) fun r2 q3 q4 => ?_
  clear q4
  obtain ⟨c0, hc0, hcl, ec0⟩ := sgn_at (r := r2 % 26) (Int.emod_nonneg _ (by omega)) (by have := Int.emod_lt_of_pos r2 (show (0 : Int) < 26 by omega); omega) (fs A)
  have hcl := hcl (Int.emod_lt_of_pos r2 (by omega))
  have hsub : ((n : Nat) : Int) - 1 = ((n - 1 : Nat) : Int) := by omega
  simp only [↓WP, ↓WP3, ↓WP4, ↓s_cons, WQ, WQ3, WQ4, clean, wipeD, Tg.slots, lim, Nat.reduceAdd, Nat.reduceLeDiff, HAS, mod_int (show (0 : Int) < 26 by decide), ec0, fdiv_int (show (0 : Int) < 26 by decide) (show (26 : Int).natAbs.log2 < 9000 by decide), hsub]
  refine ⟨by simp [rngOk]; omega, ?_⟩
  rw [Int.toNat_natCast]
  refine wFr_of (m := n - 1) (fun i σ A' => A' = A ∧ ∃ t r rest x6, σ = [some (.ref 0), some (.vw 0 (sl l)), some (.str sgn), some (.int n), some (.int rest), some (.str t), x6, none, none] ∧ t.cps.toList = c0 :: r ∧ (∀ d, d ∈ r → d ∈ sgn.cps.toList) ∧ r.length = i ∧ 0 ≤ rest) ?_ ?_ (n - 1) 0 _ A (by omega) ⟨rfl, ⟨#[c0]⟩, [], _, none, rfl, rfl, by simp, rfl, Int.ediv_nonneg q3 (by omega)⟩
  · rintro σ A' ⟨rfl, t, r, rest, x6, rfl, ht, hr2, hrl, h0⟩
    have htl : t.length ≤ 12 := by rw [len_list, ht]; simp; omega
    have hadd : (l.length : Nat) + rsvN.length ≤ lim := by simp [rsvN, lim]; omega
    have hrl2 : (sl rsvN).length ≤ 100000 := by decide
    simp only [↓WP, ↓WP3, ↓WP4, ↓s_cons, WQ, WQ3, WQ4, clean, wipeD, Tg.slots, lim, Nat.reduceAdd, Nat.reduceLeDiff, HAS, hr, hrl2, add_vl hadd, nin_sl, len_vw0, show ((l.length : Nat) : Int) + 1 = ((l.length + 1 : Nat) : Int) by omega]
    refine ⟨fun hin => ?_, fun _ => ?_⟩
    · have hin : t ∉ l ++ rsvN := by simpa using hin
      rw [List.mem_append, not_or] at hin
      refine h t ⟨⟨c0, r, ht, hcl, hr2, htl⟩, fun hm => hin.2 ?_⟩ hin.1
      exact (show ∀ x, x ∈ rsv8 → x ∈ rsvN by decide) t hm
    · have hc9 : (cutS t none (some 9)).length ≤ 12 := Nat.le_trans (cutS_len _ _ _) htl
      have hz1 : ("z" : Str).length = 1 := by decide +kernel
      have a1 : (cutS t none (some 9)).length + ("z" : Str).length ≤ lim := by rw [hz1]; simp [lim]; omega
      refine ⟨by simp [rngOk]; omega, ?_⟩
      rw [Int.toNat_natCast]
      refine wLr_pure (g := fun i => D.str (ot t i)) (l.length + 1) 0 [] (by simp [lim]; omega) (fun j _ hj => ?_) ?_
      · have hj40 : j < 40 := by omega
        have a2 : (cutS t none (some 9) ++ "z").length + ((toString ((j : Nat) : Int) : String) : Str).length ≤ lim := by
          have := (digits_ok ⟨j, hj40⟩).2
          simp only at this
          have hL : 100 ≤ lim := by decide
          rw [str_len, hz1]
          omega
        have e0 : (0 + (j : Int)) = ((j : Nat) : Int) := by omega
        simp only [↓WP, ↓WP3, ↓WP4, ↓s_cons, WQ, WQ3, WQ4, clean, wipeD, Tg.slots, lim, Nat.reduceAdd, Nat.reduceLeDiff, HAS, e0, sl_strD (show t.length ≤ lim by simp [lim]; omega), add_str a1, str_run hj40, add_str a2]
        have e1 : D.str (cutS t none (some 9) ++ "z" ++ ((toString ((j : Nat) : Int) : String) : Str)) = D.str (ot t j) := rfl
        exact ⟨fun K h => h, fun K h => h⟩
      · simp only [↓WP, ↓WP3, ↓WP4, ↓s_cons, WQ, WQ3, WQ4, clean, wipeD, Tg.slots, lim, Nat.reduceAdd, Nat.reduceLeDiff, HAS]
        obtain ⟨i0, hi0, hfree⟩ := ot_free (t := t) (l := l) (by omega)
        have hm0 : i0 ∈ (List.range (l.length + 1)).filter (fun i => !decide (ot t i ∈ l)) := by
          rw [List.mem_filter]
          exact ⟨List.mem_range.mpr hi0, by simp [hfree]⟩
        refine wLc_map (f := fun i => D.str (ot t i)) (g := fun i => D.str (ot t i)) (p := fun i => !decide (ot t i ∈ l)) (l := List.range (l.length + 1)) (by simp [Ev.items, Nat.zero_add]) (by simp [lim]; omega) (fun x hx => ?_) ?_
        · simp only [↓WP, ↓WP3, ↓WP4, ↓s_cons, WQ, WQ3, WQ4, clean, wipeD, Tg.slots, lim, Nat.reduceAdd, Nat.reduceLeDiff, HAS, nin_vw]
          exact ⟨fun K h => h, fun _ => fun K h => h⟩
        · cases hq : (List.range (l.length + 1)).filter (fun i => !decide (ot t i ∈ l)) with
          | nil => rw [hq] at hm0; cases hm0
          | cons y ys =>
            have hy : y ∈ (List.range (l.length + 1)).filter (fun i => !decide (ot t i ∈ l)) := by rw [hq]; exact List.mem_cons_self
            rw [List.mem_filter] at hy
            have hyl := List.mem_range.mp hy.1
            have e0 : ∀ S : Sto, ixD (.lv ((y :: ys).map fun i => D.str (ot t i))) (.int 0) S = .ok (.str (ot t y)) S := fun S => by
              rw [List.map_cons]
              exact ix_lv (atI_nat (j := 0) rfl) S
            rw [e0]
            simp only [↓WP, ↓WP3, ↓WP4, ↓s_cons, WQ, WQ3, WQ4, clean, wipeD, Tg.slots, lim, Nat.reduceAdd, Nat.reduceLeDiff, HAS]
            exact h _ (ot_ok ⟨c0, r, ht, hcl, hr2, htl⟩ (by omega)) (by simpa using hy.2)
  · rintro i σ A' hi ⟨rfl, t, r, rest, x6, rfl, ht, hr2, hrl, h0⟩ K hK _ _ _ _
    obtain ⟨c, hc, _, ec⟩ := sgn_at (r := (rest + (0 + (i : Int))) % 37) (Int.emod_nonneg _ (by omega)) (by have := Int.emod_lt_of_pos (rest + (0 + (i : Int))) (show (0 : Int) < 37 by omega); omega) (fs A')
    have hl1 : t.length + (⟨#[c]⟩ : Str).length ≤ lim := by
      rw [len_list, len_list, ht]
      simp [lim]
      omega
    simp only [↓WP, ↓WP3, ↓WP4, ↓s_cons, WQ, WQ3, WQ4, clean, wipeD, Tg.slots, lim, Nat.reduceAdd, Nat.reduceLeDiff, HAS, mod_int (show (0 : Int) < 37 by decide), ec, add_str hl1, fdiv_int (show (0 : Int) < 37 by decide) (show (37 : Int).natAbs.log2 < 9000 by decide)]
    refine hK _ _ ⟨rfl, t ++ ⟨#[c]⟩, r ++ [c], rest / 37, _, rfl, ?_, fun d hd => ?_, by simp [hrl], Int.ediv_nonneg h0 (by omega)⟩
    · rw [str_list, ht]; rfl
    · rw [List.mem_append] at hd
      rcases hd with hd | hd
      · exact hr2 d hd
      · simp at hd; subst hd; exact hc
end Pr

namespace Pr
open PySem L2 Ev
variable {w k : Nat} {A : Ob}
theorem nin_lq {d : D} {l : List Str} (hd : Lq A d (sl l)) (t : Str) : cmpD .nin (.str t) d (fs A) = .ok (.bl (!decide (t ∈ l))) (fs A) := by
  have h1 := inV_strs t l
  have h2 := flat_strs l
  have hi := hd.it
  have hl := hd.ls
  have e : inD (fs A) (.str t) d = some (decide (t ∈ l)) := by
    have hs : isSeq d = true := by cases d <;> first | rfl | (simp only [Ev.listOf, reduceCtorEq] at hl; done)
    have hi' : items (fs A) d = some (l.map D.str) := hi
    cases d <;> first | (simp only [Ev.listOf, reduceCtorEq] at hl; done) | skip
    all_goals (unfold inD; simp only [hi']; rw [if_pos (by rw [h2, hs]; rfl)]; exact congrArg some h1)
  simp only [cmpD, cmpO, e, Option.map_some, ofOpt_some, R.bind_ok]
theorem name_g {d : D} {l : List Str} {Q : QD} {E : QX} (hd : Lq A d (sl l)) (hl : l.length ≤ 20) (h : ∀ x, nmOk x → x ∉ l → Q (.str x) A) : callQ (prg w) (k + 2) "_law_name" [.ref 0, d] A Q E := by
  obtain ⟨P, p0, p1, hP⟩ := pw11
  refine call_of (F := f_law_name) rfl rfl ?_
  show wSs _ _ b_law_name [some (.ref 0), some d, none, none, none, none, none, none, none] A _
  unfold b_law_name
  have sg : Str.ofString "abcdefghijklmnopqrstuvwxyz0123456789_" = sgn := rfl
  have hr : [D.str "all", .str "and", .str "in", .str "is", .str "none", .str "not", .str "or", .str "rule", .str "zero", .str "range", .str "fuse"] = sl rsvN := rfl
  simp only [↓WP, ↓WP3, ↓WP4, ↓s_cons, WQ, WQ3, WQ4, clean, wipeD, Tg.slots, lim, Nat.reduceAdd, Nat.reduceLeDiff, HAS, sg]
  refine draw_u (by decide) (by decide) fun r1 q1 q2 => ?_
  obtain ⟨dd, hdd, hat⟩ := atI_ex (xs := szs.map fun (n : Nat) => D.int n) q1 (by simpa [szs] using q2)
  obtain ⟨n, hn, rfl⟩ := List.mem_map.mp hdd
  have hn12 : 1 ≤ n ∧ n ≤ 12 := by
    have : ∀ n, n ∈ szs → 1 ≤ n ∧ n ≤ 12 := by decide
    exact this n hn
  have hat2 : ∀ S : Sto, ixD (.lv [.int 1, .int 1, .int 2, .int 2, .int 3, .int 3, .int 4, .int 5, .int 6, .int 8, .int 11, .int 12]) (.int r1) S = .ok (.int n) S := ix_lv hat
  simp only [↓WP, ↓WP3, ↓WP4, ↓s_cons, WQ, WQ3, WQ4, clean, wipeD, Tg.slots, lim, Nat.reduceAdd, Nat.reduceLeDiff, HAS, hat2, hP, mul26]
  refine draw_u (by omega) (by omega) fun r2 q3 q4 => ?_
  clear q4
  obtain ⟨c0, hc0, hcl, ec0⟩ := sgn_at (r := r2 % 26) (Int.emod_nonneg _ (by omega)) (by have := Int.emod_lt_of_pos r2 (show (0 : Int) < 26 by omega); omega) (fs A)
  have hcl := hcl (Int.emod_lt_of_pos r2 (by omega))
  have hsub : ((n : Nat) : Int) - 1 = ((n - 1 : Nat) : Int) := by omega
  simp only [↓WP, ↓WP3, ↓WP4, ↓s_cons, WQ, WQ3, WQ4, clean, wipeD, Tg.slots, lim, Nat.reduceAdd, Nat.reduceLeDiff, HAS, mod_int (show (0 : Int) < 26 by decide), ec0, fdiv_int (show (0 : Int) < 26 by decide) (show (26 : Int).natAbs.log2 < 9000 by decide), hsub]
  refine ⟨by simp [rngOk]; omega, ?_⟩
  rw [Int.toNat_natCast]
  refine wFr_of (m := n - 1) (fun i σ A' => A' = A ∧ ∃ t r rest x6, σ = [some (.ref 0), some d, some (.str sgn), some (.int n), some (.int rest), some (.str t), x6, none, none] ∧ t.cps.toList = c0 :: r ∧ (∀ d, d ∈ r → d ∈ sgn.cps.toList) ∧ r.length = i ∧ 0 ≤ rest) ?_ ?_ (n - 1) 0 _ A (by omega) ⟨rfl, ⟨#[c0]⟩, [], _, none, rfl, rfl, by simp, rfl, Int.ediv_nonneg q3 (by omega)⟩
  · rintro σ A' ⟨rfl, t, r, rest, x6, rfl, ht, hr2, hrl, h0⟩
    have htl : t.length ≤ 12 := by rw [len_list, ht]; simp; omega
    have hadd : (sl l).length + (sl rsvN).length ≤ lim := by rw [sl_len, sl_len]; simp [rsvN, lim]; omega
    have hadd2 : binD .add d (.lv (sl rsvN)) (fs A') = .ok (.lv (sl (l ++ rsvN))) (fs A') := by rw [sl_app]; exact hd.add .lv hadd
    have hnin : ∀ t : Str, cmpD .nin (.str t) d (fs A') = .ok (.bl (!decide (t ∈ l))) (fs A') := fun t => nin_lq hd t
    have hlen : bltD .len [d] (fs A') = .ok (.int ((l.length : Nat) : Int)) (fs A') := by rw [hd.len, sl_len]
    have hrl2 : (sl rsvN).length ≤ 100000 := by decide
    simp only [↓WP, ↓WP3, ↓WP4, ↓s_cons, WQ, WQ3, WQ4, clean, wipeD, Tg.slots, lim, Nat.reduceAdd, Nat.reduceLeDiff, HAS, hr, hrl2, hadd2, nin_sl, hlen, show ((l.length : Nat) : Int) + 1 = ((l.length + 1 : Nat) : Int) by omega]
    refine ⟨fun hin => ?_, fun _ => ?_⟩
    · have hin : t ∉ l ++ rsvN := by simpa using hin
      rw [List.mem_append, not_or] at hin
      refine h t ⟨⟨c0, r, ht, hcl, hr2, htl⟩, fun hm => hin.2 ?_⟩ hin.1
      exact (show ∀ x, x ∈ rsv8 → x ∈ rsvN by decide) t hm
    · have hc9 : (cutS t none (some 9)).length ≤ 12 := Nat.le_trans (cutS_len _ _ _) htl
      have hz1 : ("z" : Str).length = 1 := by decide +kernel
      have a1 : (cutS t none (some 9)).length + ("z" : Str).length ≤ lim := by rw [hz1]; simp [lim]; omega
      refine ⟨by simp [rngOk]; omega, ?_⟩
      rw [Int.toNat_natCast]
      refine wLr_pure (g := fun i => D.str (ot t i)) (l.length + 1) 0 [] (by simp [lim]; omega) (fun j _ hj => ?_) ?_
      · have hj40 : j < 40 := by omega
        have a2 : (cutS t none (some 9) ++ "z").length + ((toString ((j : Nat) : Int) : String) : Str).length ≤ lim := by
          have := (digits_ok ⟨j, hj40⟩).2
          simp only at this
          have hL : 100 ≤ lim := by decide
          rw [str_len, hz1]
          omega
        have e0 : (0 + (j : Int)) = ((j : Nat) : Int) := by omega
        simp only [↓WP, ↓WP3, ↓WP4, ↓s_cons, WQ, WQ3, WQ4, clean, wipeD, Tg.slots, lim, Nat.reduceAdd, Nat.reduceLeDiff, HAS, e0, sl_strD (show t.length ≤ lim by simp [lim]; omega), add_str a1, str_run hj40, add_str a2]
        have e1 : D.str (cutS t none (some 9) ++ "z" ++ ((toString ((j : Nat) : Int) : String) : Str)) = D.str (ot t j) := rfl
        exact ⟨fun K h => h, fun K h => h⟩
      · simp only [↓WP, ↓WP3, ↓WP4, ↓s_cons, WQ, WQ3, WQ4, clean, wipeD, Tg.slots, lim, Nat.reduceAdd, Nat.reduceLeDiff, HAS]
        obtain ⟨i0, hi0, hfree⟩ := ot_free (t := t) (l := l) (by omega)
        have hm0 : i0 ∈ (List.range (l.length + 1)).filter (fun i => !decide (ot t i ∈ l)) := by
          rw [List.mem_filter]
          exact ⟨List.mem_range.mpr hi0, by simp [hfree]⟩
        refine wLc_map (f := fun i => D.str (ot t i)) (g := fun i => D.str (ot t i)) (p := fun i => !decide (ot t i ∈ l)) (l := List.range (l.length + 1)) (by simp [Ev.items, Nat.zero_add]) (by simp [lim]; omega) (fun x hx => ?_) ?_
        · simp only [↓WP, ↓WP3, ↓WP4, ↓s_cons, WQ, WQ3, WQ4, clean, wipeD, Tg.slots, lim, Nat.reduceAdd, Nat.reduceLeDiff, HAS, hnin]
          exact ⟨fun K h => h, fun _ => fun K h => h⟩
        · cases hq : (List.range (l.length + 1)).filter (fun i => !decide (ot t i ∈ l)) with
          | nil => rw [hq] at hm0; cases hm0
          | cons y ys =>
            have hy : y ∈ (List.range (l.length + 1)).filter (fun i => !decide (ot t i ∈ l)) := by rw [hq]; exact List.mem_cons_self
            rw [List.mem_filter] at hy
            have hyl := List.mem_range.mp hy.1
            have e0 : ∀ S : Sto, ixD (.lv ((y :: ys).map fun i => D.str (ot t i))) (.int 0) S = .ok (.str (ot t y)) S := fun S => by
              rw [List.map_cons]
              exact ix_lv (atI_nat (j := 0) rfl) S
            rw [e0]
            simp only [↓WP, ↓WP3, ↓WP4, ↓s_cons, WQ, WQ3, WQ4, clean, wipeD, Tg.slots, lim, Nat.reduceAdd, Nat.reduceLeDiff, HAS]
            exact h _ (ot_ok ⟨c0, r, ht, hcl, hr2, htl⟩ (by omega)) (by simpa using hy.2)
  · rintro i σ A' hi ⟨rfl, t, r, rest, x6, rfl, ht, hr2, hrl, h0⟩ K hK _ _ _ _
    obtain ⟨c, hc, _, ec⟩ := sgn_at (r := (rest + (0 + (i : Int))) % 37) (Int.emod_nonneg _ (by omega)) (by have := Int.emod_lt_of_pos (rest + (0 + (i : Int))) (show (0 : Int) < 37 by omega); omega) (fs A')
    have hl1 : t.length + (⟨#[c]⟩ : Str).length ≤ lim := by
      rw [len_list, len_list, ht]
      simp [lim]
      omega
    simp only [↓WP, ↓WP3, ↓WP4, ↓s_cons, WQ, WQ3, WQ4, clean, wipeD, Tg.slots, lim, Nat.reduceAdd, Nat.reduceLeDiff, HAS, mod_int (show (0 : Int) < 37 by decide), ec, add_str hl1, fdiv_int (show (0 : Int) < 37 by decide) (show (37 : Int).natAbs.log2 < 9000 by decide)]
    refine hK _ _ ⟨rfl, t ++ ⟨#[c]⟩, r ++ [c], rest / 37, _, rfl, ?_, fun d hd => ?_, by simp [hrl], Int.ediv_nonneg h0 (by omega)⟩
    · rw [str_list, ht]; rfl
    · rw [List.mem_append] at hd
      rcases hd with hd | hd
      · exact hr2 d hd
      · simp at hd; subst hd; exact hc
end Pr

namespace Pr
open PySem L2 Ev
variable {w k : Nat} {A : Ob}
theorem in_tpS (t : Str) (l : List Str) (S : Sto) : cmpD .in_ (.str t) (.tup (l.map D.str)) S = .ok (.bl (decide (t ∈ l))) S := by
  have f := flat_strs l
  have e : inD S (.str t) (.tup (l.map D.str)) = some (decide (t ∈ l)) := by
    simp only [inD, items, isSeq, flatD, f, Bool.and_true, if_true]
    exact congrArg some (inV_strs t l)
  simp only [cmpD, cmpO, e, ofOpt_some, R.bind_ok]
theorem len_strD {x : Str} (h : x.length ≤ lim) (S : Sto) : bltD .len [.str x] S = .ok (.int ((x.length : Nat) : Int)) S := by
  simp only [bltD, lenD, lengthOf, h, if_true]
theorem isname_u {x : Str} {Q : QD} {E : QX} (hx : nmOk x) (h : Q (.bl true) A) : callQ (prg w) (k + 1) "is_name" [.str x] A Q E := by
  obtain ⟨⟨c, r, e, hc, hr, hl⟩, hn⟩ := hx
  have hlim : x.length ≤ lim := by simp [lim]; omega
  have hpos : 1 ≤ x.length := by rw [len_list, e]; simp
  refine call_of (F := f_is_name) rfl rfl ?_
  show wSs _ _ b_is_name [some (.str x), none] A _
  unfold b_is_name
  have hrs : ∀ S : Sto, cmpD .in_ (.str x) (.tup ((["all", "and", "in", "is", "none", "not", "or", "rule"] : List Str).map D.str)) S = .ok (.bl false) S := fun S => by
    rw [in_tpS]
    exact congrArg (fun b => R.ok (D.bl b) S) (decide_eq_false hn)
  have c1 : decide ((1 : Int) ≤ ((x.length : Nat) : Int)) = true := by rw [decide_eq_true_eq]; omega
  have c2 : decide (((x.length : Nat) : Int) ≤ 12) = true := by rw [decide_eq_true_eq]; omega
  simp only [↓WP, ↓WP3, ↓WP4, ↓s_cons, WQ, WQ3, WQ4, clean, wipeD, Tg.slots, lim, Nat.reduceAdd, Nat.reduceLeDiff, HAS, len_strD hlim, c1, c2, con_RESERVED, con_LETTERS, con_REST, hrs]
  refine ⟨rfl, ?_⟩
  have hix : ixD (.str x) (.int 0) (fs A) = .ok (.str ⟨#[c]⟩) (fs A) := ix_st hlim (atI_nat (j := 0) (by rw [e]; rfl)) _
  have hcl : decide (c ∈ ("abcdefghijklmnopqrstuvwxyz" : Str).cps.toList) = true := decide_eq_true hc
  simp only [↓WP, ↓WP3, ↓WP4, ↓s_cons, WQ, WQ3, WQ4, clean, wipeD, Tg.slots, lim, Nat.reduceAdd, Nat.reduceLeDiff, HAS, hix, in_sign, hcl]
  show wLc (.str x) (x.cps.toList.map fun c => D.str ⟨#[c]⟩) (Tg.nm 1) [some (.str x), none] _ _ (x.cps.toList.map fun c => D.str ⟨#[c]⟩) [] A _
  refine wLc_map (f := fun c : Nat => D.str ⟨#[c]⟩) (g := fun c : Nat => D.bl (decide (c ∈ sgn.cps.toList))) (p := fun _ => true) (l := x.cps.toList) rfl (by rw [← len_list]; exact hlim) (fun d hd => ?_) ?_
  · simp only [↓WP, ↓WP3, ↓WP4, ↓s_cons, WQ, WQ3, WQ4, clean, wipeD, Tg.slots, lim, Nat.reduceAdd, Nat.reduceLeDiff, HAS, in_sign]
    first | exact fun K h => h | exact ⟨fun K h => h, fun K h => h⟩ | exact ⟨fun K h => h, fun _ K h => h⟩
  · have hall : ∀ S : Sto, bltD .all [.lv ((x.cps.toList.filter fun _ => true).map fun c : Nat => D.bl (decide (c ∈ sgn.cps.toList)))] S = .ok (.bl true) S := fun S => by
      have e1 : ((x.cps.toList.filter fun _ => true).map fun c : Nat => D.bl (decide (c ∈ sgn.cps.toList))) = (x.cps.toList.map fun c => decide (c ∈ sgn.cps.toList)).map D.bl := by
        rw [List.filter_eq_self.mpr (fun _ _ => rfl), List.map_map]; rfl
      rw [e1, all_lv]
      have : (x.cps.toList.map fun c => decide (c ∈ sgn.cps.toList)).all id = true := by
        rw [List.all_map, List.all_eq_true]
        intro d hd
        rw [e] at hd
        show decide (d ∈ sgn.cps.toList) = true
        rcases List.mem_cons.mp hd with rfl | hd
        · exact decide_eq_true (lets_sgn _ hc)
        · exact decide_eq_true (hr d hd)
      rw [this]
    simp only [hall, ↓WP, ↓WP3, ↓WP4, ↓s_cons, WQ, WQ3, WQ4, clean, wipeD, Tg.slots, lim, Nat.reduceAdd, Nat.reduceLeDiff, HAS]
    exact h
theorem check_u {x : Str} {Q : QD} {E : QX} (hx : nmOk x) (h : Q .non A) : callQ (prg w) (k + 2) "_check_name" [.str x] A Q E := by
  refine call_of (F := f_check_name) rfl rfl ?_
  show wSs _ _ b_check_name [some (.str x)] A _
  unfold b_check_name
  simp only [↓WP, ↓WP3, ↓WP4, ↓s_cons, WQ, WQ3, WQ4, clean, wipeD, Tg.slots, lim, Nat.reduceAdd, Nat.reduceLeDiff, HAS]
  refine isname_u hx ?_
  simp only [↓WP, ↓WP3, ↓WP4, ↓s_cons, WQ, WQ3, WQ4, clean, wipeD, Tg.slots, lim, Nat.reduceAdd, Nat.reduceLeDiff, HAS]
  exact h
/-- a column -/
abbrev Col := Str × Int × Int
def colO (c : Col) : D := .ob "Column" ["name", "low", "high"] [.str c.1, .int c.2.1, .int c.2.2]
theorem colInit_u {n : Nat} {c : Col} {Q : QD} {E : QX} (hn : n ∉ A.map (·.1)) (hx : nmOk c.1) (hl : c.2.1 ≤ c.2.2) (h : Q .non ((n, .ins "Column" ["name", "low", "high"] [.str c.1, .int c.2.1, .int c.2.2]) :: A)) :
    callQ (prg w) (k + 3) "Column.__init__" [.ref n, .str c.1, .int c.2.1, .int c.2.2] ((n, .ins "Column" [] []) :: A) Q E := by
  refine call_of (F := f_Column_init) rfl rfl ?_
  show wSs _ _ b_Column_init [some (.ref n), some (.str c.1), some (.int c.2.1), some (.int c.2.2)] _ _
  unfold b_Column_init
  simp only [↓WP, ↓WP3, ↓WP4, ↓s_cons, WQ, WQ3, WQ4, clean, wipeD, Tg.slots, lim, Nat.reduceAdd, Nat.reduceLeDiff, HAS]
  refine check_u hx ?_
  have hgt : decide (c.2.1 > c.2.2) = false := by rw [decide_eq_false_iff_not]; omega
  simp only [↓WP, ↓WP3, ↓WP4, ↓s_cons, WQ, WQ3, WQ4, clean, wipeD, Tg.slots, lim, Nat.reduceAdd, Nat.reduceLeDiff, HAS, hgt, look_head, put_head hn]
  exact ⟨by decide, by decide, by decide, h⟩
theorem lk_Column {w : Nat} : List.lookup ("Column" : Str) (prg w).fns = none := (rfl)
theorem ek_Column {w : Nat} : List.lookup ("Column" : Str) (prg w).eks = some (.mk "Column" "Column.__init__" true) := (rfl)
theorem hA_Column {w : Nat} : (prg w).hasA "Column.__init__" "Column.__init__" = true := (rfl)
theorem column_u {c : Col} {Q : QD} {E : QX} (hx : nmOk c.1) (hl : c.2.1 ≤ c.2.2) (h : Q (colO c) A) : callQ (prg w) (k + 4) "Column" [.str c.1, .int c.2.1, .int c.2.2] A Q E := by
  refine call_mk lk_Column ek_Column hA_Column fun n _ hn => ?_
  refine colInit_u hn hx hl ⟨rfl, _, _, look_head, ?_⟩
  rw [drop_head hn]
  exact h
end Pr

namespace Pr
open PySem L2 Ev
variable {w k : Nat} {A : Ob}
def schO (cs : List Col) : D := .ob "Schema" ["columns"] [.tup (cs.map colO)]
/-- what a schema is made of -/
structure SchOk (cs : List Col) : Prop where
  pos : 1 ≤ cs.length
  few : cs.length ≤ 3
  nms : ∀ c, c ∈ cs → nmOk c.1
  ord : ∀ c, c ∈ cs → c.2.1 ≤ c.2.2
  nd : (cs.map (·.1)).Nodup
theorem self_col {c : Col} {K : Str → List Str → List D → Prop} : selfQ A (colO c) K = K "Column" ["name", "low", "high"] [.str c.1, .int c.2.1, .int c.2.2] := (rfl)
theorem schInit_u {n : Nat} {cs : List Col} {Q : QD} {E : QX} (hn : n ∉ A.map (·.1)) (ok : SchOk cs) (h : Q .non ((n, .ins "Schema" ["columns"] [.tup (cs.map colO)]) :: A)) :
    callQ (prg w) (k + 1) "Schema.__init__" (.ref n :: cs.map colO) ((n, .ins "Schema" [] []) :: A) Q E := by
  have hf := ok.few
  have hp := ok.pos
  have nov : (cs.map colO).any isVw = false := by
    rw [List.any_eq_false]
    intro d hd
    obtain ⟨c, _, rfl⟩ := List.mem_map.mp hd
    simp [colO, isVw]
  refine call_star 1 (F := f_Schema_init) rfl rfl rfl (by simp) (by simp [lim]; omega) nov ?_
  show wSs _ _ b_Schema_init [some (.ref n), some (.tup (cs.map colO)), none, none] _ _
  unfold b_Schema_init
  have hlen : ∀ S : Sto, bltD .len [.tup (cs.map colO)] S = .ok (.int ((cs.length : Nat) : Int)) S := fun S => by rw [len_tup, List.length_map]
  have c1 : decide ((1 : Int) ≤ ((cs.length : Nat) : Int)) = true := by rw [decide_eq_true_eq]; omega
  have c2 : decide (((cs.length : Nat) : Int) ≤ 3) = true := by rw [decide_eq_true_eq]; omega
  simp only [↓hlen, ↓WP, ↓WP3, ↓WP4, ↓s_cons, WQ, WQ3, WQ4, clean, wipeD, Tg.slots, lim, Nat.reduceAdd, Nat.reduceLeDiff, HAS, c1, c2]
  refine ⟨by simp [rngOk]; omega, ?_⟩
  rw [Int.toNat_natCast]
  refine wFr_of (m := cs.length) (fun i σ A' => A' = ((n, .ins "Schema" [] []) :: A) ∧ ∃ x, σ = [some (.ref n), some (.tup (cs.map colO)), x, none]) ?_ ?_ cs.length 0 _ _ (by omega) ⟨rfl, none, rfl⟩
  · rintro σ A' ⟨rfl, x, rfl⟩
    have ht : ∀ S : Sto, bltD .tuple [.tup (cs.map colO)] S = .ok (.tup (cs.map colO)) S := fun S => rfl
    simp only [↓ht, ↓WP, ↓WP3, ↓WP4, ↓s_cons, WQ, WQ3, WQ4, clean, wipeD, Tg.slots, lim, Nat.reduceAdd, Nat.reduceLeDiff, HAS, look_head, put_head hn]
    exact ⟨by decide, h⟩
  · rintro i σ A' hi ⟨rfl, x, rfl⟩ K hK _ _ _ _
    have e0 : (0 + (i : Int)) = ((i : Nat) : Int) := by omega
    have hc : cs[i]? = some cs[i] := List.getElem?_eq_getElem hi
    have hix : ∀ S : Sto, ixD (.tup (cs.map colO)) (.int ((i : Nat) : Int)) S = .ok (colO cs[i]) S := ix_tp (atI_nat (by rw [List.getElem?_map, hc]; rfl))
    have hcut : cutD (cs.map colO) none (some ((i : Nat) : Int)) = (cs.take i).map colO := by rw [cut_to _ (by simp; omega), List.map_take]
    simp only [↓WP, ↓WP3, ↓WP4, ↓s_cons, WQ, WQ3, WQ4, clean, wipeD, Tg.slots, lim, Nat.reduceAdd, Nat.reduceLeDiff, HAS, e0, hix, sl_tpD, hcut, self_col]
    refine wLc_map (f := colO) (g := fun c : Col => D.str c.1) (p := fun _ => true) (l := cs.take i) rfl (by rw [List.length_take]; simp [lim]; omega) (fun c _ => ?_) ?_
    · simp only [↓WP, ↓WP3, ↓WP4, ↓s_cons, WQ, WQ3, WQ4, clean, wipeD, Tg.slots, lim, Nat.reduceAdd, Nat.reduceLeDiff, HAS, self_col]
      first | exact fun K h => h | exact ⟨fun K h => h, fun K h => h⟩ | exact ⟨fun K h => h, fun _ K h => h⟩
    · have e1 : ((cs.take i).filter fun _ => true).map (fun c : Col => D.str c.1) = ((cs.take i).map (·.1)).map D.str := by
        rw [List.filter_eq_self.mpr (fun _ _ => rfl), List.map_map]; rfl
      have hni : decide (cs[i].1 ∈ (cs.take i).map (·.1)) = false := by
        rw [decide_eq_false_iff_not]
        intro hm
        have nd := ok.nd
        rw [← List.take_append_drop i cs, List.map_append, List.nodup_append] at nd
        refine nd.2.2 _ hm _ ?_ rfl
        rw [List.drop_eq_getElem_cons hi, List.map_cons]
        exact List.mem_cons_self
      rw [e1]
      simp only [in_lv, hni, ↓WP, ↓WP3, ↓WP4, ↓s_cons, WQ, WQ3, WQ4, clean, wipeD, Tg.slots, lim, Nat.reduceAdd, Nat.reduceLeDiff, HAS]
      exact hK _ _ ⟨rfl, _, rfl⟩
theorem lk_Schema {w : Nat} : List.lookup ("Schema" : Str) (prg w).fns = none := (rfl)
theorem ek_Schema {w : Nat} : List.lookup ("Schema" : Str) (prg w).eks = some (.mk "Schema" "Schema.__init__" true) := (rfl)
theorem hA_Schema {w : Nat} : (prg w).hasA "Schema.__init__" "Schema.__init__" = true := (rfl)
theorem schema_u {cs : List Col} {Q : QD} {E : QX} (ok : SchOk cs) (h : Q (schO cs) A) : callQ (prg w) (k + 2) "Schema" (cs.map colO) A Q E := by
  refine call_mk lk_Schema ek_Schema hA_Schema fun n _ hn => ?_
  refine schInit_u hn ok ⟨rfl, _, _, look_head, ?_⟩
  rw [drop_head hn]
  exact h
end Pr

namespace Pr
open PySem L2 Ev
variable {w k : Nat} {A : Ob}
/-! ### is_name of any text; what is raised where a name is none -/
def hdB : List Nat → Bool
  | c :: r => decide (c ∈ lets.cps.toList) && (c :: r).all fun d => decide (d ∈ sgn.cps.toList)
  | [] => false
theorem hdB_c {c : Nat} {r : List Nat} : hdB (c :: r) = (decide (c ∈ lets.cps.toList) && (c :: r).all fun d => decide (d ∈ sgn.cps.toList)) := rfl
def nmB (x : Str) : Bool := decide (1 ≤ x.length ∧ x.length ≤ 12 ∧ x ∉ rsv8) && hdB x.cps.toList
theorem nmOk_B {x : Str} (h : nmOk x) : nmB x = true := by
  obtain ⟨⟨c, r, e, hc, hr, hl⟩, hn⟩ := h
  have hpos : 1 ≤ x.length := by rw [len_list, e]; simp
  unfold nmB
  rw [decide_eq_true ⟨hpos, hl, hn⟩, Bool.true_and, e]
  simp only [hdB, hc, decide_true, Bool.true_and, List.all_cons, Bool.and_eq_true, decide_eq_true_eq, List.all_eq_true]
  exact ⟨lets_sgn _ hc, hr⟩
theorem nmB_ok {x : Str} (h : nmB x = true) : nmOk x := by
  unfold nmB at h
  rw [Bool.and_eq_true, decide_eq_true_eq] at h
  obtain ⟨⟨h1, h2, h3⟩, h4⟩ := h
  cases e : x.cps.toList with
  | nil => rw [e] at h4; cases h4
  | cons c r =>
    rw [e] at h4
    simp only [hdB, List.all_cons, Bool.and_eq_true, decide_eq_true_eq, List.all_eq_true] at h4
    exact ⟨⟨c, r, e, h4.1, h4.2.2, h2⟩, h3⟩
theorem isn_u {x : Str} {Q : QD} {E : QX} (hx : x.length ≤ 1000) (h : Q (.bl (nmB x)) A) : callQ (prg w) (k + 1) "is_name" [.str x] A Q E := by
  have hlim : x.length ≤ lim := by simp [lim]; omega
  refine call_of (F := f_is_name) rfl rfl ?_
  show wSs _ _ b_is_name [some (.str x), none] A _
  unfold b_is_name
  have hrs : ∀ S : Sto, cmpD .in_ (.str x) (.tup ((["all", "and", "in", "is", "none", "not", "or", "rule"] : List Str).map D.str)) S = .ok (.bl (decide (x ∈ rsv8))) S := fun S => in_tpS x rsv8 S
  by_cases c1 : (1 : Int) ≤ ((x.length : Nat) : Int)
  · by_cases c2 : ((x.length : Nat) : Int) ≤ 12
    · by_cases c3 : x ∈ rsv8
      · have e0 : nmB x = false := by
          unfold nmB
          rw [decide_eq_false (fun z => z.2.2 c3), Bool.false_and]
        rw [e0] at h
        simp only [↓WP, ↓WP3, ↓WP4, ↓s_cons, WQ, WQ3, WQ4, clean, wipeD, Tg.slots, lim, Nat.reduceAdd, Nat.reduceLeDiff, HAS, len_strD hlim, decide_eq_true c1, decide_eq_true c2, con_RESERVED, con_LETTERS, con_REST, hrs, decide_eq_true c3]
        first | exact h | exact ⟨rfl, h⟩
      · cases e : x.cps.toList with
        | nil => exfalso; rw [len_list, e] at c1; simp at c1
        | cons c r =>
          have e0 : nmB x = hdB (c :: r) := by
            unfold nmB
            rw [e, decide_eq_true ⟨by omega, by omega, c3⟩, Bool.true_and]
          rw [e0] at h
          have hix : ixD (.str x) (.int 0) (fs A) = .ok (.str ⟨#[c]⟩) (fs A) := ix_st hlim (atI_nat (j := 0) (by rw [e]; rfl)) _
          have hsub : (c ∈ ("abcdefghijklmnopqrstuvwxyz" : Str).cps.toList) = (c ∈ lets.cps.toList) := rfl
          by_cases hc : c ∈ lets.cps.toList
          · simp only [↓WP, ↓WP3, ↓WP4, ↓s_cons, WQ, WQ3, WQ4, clean, wipeD, Tg.slots, lim, Nat.reduceAdd, Nat.reduceLeDiff, HAS, len_strD hlim, decide_eq_true c1, decide_eq_true c2, con_RESERVED, con_LETTERS, con_REST, hrs, decide_eq_false c3, hix, in_sign, hsub, decide_eq_true hc]
            refine ⟨rfl, ?_⟩
            try simp only [↓WP, ↓WP3, ↓WP4, ↓s_cons, WQ, WQ3, WQ4, clean, wipeD, Tg.slots, lim, Nat.reduceAdd, Nat.reduceLeDiff, HAS, hix, in_sign, hsub, decide_eq_true hc]
            show wLc (.str x) (x.cps.toList.map fun c => D.str ⟨#[c]⟩) (Tg.nm 1) [some (.str x), none] _ _ (x.cps.toList.map fun c => D.str ⟨#[c]⟩) [] A _
            refine wLc_map (f := fun c : Nat => D.str ⟨#[c]⟩) (g := fun c : Nat => D.bl (decide (c ∈ sgn.cps.toList))) (p := fun _ => true) (l := x.cps.toList) rfl (by rw [← len_list]; exact hlim) (fun d hd => ?_) ?_
            · simp only [↓WP, ↓WP3, ↓WP4, ↓s_cons, WQ, WQ3, WQ4, clean, wipeD, Tg.slots, lim, Nat.reduceAdd, Nat.reduceLeDiff, HAS, in_sign]
              first | exact fun K h => h | exact ⟨fun K h => h, fun K h => h⟩ | exact ⟨fun K h => h, fun _ K h => h⟩
            · have hall : ∀ S : Sto, bltD .all [.lv ((x.cps.toList.filter fun _ => true).map fun c : Nat => D.bl (decide (c ∈ sgn.cps.toList)))] S = .ok (.bl (hdB (c :: r))) S := fun S => by
                have e1 : ((x.cps.toList.filter fun _ => true).map fun c : Nat => D.bl (decide (c ∈ sgn.cps.toList))) = (x.cps.toList.map fun c => decide (c ∈ sgn.cps.toList)).map D.bl := by
                  rw [List.filter_eq_self.mpr (fun _ _ => rfl), List.map_map]; rfl
                rw [e1, all_lv, List.all_map, e]
                rw [hdB_c, decide_eq_true hc, Bool.true_and]
                rfl
              simp only [hall, ↓WP, ↓WP3, ↓WP4, ↓s_cons, WQ, WQ3, WQ4, clean, wipeD, Tg.slots, lim, Nat.reduceAdd, Nat.reduceLeDiff, HAS]
              exact h
          · have e2 : hdB (c :: r) = false := by rw [hdB_c, decide_eq_false hc, Bool.false_and]
            rw [e2] at h
            simp only [↓WP, ↓WP3, ↓WP4, ↓s_cons, WQ, WQ3, WQ4, clean, wipeD, Tg.slots, lim, Nat.reduceAdd, Nat.reduceLeDiff, HAS, len_strD hlim, decide_eq_true c1, decide_eq_true c2, con_RESERVED, con_LETTERS, con_REST, hrs, decide_eq_false c3, hix, in_sign, hsub, decide_eq_false hc]
            exact ⟨rfl, by try simp only [↓WP, ↓WP3, ↓WP4, ↓s_cons, WQ, WQ3, WQ4, clean, wipeD, Tg.slots, lim, Nat.reduceAdd, Nat.reduceLeDiff, HAS, hix, in_sign, hsub, decide_eq_false hc]
                           first | exact h | exact ⟨rfl, h⟩⟩
    · have e0 : nmB x = false := by
        unfold nmB
        rw [decide_eq_false (fun z => c2 (by omega)), Bool.false_and]
      rw [e0] at h
      simp only [↓WP, ↓WP3, ↓WP4, ↓s_cons, WQ, WQ3, WQ4, clean, wipeD, Tg.slots, lim, Nat.reduceAdd, Nat.reduceLeDiff, HAS, len_strD hlim, decide_eq_true c1, decide_eq_false c2, con_RESERVED, con_LETTERS, con_REST, hrs]
      first | exact h | exact ⟨rfl, h⟩
  · have e0 : nmB x = false := by
      unfold nmB
      rw [decide_eq_false (fun z => c1 (by omega)), Bool.false_and]
    rw [e0] at h
    simp only [↓WP, ↓WP3, ↓WP4, ↓s_cons, WQ, WQ3, WQ4, clean, wipeD, Tg.slots, lim, Nat.reduceAdd, Nat.reduceLeDiff, HAS, len_strD hlim, decide_eq_false c1, con_RESERVED, con_LETTERS, con_REST, hrs]
    first | exact h | exact ⟨rfl, h⟩
theorem chk_u {x : Str} {Q : QD} {E : QX} (hx : x.length ≤ 1000) (h1 : nmB x = true → Q .non A) (h2 : nmB x = false → E "BadName" [("name", .str x)] A) : callQ (prg w) (k + 3) "_check_name" [.str x] A Q E := by
  refine call_of (F := f_check_name) rfl rfl ?_
  show wSs _ _ b_check_name [some (.str x)] A _
  unfold b_check_name
  simp only [↓WP, ↓WP3, ↓WP4, ↓s_cons, WQ, WQ3, WQ4, clean, wipeD, Tg.slots, lim, Nat.reduceAdd, Nat.reduceLeDiff, HAS]
  refine isn_u (k := k + 1) hx ?_
  cases hb : nmB x with
  | true =>
    try simp only [↓WP, ↓WP3, ↓WP4, ↓s_cons, WQ, WQ3, WQ4, clean, wipeD, Tg.slots, lim, Nat.reduceAdd, Nat.reduceLeDiff, HAS, Bool.not_true]
    exact h1 hb
  | false =>
    try simp only [↓WP, ↓WP3, ↓WP4, ↓s_cons, WQ, WQ3, WQ4, clean, wipeD, Tg.slots, lim, Nat.reduceAdd, Nat.reduceLeDiff, HAS, Bool.not_false]
    refine ⟨rok_of exc_BadName, raz_of exc_BadName (by simp [argsX]; omega) (by simp) rfl ?_⟩
    try simp only [↓WP, ↓WP3, ↓WP4, ↓s_cons, WQ, WQ3, WQ4, clean, wipeD, Tg.slots, lim, Nat.reduceAdd, Nat.reduceLeDiff, HAS]
    exact h2 hb
theorem colInitX_u {n : Nat} {x : Str} {lo hi : Int} {Q : QD} {E : QX} (hn : n ∉ A.map (·.1)) (hx : x.length ≤ 1000) (h : nmB x = true → lo ≤ hi → Q .non ((n, .ins "Column" ["name", "low", "high"] [.str x, .int lo, .int hi]) :: A))
    (h1 : nmB x = false → E "BadName" [("name", .str x)] ((n, .ins "Column" [] []) :: A)) (h2 : nmB x = true → hi < lo → E "BadSpan" [("high", .int hi), ("low", .int lo)] ((n, .ins "Column" [] []) :: A)) :
    callQ (prg w) (k + 4) "Column.__init__" [.ref n, .str x, .int lo, .int hi] ((n, .ins "Column" [] []) :: A) Q E := by
  refine call_of (F := f_Column_init) rfl rfl ?_
  show wSs _ _ b_Column_init [some (.ref n), some (.str x), some (.int lo), some (.int hi)] _ _
  unfold b_Column_init
  simp only [↓WP, ↓WP3, ↓WP4, ↓s_cons, WQ, WQ3, WQ4, clean, wipeD, Tg.slots, lim, Nat.reduceAdd, Nat.reduceLeDiff, HAS]
  refine chk_u (k := k) hx (fun hb => ?_) fun hb => ?_
  · by_cases hgt : lo > hi
    · simp only [↓WP, ↓WP3, ↓WP4, ↓s_cons, WQ, WQ3, WQ4, clean, wipeD, Tg.slots, lim, Nat.reduceAdd, Nat.reduceLeDiff, HAS, decide_eq_true hgt]
      refine ⟨rok_of exc_BadSpan, raz_of exc_BadSpan rfl (by simp) rfl ?_⟩
      try simp only [↓WP, ↓WP3, ↓WP4, ↓s_cons, WQ, WQ3, WQ4, clean, wipeD, Tg.slots, lim, Nat.reduceAdd, Nat.reduceLeDiff, HAS]
      exact h2 hb hgt
    · simp only [↓WP, ↓WP3, ↓WP4, ↓s_cons, WQ, WQ3, WQ4, clean, wipeD, Tg.slots, lim, Nat.reduceAdd, Nat.reduceLeDiff, HAS, decide_eq_false hgt, look_head, put_head hn]
      exact ⟨by decide, by decide, by decide, h hb (by omega)⟩
  · try simp only [↓WP, ↓WP3, ↓WP4, ↓s_cons, WQ, WQ3, WQ4, clean, wipeD, Tg.slots, lim, Nat.reduceAdd, Nat.reduceLeDiff, HAS]
    exact h1 hb
theorem columnX_u {x : Str} {lo hi : Int} {Q : QD} {E : QX} (hx : x.length ≤ 1000) (h : nmB x = true → lo ≤ hi → Q (colO (x, lo, hi)) A) (h1 : nmB x = false → ∀ A' : Ob, Kp A A' → E "BadName" [("name", .str x)] A')
    (h2 : nmB x = true → hi < lo → ∀ A' : Ob, Kp A A' → E "BadSpan" [("high", .int hi), ("low", .int lo)] A') : callQ (prg w) (k + 5) "Column" [.str x, .int lo, .int hi] A Q E := by
  refine call_mk lk_Column ek_Column hA_Column fun n _ hn => ?_
  refine colInitX_u hn hx (fun a b => ⟨rfl, _, _, look_head, ?_⟩) (fun a => h1 a _ (.cons hn)) fun a b => h2 a b _ (.cons hn)
  rw [drop_head hn]
  exact h a b
end Pr

namespace Pr
open PySem L2 Ev
variable {w k : Nat} {A : Ob}
/-! ### what an except clause returns -/
theorem hk_ev {c : Str} {fs : List (Str × D)} {σ : Sg} {ls : List Str} (hl : (kin.2.filter fun y => decide ((c, y) ∈ sub)) = ls) (h : ls.length ≤ 100) : evH (ctxOf (prg w) k) c fs (.kinds "_law_kinds") σ [] = .ok (.lv (ls.map .str)) [] := by
  simp only [evH]
  have e1 : ((ctxOf (prg w) k).kin.2.filter ((ctxOf (prg w) k).sub c)) = ls := hl
  have h2 : ls.length ≤ lim := Nat.le_trans h (by decide)
  rw [e1, if_pos ⟨rfl, h2⟩]
theorem hf_ev {c f : Str} {fs : List (Str × D)} {σ : Sg} {d : D} (hf : (ctxOf (prg w) k).fok c f = true) (hd : fs.lookup f = some d) : evH (ctxOf (prg w) k) c fs (.fld f) σ [] = .ok d [] := by
  simp only [evH, hf, gd_t, hd, ofOpt_some]
theorem hand1 {c f : Str} {fs : List (Str × D)} {σ : Sg} {ls : List Str} {d : D} (hl : (kin.2.filter fun y => decide ((c, y) ∈ sub)) = ls) (h : ls.length ≤ 100) (hf : (ctxOf (prg w) k).fok c f = true) (hd : fs.lookup f = some d) :
    evH (ctxOf (prg w) k) c fs (.lst (.cons (.kinds "_law_kinds") (.cons (.fld f) .nil))) σ [] = .ok (.lv [.lv (ls.map .str), d]) [] := by
  have h1 := hk_ev (w := w) (k := k) (fs := fs) (σ := σ) hl h
  have h2 := hf_ev (w := w) (k := k) (σ := σ) hf hd
  simp only [evH, evHs] at h1 h2 ⊢
  simp only [h1, h2, R.bind_ok]
  rfl
theorem hand2 {c f g : Str} {fs : List (Str × D)} {σ : Sg} {ls : List Str} {d e : D} (hl : (kin.2.filter fun y => decide ((c, y) ∈ sub)) = ls) (h : ls.length ≤ 100) (hf : (ctxOf (prg w) k).fok c f = true) (hd : fs.lookup f = some d)
    (hg : (ctxOf (prg w) k).fok c g = true) (he : fs.lookup g = some e) :
    evH (ctxOf (prg w) k) c fs (.lst (.cons (.kinds "_law_kinds") (.cons (.fld f) (.cons (.fld g) .nil)))) σ [] = .ok (.lv [.lv (ls.map .str), d, e]) [] := by
  have h1 := hk_ev (w := w) (k := k) (fs := fs) (σ := σ) hl h
  have h2 := hf_ev (w := w) (k := k) (σ := σ) hf hd
  have h3 := hf_ev (w := w) (k := k) (σ := σ) hg he
  simp only [evH, evHs] at h1 h2 h3 ⊢
  simp only [h1, h2, h3, R.bind_ok]
  rfl
/-- the first clause takes it -/
theorem hs_hit {c' c : Str} {fs : List (Str × D)} {F : QF} {i : Nat} {h : HE} {r : List (Str × Nat × HE)} {σ : Sg} {d : D} (hs : decide ((c', c) ∈ sub) = true) (he : evH (ctxOf (prg w) k) c' fs h (σ.set i none) [] = .ok d []) (hc : clean d = true) (q : F (.rt d) A) : hselQ (prg w) k c' fs F ((c, i, h) :: r) σ A := by
  unfold hselQ
  refine .mk (fun _ => ?_) fun z => absurd (hs.symm.trans z) (by decide)
  rw [he]
  exact ⟨hc, q⟩
/-- the first clause lets it by -/
theorem hs_miss {c' c : Str} {fs : List (Str × D)} {F : QF} {i : Nat} {h : HE} {r : List (Str × Nat × HE)} {σ : Sg} (hs : decide ((c', c) ∈ sub) = false) (q : hselQ (prg w) k c' fs F r σ A) : hselQ (prg w) k c' fs F ((c, i, h) :: r) σ A := by
  unfold hselQ
  exact .mk (fun z => absurd (hs.symm.trans z) (by decide)) fun _ => q
theorem tq_hit {c' c : Str} {fs : List (Str × D)} {F : QF} {i : Nat} {h : HE} {σ : Sg} {d : D} (hx : ((prg w).exc.lookup c').isSome = true) (hs : decide ((c', c) ∈ sub) = true) (he : evH (ctxOf (prg w) k) c' fs h (σ.set i none) [] = .ok d []) (hc : clean d = true) (q : F (.rt d) A) : tryQ (prg w) k c i h F (.ex σ c' fs) A := by
  refine ⟨hx, .mk (fun _ => ?_) fun z => absurd (hs.symm.trans z) (by decide)⟩
  rw [he]
  exact ⟨hc, q⟩
def strL (l : List Str) : D := .lv (l.map .str)
def faultL (c : Str) : List Str := ["ValueError", "TellError", "NameFault", c]
end Pr

namespace Pr
open PySem L2 Ev
variable {w k : Nat} {A : Ob}
/-- the first text that stands there twice -/
def dupAt (seen : List Str) : List Str → Option Str
  | [] => none
  | x :: r => if x ∈ seen then some x else dupAt (seen ++ [x]) r
theorem dup_step {l : List Str} {i : Nat} (hi : i < l.length) : dupAt (l.take i) (l.drop i) = if l[i] ∈ l.take i then some l[i] else dupAt (l.take (i + 1)) (l.drop (i + 1)) := by
  rw [List.drop_eq_getElem_cons hi]
  show (if l[i] ∈ l.take i then _ else _) = _
  rw [List.take_append_getElem hi]
theorem dup_nd : ∀ {l seen : List Str}, dupAt seen l = none → (∀ x, x ∈ l → x ∉ seen) ∧ l.Nodup
  | [], seen, _ => ⟨by simp, List.nodup_nil⟩
  | x :: r, seen, h => by
    unfold dupAt at h
    split at h
    · cases h
    · rename_i hx
      obtain ⟨h1, h2⟩ := dup_nd h
      refine ⟨fun y hy => ?_, ?_⟩
      · rcases List.mem_cons.mp hy with rfl | hy
        · exact hx
        · exact fun z => h1 y hy (List.mem_append_left _ z)
      · rw [List.nodup_cons]
        exact ⟨fun z => h1 x z (by simp), h2⟩
theorem nd_dup : ∀ {l seen : List Str}, (∀ x, x ∈ l → x ∉ seen) → l.Nodup → dupAt seen l = none
  | [], _, _, _ => rfl
  | x :: r, seen, h, hn => by
    unfold dupAt
    rw [List.nodup_cons] at hn
    rw [if_neg (h x List.mem_cons_self)]
    refine nd_dup (fun y hy z => ?_) hn.2
    rcases List.mem_append.mp z with z | z
    · exact h y (List.mem_cons_of_mem _ hy) z
    · simp at z
      subst z
      exact hn.1 hy
theorem schInitX_u {n : Nat} {cs : List Col} {Q : QD} {E : QX} (hn : n ∉ A.map (·.1)) (hl : cs.length ≤ 10) (hx : ∀ c, c ∈ cs → c.1.length ≤ 1000) (h : 1 ≤ cs.length → cs.length ≤ 3 → dupAt [] (cs.map (·.1)) = none → Q .non ((n, .ins "Schema" ["columns"] [.tup (cs.map colO)]) :: A))
    (h1 : ¬ (1 ≤ cs.length ∧ cs.length ≤ 3) → E "BadCount" [("number", .int ((cs.length : Nat) : Int))] ((n, .ins "Schema" [] []) :: A))
    (h2 : 1 ≤ cs.length → cs.length ≤ 3 → ∀ x, dupAt [] (cs.map (·.1)) = some x → E "DuplicateName" [("name", .str x)] ((n, .ins "Schema" [] []) :: A)) :
    callQ (prg w) (k + 3) "Schema.__init__" (.ref n :: cs.map colO) ((n, .ins "Schema" [] []) :: A) Q E := by
  have nov : (cs.map colO).any isVw = false := by
    rw [List.any_eq_false]
    intro d hd
    obtain ⟨c, _, rfl⟩ := List.mem_map.mp hd
    simp [colO, isVw]
  refine call_star 1 (F := f_Schema_init) rfl rfl rfl (by simp) (by simp [lim]; omega) nov ?_
  show wSs _ _ b_Schema_init [some (.ref n), some (.tup (cs.map colO)), none, none] _ _
  unfold b_Schema_init
  have hlen : ∀ S : Sto, bltD .len [.tup (cs.map colO)] S = .ok (.int ((cs.length : Nat) : Int)) S := fun S => by rw [len_tup, List.length_map]
  by_cases c1 : (1 : Int) ≤ ((cs.length : Nat) : Int)
  · by_cases c2 : ((cs.length : Nat) : Int) ≤ 3
    · simp only [↓hlen, ↓WP, ↓WP3, ↓WP4, ↓s_cons, WQ, WQ3, WQ4, clean, wipeD, Tg.slots, lim, Nat.reduceAdd, Nat.reduceLeDiff, HAS, decide_eq_true c1, decide_eq_true c2]
      refine ⟨by simp [rngOk]; omega, ?_⟩
      rw [Int.toNat_natCast]
      refine wFr_of (m := cs.length) (fun i σ A' => A' = ((n, .ins "Schema" [] []) :: A) ∧ dupAt [] (cs.map (·.1)) = dupAt ((cs.map (·.1)).take i) ((cs.map (·.1)).drop i) ∧ ∃ x, σ = [some (.ref n), some (.tup (cs.map colO)), x, none]) ?_ ?_ cs.length 0 _ _ (by omega) ⟨rfl, by simp, none, rfl⟩
      · rintro σ A' ⟨rfl, hd, x, rfl⟩
        have ht : ∀ S : Sto, bltD .tuple [.tup (cs.map colO)] S = .ok (.tup (cs.map colO)) S := fun S => rfl
        rw [List.drop_of_length_le (by simp)] at hd
        simp only [↓ht, ↓WP, ↓WP3, ↓WP4, ↓s_cons, WQ, WQ3, WQ4, clean, wipeD, Tg.slots, lim, Nat.reduceAdd, Nat.reduceLeDiff, HAS, look_head, put_head hn]
        exact ⟨by decide, h (by omega) (by omega) hd⟩
      · rintro i σ A' hi ⟨rfl, hd, x, rfl⟩ K hK _ _ _ hX
        have e0 : (0 + (i : Int)) = ((i : Nat) : Int) := by omega
        have hc : cs[i]? = some cs[i] := List.getElem?_eq_getElem hi
        have hix : ∀ S : Sto, ixD (.tup (cs.map colO)) (.int ((i : Nat) : Int)) S = .ok (colO cs[i]) S := ix_tp (atI_nat (by rw [List.getElem?_map, hc]; rfl))
        have hcut : cutD (cs.map colO) none (some ((i : Nat) : Int)) = (cs.take i).map colO := by rw [cut_to _ (by simp; omega), List.map_take]
        have hi' : i < (cs.map (·.1)).length := by simpa using hi
        rw [dup_step hi', List.getElem_map] at hd
        simp only [↓WP, ↓WP3, ↓WP4, ↓s_cons, WQ, WQ3, WQ4, clean, wipeD, Tg.slots, lim, Nat.reduceAdd, Nat.reduceLeDiff, HAS, e0, hix, sl_tpD, hcut, self_col]
        refine wLc_map (f := colO) (g := fun c : Col => D.str c.1) (p := fun _ => true) (l := cs.take i) rfl (by rw [List.length_take]; simp [lim]; omega) (fun c _ => ?_) ?_
        · simp only [↓WP, ↓WP3, ↓WP4, ↓s_cons, WQ, WQ3, WQ4, clean, wipeD, Tg.slots, lim, Nat.reduceAdd, Nat.reduceLeDiff, HAS, self_col]
          first | exact fun K h => h | exact ⟨fun K h => h, fun K h => h⟩ | exact ⟨fun K h => h, fun _ K h => h⟩
        · have e1 : ((cs.take i).filter fun _ => true).map (fun c : Col => D.str c.1) = ((cs.take i).map (·.1)).map D.str := by
            rw [List.filter_eq_self.mpr (fun _ _ => rfl), List.map_map]; rfl
          rw [e1, List.map_take]
          by_cases hm : cs[i].1 ∈ (cs.map (·.1)).take i
          · rw [if_pos hm] at hd
            have hxl := hx cs[i] (List.getElem_mem hi)
            simp only [in_lv, decide_eq_true hm, ↓WP, ↓WP3, ↓WP4, ↓s_cons, WQ, WQ3, WQ4, clean, wipeD, Tg.slots, lim, Nat.reduceAdd, Nat.reduceLeDiff, HAS, hix, self_col]
            refine ⟨rok_of exc_DuplicateName, raz_of exc_DuplicateName (by simp [argsX]; omega) (by simp) rfl ?_⟩
            refine hX _ _ _ _ ?_
            rw [seq_ex, retF_ex]
            exact h2 (by omega) (by omega) _ hd
          · rw [if_neg hm] at hd
            simp only [in_lv, decide_eq_false hm, ↓WP, ↓WP3, ↓WP4, ↓s_cons, WQ, WQ3, WQ4, clean, wipeD, Tg.slots, lim, Nat.reduceAdd, Nat.reduceLeDiff, HAS]
            exact hK _ _ ⟨rfl, hd, _, rfl⟩
    · simp only [↓hlen, ↓WP, ↓WP3, ↓WP4, ↓s_cons, WQ, WQ3, WQ4, clean, wipeD, Tg.slots, lim, Nat.reduceAdd, Nat.reduceLeDiff, HAS, decide_eq_true c1, decide_eq_false c2, Bool.not_false]
      refine ⟨rok_of exc_BadCount, raz_of exc_BadCount (by simp [argsX]) (by simp) rfl ?_⟩
      try simp only [↓WP, ↓WP3, ↓WP4, ↓s_cons, WQ, WQ3, WQ4, clean, wipeD, Tg.slots, lim, Nat.reduceAdd, Nat.reduceLeDiff, HAS]
      exact h1 (by omega)
  · simp only [↓hlen, ↓WP, ↓WP3, ↓WP4, ↓s_cons, WQ, WQ3, WQ4, clean, wipeD, Tg.slots, lim, Nat.reduceAdd, Nat.reduceLeDiff, HAS, decide_eq_false c1, Bool.not_false]
    refine ⟨rok_of exc_BadCount, raz_of exc_BadCount (by simp [argsX]) (by simp) rfl ?_⟩
    try simp only [↓WP, ↓WP3, ↓WP4, ↓s_cons, WQ, WQ3, WQ4, clean, wipeD, Tg.slots, lim, Nat.reduceAdd, Nat.reduceLeDiff, HAS]
    exact h1 (by omega)
theorem schemaX_u {cs : List Col} {Q : QD} {E : QX} (hl : cs.length ≤ 10) (hx : ∀ c, c ∈ cs → c.1.length ≤ 1000) (h : 1 ≤ cs.length → cs.length ≤ 3 → dupAt [] (cs.map (·.1)) = none → Q (schO cs) A)
    (h1 : ¬ (1 ≤ cs.length ∧ cs.length ≤ 3) → ∀ A', Kp A A' → E "BadCount" [("number", .int ((cs.length : Nat) : Int))] A')
    (h2 : 1 ≤ cs.length → cs.length ≤ 3 → ∀ x, dupAt [] (cs.map (·.1)) = some x → ∀ A', Kp A A' → E "DuplicateName" [("name", .str x)] A') : callQ (prg w) (k + 4) "Schema" (cs.map colO) A Q E := by
  refine call_mk lk_Schema ek_Schema hA_Schema fun n _ hn => ?_
  refine schInitX_u hn hl hx (fun a b c => ⟨rfl, _, _, look_head, ?_⟩) (fun a => h1 a _ (.cons hn)) fun a b x c => h2 a b x c _ (.cons hn)
  rw [drop_head hn]
  exact h a b c
end Pr

namespace Pr
open PySem L2 Ev
variable {w k : Nat} {A : Ob}
def colT (c : Col) : D := .tup [.str c.1, .int c.2.1, .int c.2.2]
theorem col0 (c : Col) (S : Sto) : ixD (colT c) (.int 0) S = .ok (.str c.1) S := (rfl)
theorem col1 (c : Col) (S : Sto) : ixD (colT c) (.int 1) S = .ok (.int c.2.1) S := (rfl)
theorem col2 (c : Col) (S : Sto) : ixD (colT c) (.int 2) S = .ok (.int c.2.2) S := (rfl)
/-- what a good column is -/
def colG (c : Col) : Prop := nmOk c.1 ∧ c.2.1 ≤ c.2.2
theorem colG.len {c : Col} (h : colG c) : c.1.length ≤ 1000 := by
  obtain ⟨⟨⟨_, _, _, _, _, hl⟩, _⟩, _⟩ := h
  omega
abbrev nms (cs : List Col) : List Str := cs.map (·.1)
theorem map_id {α : Type} (l : List α) : (l.filter fun _ => true) = l := List.filter_eq_self.mpr (fun _ _ => rfl)
theorem lbuild_u {cs : List Col} {Q : QD} {E : QX} (hl : cs.length ≤ 5) (hx : ∀ c, c ∈ cs → c.1.length ≤ 1000) (h : 1 ≤ cs.length → cs.length ≤ 3 → dupAt [] (nms cs) = none → Q (schO cs) A)
    (h1 : ¬ (1 ≤ cs.length ∧ cs.length ≤ 3) → ∀ A', Kp A A' → E "BadCount" [("number", .int ((cs.length : Nat) : Int))] A')
    (h2 : 1 ≤ cs.length → cs.length ≤ 3 → ∀ x, dupAt [] (nms cs) = some x → ∀ A', Kp A A' → E "DuplicateName" [("name", .str x)] A') : callQ (prg w) (k + 5) "_law_build" [.lv (cs.map colO)] A Q E := by
  refine call_of (F := f_law_build) rfl rfl ?_
  show wSs _ _ b_law_build [some (.lv (cs.map colO))] A _
  unfold b_law_build
  rcases cs with _ | ⟨a, _ | ⟨b, _ | ⟨c, _ | ⟨d, _ | ⟨e, _ | ⟨f, r⟩⟩⟩⟩⟩⟩
  · have n0 : decide ((((([] : List Col).map colO).length : Nat) : Int) = 0) = true := decide_eq_true (by simp)
    simp only [↓WP, ↓WP3, ↓WP4, ↓s_cons, WQ, WQ3, WQ4, clean, wipeD, Tg.slots, lim, Nat.reduceAdd, Nat.reduceLeDiff, HAS, n0]
    exact schemaX_u (k := k) (cs := []) (by simp) hx h h1 h2
  · have n0 : decide ((((([a] : List Col).map colO).length : Nat) : Int) = 0) = false := decide_eq_false (by simp)
    have n1 : decide ((((([a] : List Col).map colO).length : Nat) : Int) = 1) = true := decide_eq_true (by simp)
    have i0 : ∀ S : Sto, ixD (.lv (([a] : List Col).map colO)) (.int 0) S = .ok (colO a) S := ix_lv (atI_nat (j := 0) rfl)
    simp only [↓WP, ↓WP3, ↓WP4, ↓s_cons, WQ, WQ3, WQ4, clean, wipeD, Tg.slots, lim, Nat.reduceAdd, Nat.reduceLeDiff, HAS, n0, n1, i0]
    exact schemaX_u (k := k) (cs := [a]) (by simp) hx h h1 h2
  · have n0 : decide ((((([a, b] : List Col).map colO).length : Nat) : Int) = 0) = false := decide_eq_false (by simp)
    have n1 : decide ((((([a, b] : List Col).map colO).length : Nat) : Int) = 1) = false := decide_eq_false (by simp)
    have n2 : decide ((((([a, b] : List Col).map colO).length : Nat) : Int) = 2) = true := decide_eq_true (by simp)
    have i0 : ∀ S : Sto, ixD (.lv (([a, b] : List Col).map colO)) (.int 0) S = .ok (colO a) S := ix_lv (atI_nat (j := 0) rfl)
    have i1 : ∀ S : Sto, ixD (.lv (([a, b] : List Col).map colO)) (.int 1) S = .ok (colO b) S := ix_lv (atI_nat (j := 1) rfl)
    simp only [↓WP, ↓WP3, ↓WP4, ↓s_cons, WQ, WQ3, WQ4, clean, wipeD, Tg.slots, lim, Nat.reduceAdd, Nat.reduceLeDiff, HAS, n0, n1, n2, i0, i1]
    exact schemaX_u (k := k) (cs := [a, b]) (by simp) hx h h1 h2
  · have n0 : decide ((((([a, b, c] : List Col).map colO).length : Nat) : Int) = 0) = false := decide_eq_false (by simp)
    have n1 : decide ((((([a, b, c] : List Col).map colO).length : Nat) : Int) = 1) = false := decide_eq_false (by simp)
    have n2 : decide ((((([a, b, c] : List Col).map colO).length : Nat) : Int) = 2) = false := decide_eq_false (by simp)
    have n3 : decide ((((([a, b, c] : List Col).map colO).length : Nat) : Int) = 3) = true := decide_eq_true (by simp)
    have i0 : ∀ S : Sto, ixD (.lv (([a, b, c] : List Col).map colO)) (.int 0) S = .ok (colO a) S := ix_lv (atI_nat (j := 0) rfl)
    have i1 : ∀ S : Sto, ixD (.lv (([a, b, c] : List Col).map colO)) (.int 1) S = .ok (colO b) S := ix_lv (atI_nat (j := 1) rfl)
    have i2 : ∀ S : Sto, ixD (.lv (([a, b, c] : List Col).map colO)) (.int 2) S = .ok (colO c) S := ix_lv (atI_nat (j := 2) rfl)
    simp only [↓WP, ↓WP3, ↓WP4, ↓s_cons, WQ, WQ3, WQ4, clean, wipeD, Tg.slots, lim, Nat.reduceAdd, Nat.reduceLeDiff, HAS, n0, n1, n2, n3, i0, i1, i2]
    exact schemaX_u (k := k) (cs := [a, b, c]) (by simp) hx h h1 h2
  · have n0 : decide ((((([a, b, c, d] : List Col).map colO).length : Nat) : Int) = 0) = false := decide_eq_false (by simp)
    have n1 : decide ((((([a, b, c, d] : List Col).map colO).length : Nat) : Int) = 1) = false := decide_eq_false (by simp)
    have n2 : decide ((((([a, b, c, d] : List Col).map colO).length : Nat) : Int) = 2) = false := decide_eq_false (by simp)
    have n3 : decide ((((([a, b, c, d] : List Col).map colO).length : Nat) : Int) = 3) = false := decide_eq_false (by simp)
    have n4 : decide ((((([a, b, c, d] : List Col).map colO).length : Nat) : Int) = 4) = true := decide_eq_true (by simp)
    have i0 : ∀ S : Sto, ixD (.lv (([a, b, c, d] : List Col).map colO)) (.int 0) S = .ok (colO a) S := ix_lv (atI_nat (j := 0) rfl)
    have i1 : ∀ S : Sto, ixD (.lv (([a, b, c, d] : List Col).map colO)) (.int 1) S = .ok (colO b) S := ix_lv (atI_nat (j := 1) rfl)
    have i2 : ∀ S : Sto, ixD (.lv (([a, b, c, d] : List Col).map colO)) (.int 2) S = .ok (colO c) S := ix_lv (atI_nat (j := 2) rfl)
    have i3 : ∀ S : Sto, ixD (.lv (([a, b, c, d] : List Col).map colO)) (.int 3) S = .ok (colO d) S := ix_lv (atI_nat (j := 3) rfl)
    simp only [↓WP, ↓WP3, ↓WP4, ↓s_cons, WQ, WQ3, WQ4, clean, wipeD, Tg.slots, lim, Nat.reduceAdd, Nat.reduceLeDiff, HAS, n0, n1, n2, n3, n4, i0, i1, i2, i3]
    exact schemaX_u (k := k) (cs := [a, b, c, d]) (by simp) hx h h1 h2
  · have n0 : decide ((((([a, b, c, d, e] : List Col).map colO).length : Nat) : Int) = 0) = false := decide_eq_false (by simp)
    have n1 : decide ((((([a, b, c, d, e] : List Col).map colO).length : Nat) : Int) = 1) = false := decide_eq_false (by simp)
    have n2 : decide ((((([a, b, c, d, e] : List Col).map colO).length : Nat) : Int) = 2) = false := decide_eq_false (by simp)
    have n3 : decide ((((([a, b, c, d, e] : List Col).map colO).length : Nat) : Int) = 3) = false := decide_eq_false (by simp)
    have n4 : decide ((((([a, b, c, d, e] : List Col).map colO).length : Nat) : Int) = 4) = false := decide_eq_false (by simp)
    have i0 : ∀ S : Sto, ixD (.lv (([a, b, c, d, e] : List Col).map colO)) (.int 0) S = .ok (colO a) S := ix_lv (atI_nat (j := 0) rfl)
    have i1 : ∀ S : Sto, ixD (.lv (([a, b, c, d, e] : List Col).map colO)) (.int 1) S = .ok (colO b) S := ix_lv (atI_nat (j := 1) rfl)
    have i2 : ∀ S : Sto, ixD (.lv (([a, b, c, d, e] : List Col).map colO)) (.int 2) S = .ok (colO c) S := ix_lv (atI_nat (j := 2) rfl)
    have i3 : ∀ S : Sto, ixD (.lv (([a, b, c, d, e] : List Col).map colO)) (.int 3) S = .ok (colO d) S := ix_lv (atI_nat (j := 3) rfl)
    have i4 : ∀ S : Sto, ixD (.lv (([a, b, c, d, e] : List Col).map colO)) (.int 4) S = .ok (colO e) S := ix_lv (atI_nat (j := 4) rfl)
    simp only [↓WP, ↓WP3, ↓WP4, ↓s_cons, WQ, WQ3, WQ4, clean, wipeD, Tg.slots, lim, Nat.reduceAdd, Nat.reduceLeDiff, HAS, n0, n1, n2, n3, n4, i0, i1, i2, i3, i4]
    exact schemaX_u (k := k) (cs := [a, b, c, d, e]) (by simp) hx h h1 h2
  · simp at hl
theorem key_names {cs : List Col} {K : Str → Prop} : keyQ (prg w) "names" "prop" A (schO cs) K = K "Schema.names.prop" := ky_Schema_names_prop
theorem self_sch {cs : List Col} {K : Str → List Str → List D → Prop} : selfQ A (schO cs) K = K "Schema" ["columns"] [.tup (cs.map colO)] := (rfl)
theorem asg_sch {tg : Tg} {σ : Sg} {cs : List Col} {Q : Sg → Prop} : asgQ tg (schO cs) σ Q = stQ tg (schO cs) σ Q := (rfl)
theorem snames_u {cs : List Col} {Q : QD} {E : QX} (hl : cs.length ≤ 10) (h : Q (.vw 2 (sl (nms cs))) A) : callQ (prg w) (k + 1) "Schema.names" [schO cs] A Q E := by
  refine call_of (F := f_Schema_names) rfl rfl ?_
  show wSs _ _ b_Schema_names [some (schO cs), none] A _
  unfold b_Schema_names
  simp only [↓WP, ↓WP3, ↓WP4, ↓s_cons, WQ, WQ3, WQ4, clean, wipeD, Tg.slots, lim, Nat.reduceAdd, Nat.reduceLeDiff, HAS, self_sch]
  refine wLc_map (f := colO) (g := fun c : Col => D.str c.1) (p := fun _ => true) (l := cs) rfl (by simp [lim]; omega) (fun c _ => ?_) ?_
  · simp only [↓WP, ↓WP3, ↓WP4, ↓s_cons, WQ, WQ3, WQ4, clean, wipeD, Tg.slots, lim, Nat.reduceAdd, Nat.reduceLeDiff, HAS, self_col]
    first | exact fun K h => h | exact ⟨fun K h => h, fun K h => h⟩ | exact ⟨fun K h => h, fun _ K h => h⟩
  · have e1 : (cs.filter fun _ => true).map (fun c : Col => D.str c.1) = sl (nms cs) := by rw [map_id]; simp [sl]
    rw [e1]
    simp only [↓WP, ↓WP3, ↓WP4, ↓s_cons, WQ, WQ3, WQ4, clean, wipeD, Tg.slots, lim, Nat.reduceAdd, Nat.reduceLeDiff, HAS]
    exact h
theorem names_p {cs : List Col} {Q : QD} {E : QX} (hl : cs.length ≤ 10) (h : Q (.vw 2 (sl (nms cs))) A) : callQ (prg w) (k + 2) "Schema.names.prop" [schO cs] A Q E := call_low rfl rfl rfl (snames_u hl h)
/-- what is due of a schema -/
def madeDue (cs : List Col) : D := if 1 ≤ cs.length ∧ cs.length ≤ 3 then (match dupAt [] (nms cs) with
    | some x => .lv [.lv [.str "ValueError", .str "TellError", .str "NameFault", .str "DuplicateName"], .str x]
    | none => .lv [.lv [.str "let"], .lv (sl (nms cs))]) else .lv [.lv [.str "ValueError", .str "TellError", .str "BadCount"], .int ((cs.length : Nat) : Int)]
theorem mdue_u {x : D} {cs : List Col} {Q : QD} {E : QX} (hd : Lq A x (cs.map colT)) (hl : cs.length ≤ 5) (h : Q (madeDue cs) A) : callQ (prg w) (k + 1) "_law_made_due" [x] A Q E := by
  refine call_of (F := f_law_made_due) rfl rfl ?_
  show wSs _ _ b_law_made_due [some x, none, none, none] A _
  unfold b_law_made_due
  have hlen : bltD .len [x] (fs A) = .ok (.int ((cs.length : Nat) : Int)) (fs A) := by rw [hd.len, List.length_map]
  unfold madeDue at h
  by_cases c1 : (1 : Int) ≤ ((cs.length : Nat) : Int)
  · by_cases c2 : ((cs.length : Nat) : Int) ≤ 3
    · rw [if_pos ⟨by omega, by omega⟩] at h
      simp only [↓hlen, ↓WP, ↓WP3, ↓WP4, ↓s_cons, WQ, WQ3, WQ4, clean, wipeD, Tg.slots, lim, Nat.reduceAdd, Nat.reduceLeDiff, HAS, decide_eq_true c1, decide_eq_true c2, Bool.not_true, hd.itQ]
      refine wLc_map (f := colT) (g := fun c : Col => D.str c.1) (p := fun _ => true) (l := cs) hd.it (by simp [lim]; omega) (fun c _ => ?_) ?_
      · simp only [↓WP, ↓WP3, ↓WP4, ↓s_cons, WQ, WQ3, WQ4, clean, wipeD, Tg.slots, lim, Nat.reduceAdd, Nat.reduceLeDiff, HAS, col0]
        first | exact fun K h => h | exact ⟨fun K h => h, fun K h => h⟩ | exact ⟨fun K h => h, fun _ K h => h⟩
      · have e1 : (cs.filter fun _ => true).map (fun c : Col => D.str c.1) = (nms cs).map D.str := by rw [map_id, List.map_map]; rfl
        have hln : ∀ S : Sto, bltD .len [.lv ((nms cs).map D.str)] S = .ok (.int ((cs.length : Nat) : Int)) S := fun S => by rw [len_lv, List.length_map, List.length_map]
        rw [e1]
        simp only [↓hln, ↓WP, ↓WP3, ↓WP4, ↓s_cons, WQ, WQ3, WQ4, clean, wipeD, Tg.slots, lim, Nat.reduceAdd, Nat.reduceLeDiff, HAS]
        refine ⟨by simp [rngOk]; omega, ?_⟩
        rw [Int.toNat_natCast]
        refine wFr_of (m := cs.length) (fun i σ A' => A' = A ∧ dupAt [] (nms cs) = dupAt ((nms cs).take i) ((nms cs).drop i) ∧ ∃ x2, σ = [some x, some (.lv ((nms cs).map D.str)), x2, none]) ?_ ?_ cs.length 0 _ _ (by omega) ⟨rfl, by simp, none, rfl⟩
        · rintro σ A' ⟨rfl, hdd, x2, rfl⟩
          rw [List.drop_of_length_le (by simp)] at hdd
          rw [hdd] at h
          simp only [↓WP, ↓WP3, ↓WP4, ↓s_cons, WQ, WQ3, WQ4, clean, wipeD, Tg.slots, lim, Nat.reduceAdd, Nat.reduceLeDiff, HAS]
          exact h
        · rintro i σ A' hi ⟨rfl, hdd, x2, rfl⟩ K hK _ _ hR _
          have e0 : (0 + (i : Int)) = ((i : Nat) : Int) := by omega
          have hi' : i < (nms cs).length := by simpa using hi
          have hix : ∀ S : Sto, ixD (.lv ((nms cs).map D.str)) (.int ((i : Nat) : Int)) S = .ok (.str (nms cs)[i]) S := ix_lv (atI_nat (by rw [List.getElem?_map, List.getElem?_eq_getElem hi']; rfl))
          have hcut : cutD ((nms cs).map D.str) none (some ((i : Nat) : Int)) = ((nms cs).take i).map D.str := by rw [cut_to _ (by simp; omega), List.map_take]
          rw [dup_step hi'] at hdd
          by_cases hm : (nms cs)[i] ∈ (nms cs).take i
          · rw [if_pos hm] at hdd
            rw [hdd] at h
            simp only [↓WP, ↓WP3, ↓WP4, ↓s_cons, WQ, WQ3, WQ4, clean, wipeD, Tg.slots, lim, Nat.reduceAdd, Nat.reduceLeDiff, HAS, e0, hix, sl_lvD, hcut, in_lv, decide_eq_true hm]
            refine hR _ _ ?_
            rw [seq_rt, retF_rt]
            exact h
          · rw [if_neg hm] at hdd
            simp only [↓WP, ↓WP3, ↓WP4, ↓s_cons, WQ, WQ3, WQ4, clean, wipeD, Tg.slots, lim, Nat.reduceAdd, Nat.reduceLeDiff, HAS, e0, hix, sl_lvD, hcut, in_lv, decide_eq_false hm]
            exact hK _ _ ⟨rfl, hdd, _, rfl⟩
    · rw [if_neg (fun z => c2 (by omega))] at h
      simp only [↓hlen, ↓WP, ↓WP3, ↓WP4, ↓s_cons, WQ, WQ3, WQ4, clean, wipeD, Tg.slots, lim, Nat.reduceAdd, Nat.reduceLeDiff, HAS, decide_eq_true c1, decide_eq_false c2, Bool.not_false]
      exact h
  · rw [if_neg (fun z => c1 (by omega))] at h
    simp only [↓hlen, ↓WP, ↓WP3, ↓WP4, ↓s_cons, WQ, WQ3, WQ4, clean, wipeD, Tg.slots, lim, Nat.reduceAdd, Nat.reduceLeDiff, HAS, decide_eq_false c1, Bool.not_false]
    exact h
theorem madeof_u {x : D} {cs : List Col} {Q : QD} {E : QX} (hd : Lq A x (cs.map colT)) (hl : cs.length ≤ 5) (hg : ∀ c, c ∈ cs → colG c)
    (h0 : 1 ≤ cs.length → cs.length ≤ 3 → dupAt [] (nms cs) = none → ∀ n, n ≠ 0 → n ∉ A.map (·.1) → Q (.lv [.lv [.str "let"], .ref n]) ((n, .lst (sl (nms cs))) :: A))
    (h1 : ¬ (1 ≤ cs.length ∧ cs.length ≤ 3 ∧ dupAt [] (nms cs) = none) → ∀ A', Kp A A' → Q (madeDue cs) A') : callQ (prg w) (k + 6) "_law_made_of" [x] A Q E := by
  refine call_of (F := f_law_made_of) rfl rfl ?_
  show wSs _ _ b_law_made_of [some x, none, none, none, none] A _
  unfold b_law_made_of
  rw [s_cons]
  simp only [↓WP, ↓WP3, ↓WP4, ↓s_one, WQ, WQ3, WQ4, clean, wipeD, Tg.slots, lim, Nat.reduceAdd, Nat.reduceLeDiff, HAS, hd.itQ]
  refine ⟨by simp only [List.all_cons, List.all_nil, tok_of exc_BadCount, tok_of exc_DuplicateName, Bool.and_true], wLc_map (f := colT) (g := colO) (p := fun _ => true) (l := cs) hd.it (by simp [lim]; omega) (fun c hc => ?_) ?_⟩
  · simp only [↓WP, ↓WP3, ↓WP4, ↓s_one, WQ, WQ3, WQ4, clean, wipeD, Tg.slots, lim, Nat.reduceAdd, Nat.reduceLeDiff, HAS, col0, col1, col2]
    refine ⟨fun K q => q, fun _ => ⟨rfl, fun K q => column_u (k := k + 1) (hg c hc).1 (hg c hc).2 q⟩⟩
  · rw [map_id]
    simp only [↓WP, ↓WP3, ↓WP4, ↓s_one, WQ, WQ3, WQ4, clean, wipeD, Tg.slots, lim, Nat.reduceAdd, Nat.reduceLeDiff, HAS]
    refine lbuild_u (k := k) hl (fun c hc => (hg c hc).len) (fun a b c => ?_) (fun a A' kp => ?_) fun a b y c A' kp => ?_
    · simp only [↓WP, ↓WP3, ↓WP4, ↓s_one, WQ, WQ3, WQ4, clean, wipeD, Tg.slots, lim, Nat.reduceAdd, Nat.reduceLeDiff, HAS, asg_sch, trymQ_nx, seq_nx, key_names]
      refine names_p (k := k + 3) (by omega) ?_
      simp only [↓WP, ↓WP3, ↓WP4, ↓s_one, WQ, WQ3, WQ4, clean, wipeD, Tg.slots, lim, Nat.reduceAdd, Nat.reduceLeDiff, HAS]
      intro n hn hna
      exact h0 a b c n hn hna
    · have q := h1 (fun z => a ⟨z.1, z.2.1⟩) A' kp
      unfold madeDue at q
      rw [if_neg a] at q
      rw [exS_ap, trymQ_ex]
      exact ⟨rfl, hs_hit sub_BadCount_BadCount (hand1 lab_BadCount (by decide) fok_BadCount_number rfl) rfl q⟩
    · have q := h1 (fun z => by rw [c] at z; cases z.2.2) A' kp
      unfold madeDue at q
      rw [if_pos ⟨a, b⟩, c] at q
      rw [exS_ap, trymQ_ex]
      exact ⟨rfl, hs_miss sub_DuplicateName_BadCount (hs_hit sub_DuplicateName_DuplicateName (hand1 lab_DuplicateName (by decide) fok_DuplicateName_name rfl) rfl q)⟩
end Pr

namespace Pr
open PySem L2 Ev
variable {w k : Nat} {A : Ob}
theorem names_u {n : Nat} {Q : QD} {E : QX} (hn : n ≤ 10) (h : ∀ l : List Str, l.length = n → (∀ x, x ∈ l → nmOk x) → l.Nodup → Q (.lv (sl l)) A) : callQ (prg w) (k + 3) "_law_names" [.ref 0, .int ((n : Nat) : Int)] A Q E := by
  refine call_of (F := f_law_names) rfl rfl ?_
  show wSs _ _ b_law_names [some (.ref 0), some (.int ((n : Nat) : Int)), none, none] A _
  unfold b_law_names
  simp only [↓WP, ↓WP3, ↓WP4, ↓s_cons, WQ, WQ3, WQ4, clean, wipeD, Tg.slots, lim, Nat.reduceAdd, Nat.reduceLeDiff, HAS]
  refine ⟨by simp [rngOk]; omega, ?_⟩
  rw [Int.toNat_natCast]
  refine wFr_of (m := n) (fun i σ A' => A' = A ∧ ∃ (l : List Str) (x : Option D), σ = [some (.ref 0), some (.int ((n : Nat) : Int)), some (.vw 1 (sl l)), x] ∧ l.length = i ∧ (∀ x, x ∈ l → nmOk x) ∧ l.Nodup) ?_ ?_ n 0 _ A (by omega) ⟨rfl, [], none, rfl, rfl, by simp, List.nodup_nil⟩
  · rintro σ A' ⟨rfl, l, x, rfl, h1, h2, h3⟩
    simp only [↓WP, ↓WP3, ↓WP4, ↓s_cons, WQ, WQ3, WQ4, clean, wipeD, Tg.slots, lim, Nat.reduceAdd, Nat.reduceLeDiff, HAS]
    exact h l h1 h2 h3
  · rintro i σ A' hi ⟨rfl, l, x, rfl, h1, h2, h3⟩ K hK _ _ _ _
    simp only [↓WP, ↓WP3, ↓WP4, ↓s_cons, WQ, WQ3, WQ4, clean, wipeD, Tg.slots, lim, Nat.reduceAdd, Nat.reduceLeDiff, HAS]
    refine name_u (by omega) fun t ht hni => ?_
    have ha : appF (sl l) [.str t] = some (.non, sl (l ++ [t])) := by
      unfold appF
      have : (sl l).length < lim := by rw [sl_len]; simp [lim]; omega
      simp only [this, if_true, sl_app]
      rfl
    simp only [↓WP, ↓WP3, ↓WP4, ↓s_cons, WQ, WQ3, WQ4, clean, wipeD, Tg.slots, lim, Nat.reduceAdd, Nat.reduceLeDiff, HAS, mthQ, Mth.run, ha]
    refine hK _ _ ⟨rfl, l ++ [t], _, rfl, by simp [h1], fun y hy => ?_, ?_⟩
    · rcases List.mem_append.mp hy with hy | hy
      · exact h2 y hy
      · simp at hy; subst hy; exact ht
    · rw [List.nodup_append]
      refine ⟨h3, by simp, fun a hma b hb => ?_⟩
      simp at hb
      subst hb
      exact fun e => hni (e ▸ hma)
theorem pw6 : ∃ P : Int, 0 < P ∧ P < 2 ^ 30 ∧ ∀ S : Sto, binD .pow (.int 10) (.int 6) S = .ok (.int P) S := ⟨10 ^ 6, by decide, by decide, fun S => pow_int (by decide) S⟩
theorem pw7 : ∃ P : Int, 0 < P ∧ P < 2 ^ 30 ∧ ∀ S : Sto, binD .pow (.int 10) (.int 7) S = .ok (.int P) S := ⟨10 ^ 7, by decide, by decide, fun S => pow_int (by decide) S⟩
theorem pw30 : ∃ P : Int, 0 < P ∧ P < 2 ^ 110 ∧ ∀ S : Sto, binD .pow (.int 10) (.int 30) S = .ok (.int P) S := ⟨10 ^ 30, by decide, by decide, fun S => pow_int (by decide) S⟩
/-- a drawn column -/
def colB (c : Col) : Prop := nmOk c.1 ∧ c.2.1 ≤ c.2.2 ∧ -(2 ^ 120) < c.2.1 ∧ c.2.2 < 2 ^ 120
theorem columnsM_u {m : Int} (hm0 : 1 ≤ m) (hm1 : m ≤ 9) {Q : QD} {E : QX} (h : ∀ cs : List Col, 1 ≤ cs.length → ((cs.length : Nat) : Int) ≤ m → (∀ c, c ∈ cs → colB c) → (cs.map (·.1)).Nodup → Q (.lv (cs.map colT)) A) : callQ (prg w) (k + 4) "_law_columns" [.ref 0, .int m] A Q E := by
  obtain ⟨P6, a1, a2, hP6⟩ := pw6
  obtain ⟨P7, b1, b2, hP7⟩ := pw7
  obtain ⟨P30, c1, c2, hP30⟩ := pw30
  refine call_of (F := f_law_columns) rfl rfl ?_
  show wSs _ _ b_law_columns [some (.ref 0), some (.int m), none, none, none, none, none] A _
  unfold b_law_columns
  simp only [↓WP, ↓WP3, ↓WP4, ↓s_cons, WQ, WQ3, WQ4, clean, wipeD, Tg.slots, lim, Nat.reduceAdd, Nat.reduceLeDiff, HAS]
  refine draw_u (by omega) (Int.lt_of_le_of_lt hm1 (by decide)) fun r0 q0 q1 => ?_
  obtain ⟨n, hn⟩ : ∃ n : Nat, 1 + r0 = ((n : Nat) : Int) := ⟨(1 + r0).toNat, by omega⟩
  simp only [↓WP, ↓WP3, ↓WP4, ↓s_cons, WQ, WQ3, WQ4, clean, wipeD, Tg.slots, lim, Nat.reduceAdd, Nat.reduceLeDiff, HAS, hn]
  refine names_u (by omega) fun l hl1 hl2 hl3 => ?_
  simp only [↓WP, ↓WP3, ↓WP4, ↓s_cons, WQ, WQ3, WQ4, clean, wipeD, Tg.slots, lim, Nat.reduceAdd, Nat.reduceLeDiff, HAS]
  refine ⟨rfl, wFor_of (fun xs σ A' => A' = A ∧ ∃ (dn : List Col) (rest : List Str) (x3 x4 x5 x6 : Option D), xs = sl rest ∧ σ = [some (.ref 0), some (.int m), some (.vw 1 (dn.map colT)), x3, x4, x5, x6] ∧ dn.map (·.1) ++ rest = l ∧ ∀ c, c ∈ dn → colB c) ?_ ?_ ?_ (sl l) _ A ⟨rfl, [], l, none, none, none, none, rfl, rfl, rfl, by simp⟩⟩
  · rintro xs σ A' ⟨rfl, _⟩
    rfl
  · rintro σ A' ⟨rfl, dn, rest, x3, x4, x5, x6, e, rfl, hd, hc⟩
    cases rest with
    | cons _ _ => cases e
    | nil =>
      simp only [↓WP, ↓WP3, ↓WP4, ↓s_cons, WQ, WQ3, WQ4, clean, wipeD, Tg.slots, lim, Nat.reduceAdd, Nat.reduceLeDiff, HAS]
      rw [List.append_nil] at hd
      have : dn.length = n := by rw [← hl1, ← hd, List.length_map]
      exact h dn (by omega) (by omega) hc (by rw [hd]; exact hl3)
  · rintro y xs σ A' ⟨rfl, dn, rest, x3, x4, x5, x6, e, rfl, hd, hc⟩ K hK _ _ _ _
    cases rest with
    | nil => cases e
    | cons t rest =>
      cases e
      have htm : nmOk t := hl2 t (by rw [← hd]; simp)
      have hdl : dn.length ≤ 10 := by
        have := congrArg List.length hd
        simp at this
        omega
      have fin : ∀ (lo hi : Int) (x4 : Option D), lo ≤ hi → -(2 ^ 120) < lo → hi < 2 ^ 120 → K (.nx [some (.ref 0), some (.int m), some (.vw 1 (dn.map colT ++ [.tup [.str t, .int lo, .int hi]])), some (.str t), x4, some (.int lo), some (.int hi)]) A' := fun lo hi x4 h1 h2 h3 => by
        refine hK _ _ ⟨rfl, dn ++ [(t, lo, hi)], rest, _, _, _, _, rfl, by rw [List.map_append]; rfl, by rw [List.map_append, List.append_assoc]; exact hd, fun c hc' => ?_⟩
        rcases List.mem_append.mp hc' with hc' | hc'
        · exact hc c hc'
        · simp at hc'
          subst hc'
          exact ⟨htm, h1, h2, h3⟩
      have happ : ∀ d : D, appF (dn.map colT) [d] = some (.non, dn.map colT ++ [d]) := fun d => by
        unfold appF
        have : (dn.map colT).length < lim := by rw [List.length_map]; simp [lim]; omega
        simp only [this, if_true]
      simp only [↓WP, ↓WP3, ↓WP4, ↓s_cons, WQ, WQ3, WQ4, clean, wipeD, Tg.slots, lim, Nat.reduceAdd, Nat.reduceLeDiff, HAS]
      refine draw_u (by decide) (by decide) fun rw qw0 qw1 => ?_
      simp only [↓WP, ↓WP3, ↓WP4, ↓s_cons, WQ, WQ3, WQ4, clean, wipeD, Tg.slots, lim, Nat.reduceAdd, Nat.reduceLeDiff, HAS]
      refine draw_u (by decide) (by decide) fun rl ql0 ql1 => ?_
      simp only [↓WP, ↓WP3, ↓WP4, ↓s_cons, WQ, WQ3, WQ4, clean, wipeD, Tg.slots, lim, Nat.reduceAdd, Nat.reduceLeDiff, HAS]
      refine draw_u (by decide) (by decide) fun rh qh0 qh1 => ?_
      simp only [↓WP, ↓WP3, ↓WP4, ↓s_cons, WQ, WQ3, WQ4, clean, wipeD, Tg.slots, lim, Nat.reduceAdd, Nat.reduceLeDiff, HAS]
      have no : ∀ {a : Int}, rw ≠ a → decide (rw = a) = false := fun h => decide_eq_false h
      refine .dec (fun e4 => ?_) fun e4 => ?_
      · have hmul : ∀ S : Sto, binD .mul (.int (rl - 5)) (.int P6) S = .ok (.int ((rl - 5) * P6)) S := mul_int (cmul_l (i := rl - 5) (by omega))
        have m1 : -5 * P6 ≤ (rl - 5) * P6 := Int.mul_le_mul_of_nonneg_right (by omega) (by omega)
        have m2 : (rl - 5) * P6 ≤ 3 * P6 := Int.mul_le_mul_of_nonneg_right (by omega) (by omega)
        generalize hm : (rl - 5) * P6 = m at hmul m1 m2
        simp only [↓WP, ↓WP3, ↓WP4, ↓s_cons, WQ, WQ3, WQ4, clean, wipeD, Tg.slots, lim, Nat.reduceAdd, Nat.reduceLeDiff, HAS, hP6, hP7, hmul]
        refine draw_u (by omega) (by omega) fun d1 u0 u1 => ?_
        simp only [↓WP, ↓WP3, ↓WP4, ↓s_cons, WQ, WQ3, WQ4, clean, wipeD, Tg.slots, lim, Nat.reduceAdd, Nat.reduceLeDiff, HAS, hP6, hP7]
        refine draw_u (by omega) (by omega) fun d2 v0 v1 => ?_
        simp only [↓WP, ↓WP3, ↓WP4, ↓s_cons, WQ, WQ3, WQ4, clean, wipeD, Tg.slots, lim, Nat.reduceAdd, Nat.reduceLeDiff, HAS, no (show rw ≠ 5 by omega), no (show rw ≠ 6 by omega), mthQ, Mth.run, happ]
        exact fin _ _ _ (by omega) (by omega) (by omega)
      · simp only [↓WP, ↓WP3, ↓WP4, ↓s_cons, WQ, WQ3, WQ4, clean, wipeD, Tg.slots, lim, Nat.reduceAdd, Nat.reduceLeDiff, HAS, hP30]
        refine .dec (fun e5 => ?_) fun e5 => ?_
        · try simp only [↓WP, ↓WP3, ↓WP4, ↓s_cons, WQ, WQ3, WQ4, clean, wipeD, Tg.slots, lim, Nat.reduceAdd, Nat.reduceLeDiff, HAS, hP30]
          refine draw_u (by omega) (by omega) fun d1 u0 u1 => ?_
          simp only [↓WP, ↓WP3, ↓WP4, ↓s_cons, WQ, WQ3, WQ4, clean, wipeD, Tg.slots, lim, Nat.reduceAdd, Nat.reduceLeDiff, HAS, hP30]
          refine draw_u (by omega) (by omega) fun d2 v0 v1 => ?_
          simp only [↓WP, ↓WP3, ↓WP4, ↓s_cons, WQ, WQ3, WQ4, clean, wipeD, Tg.slots, lim, Nat.reduceAdd, Nat.reduceLeDiff, HAS, no (show rw ≠ 6 by omega), mthQ, Mth.run, happ]
          exact fin _ _ _ (by omega) (by omega) (by omega)
        · try simp only [↓WP, ↓WP3, ↓WP4, ↓s_cons, WQ, WQ3, WQ4, clean, wipeD, Tg.slots, lim, Nat.reduceAdd, Nat.reduceLeDiff, HAS]
          refine .dec (fun e6 => ?_) fun e6 => ?_
          · simp only [↓WP, ↓WP3, ↓WP4, ↓s_cons, WQ, WQ3, WQ4, clean, wipeD, Tg.slots, lim, Nat.reduceAdd, Nat.reduceLeDiff, HAS, mthQ, Mth.run, happ]
            exact fin _ _ _ (by omega) (by omega) (by omega)
          · simp only [↓WP, ↓WP3, ↓WP4, ↓s_cons, WQ, WQ3, WQ4, clean, wipeD, Tg.slots, lim, Nat.reduceAdd, Nat.reduceLeDiff, HAS, mthQ, Mth.run, happ]
            exact fin _ _ _ (by omega) (by omega) (by omega)
end Pr

namespace Pr
open PySem L2 Ev
variable {w k : Nat} {A : Ob}
theorem lschema_u {cs : List Col} {Q : QD} {E : QX} (ok : SchOk cs) (h : Q (schO cs) A) : callQ (prg w) (k + 5) "_law_schema" [.lv (cs.map colT)] A Q E := by
  refine call_of (F := f_law_schema) rfl rfl ?_
  show wSs _ _ b_law_schema [some (.lv (cs.map colT)), none, none] A _
  unfold b_law_schema
  have hf := ok.few
  have hp := ok.pos
  simp only [↓WP, ↓WP3, ↓WP4, ↓s_cons, WQ, WQ3, WQ4, clean, wipeD, Tg.slots, lim, Nat.reduceAdd, Nat.reduceLeDiff, HAS]
  refine wLc_map (f := colT) (g := colO) (p := fun _ => true) (l := cs) rfl (by simp [lim]; omega) (fun c hc => ?_) ?_
  · simp only [↓WP, ↓WP3, ↓WP4, ↓s_cons, WQ, WQ3, WQ4, clean, wipeD, Tg.slots, lim, Nat.reduceAdd, Nat.reduceLeDiff, HAS, col0, col1, col2]
    refine ⟨fun K q => q, fun _ => ⟨rfl, fun K q => column_u (ok.nms c hc) (ok.ord c hc) q⟩⟩
  · have e1 : (cs.filter fun _ => true) = cs := List.filter_eq_self.mpr (fun _ _ => rfl)
    rw [e1]
    clear e1
    rcases cs with _ | ⟨a, _ | ⟨b, _ | ⟨c, _ | ⟨d, r⟩⟩⟩⟩
    · simp at hp
    · have i0 : ∀ S : Sto, ixD (.lv ([a].map colO)) (.int 0) S = .ok (colO a) S := ix_lv (atI_nat (j := 0) rfl)
      have n1 : decide (((([a].map colO).length : Nat) : Int) = 1) = true := decide_eq_true (by simp)
      simp only [↓WP, ↓WP3, ↓WP4, ↓s_cons, WQ, WQ3, WQ4, clean, wipeD, Tg.slots, lim, Nat.reduceAdd, Nat.reduceLeDiff, HAS, n1, i0]
      exact schema_u (cs := [a]) ok h
    · have i0 : ∀ S : Sto, ixD (.lv ([a, b].map colO)) (.int 0) S = .ok (colO a) S := ix_lv (atI_nat (j := 0) rfl)
      have i1 : ∀ S : Sto, ixD (.lv ([a, b].map colO)) (.int 1) S = .ok (colO b) S := ix_lv (atI_nat (j := 1) rfl)
      have n1 : decide (((([a, b].map colO).length : Nat) : Int) = 1) = false := decide_eq_false (by simp)
      have n2 : decide (((([a, b].map colO).length : Nat) : Int) = 2) = true := decide_eq_true (by simp)
      simp only [↓WP, ↓WP3, ↓WP4, ↓s_cons, WQ, WQ3, WQ4, clean, wipeD, Tg.slots, lim, Nat.reduceAdd, Nat.reduceLeDiff, HAS, n1, n2, i0, i1]
      exact schema_u (cs := [a, b]) ok h
    · have i0 : ∀ S : Sto, ixD (.lv ([a, b, c].map colO)) (.int 0) S = .ok (colO a) S := ix_lv (atI_nat (j := 0) rfl)
      have i1 : ∀ S : Sto, ixD (.lv ([a, b, c].map colO)) (.int 1) S = .ok (colO b) S := ix_lv (atI_nat (j := 1) rfl)
      have i2 : ∀ S : Sto, ixD (.lv ([a, b, c].map colO)) (.int 2) S = .ok (colO c) S := ix_lv (atI_nat (j := 2) rfl)
      have n1 : decide (((([a, b, c].map colO).length : Nat) : Int) = 1) = false := decide_eq_false (by simp)
      have n2 : decide (((([a, b, c].map colO).length : Nat) : Int) = 2) = false := decide_eq_false (by simp)
      simp only [↓WP, ↓WP3, ↓WP4, ↓s_cons, WQ, WQ3, WQ4, clean, wipeD, Tg.slots, lim, Nat.reduceAdd, Nat.reduceLeDiff, HAS, n1, n2, i0, i1, i2]
      exact schema_u (cs := [a, b, c]) ok h
    · simp at hf
end Pr

namespace Pr
open PySem L2 Ev
variable {w k : Nat} {A : Ob}
/-! ### a column's place -/
def posOf (x : Str) : List Str → Nat → Option Nat
  | [], _ => none
  | y :: r, i => if y = x then some i else posOf x r (i + 1)
theorem pos_c {x y : Str} {r : List Str} {i : Nat} : posOf x (y :: r) i = if y = x then some i else posOf x r (i + 1) := rfl
theorem key_place {cs : List Col} {K : Str → Prop} : keyQ (prg w) "place" "" A (schO cs) K = K "Schema.place" := ky_Schema_place
theorem stab_sch {cs : List Col} : stab (schO cs) = schO cs := (rfl)
theorem splace_u {cs : List Col} {x : Str} {Q : QD} {E : QX} (hl : cs.length ≤ 10) (hx : x.length ≤ 1000) (h : ∀ i, posOf x (nms cs) 0 = some i → Q (.int ((i : Nat) : Int)) A) (h1 : posOf x (nms cs) 0 = none → E "UnknownName" [("name", .str x)] A) : callQ (prg w) (k + 3) "Schema.place" [schO cs, .str x] A Q E := by
  refine call_of (F := f_Schema_place) rfl rfl ?_
  show wSs _ _ b_Schema_place [some (schO cs), some (.str x), none] A _
  unfold b_Schema_place
  have hlen : ∀ S : Sto, bltD .len [.tup (cs.map colO)] S = .ok (.int ((cs.length : Nat) : Int)) S := fun S => by rw [len_tup, List.length_map]
  simp only [↓hlen, ↓WP, ↓WP3, ↓WP4, ↓s_cons, WQ, WQ3, WQ4, clean, wipeD, Tg.slots, lim, Nat.reduceAdd, Nat.reduceLeDiff, HAS, self_sch]
  refine ⟨by simp [rngOk]; omega, ?_⟩
  rw [Int.toNat_natCast]
  refine wFr_of (m := cs.length) (fun i σ A' => A' = A ∧ posOf x (nms cs) 0 = posOf x ((nms cs).drop i) i ∧ ∃ x2, σ = [some (schO cs), some (.str x), x2]) ?_ ?_ cs.length 0 _ _ (by omega) ⟨rfl, by simp, none, rfl⟩
  · rintro σ A' ⟨rfl, hp, x2, rfl⟩
    rw [List.drop_of_length_le (by simp)] at hp
    simp only [↓WP, ↓WP3, ↓WP4, ↓s_cons, WQ, WQ3, WQ4, clean, wipeD, Tg.slots, lim, Nat.reduceAdd, Nat.reduceLeDiff, HAS]
    refine ⟨rok_of exc_UnknownName, raz_of exc_UnknownName (by simp [argsX]; omega) (by simp) rfl ?_⟩
    try simp only [↓WP, ↓WP3, ↓WP4, ↓s_cons, WQ, WQ3, WQ4, clean, wipeD, Tg.slots, lim, Nat.reduceAdd, Nat.reduceLeDiff, HAS]
    exact h1 hp
  · rintro i σ A' hi ⟨rfl, hp, x2, rfl⟩ K hK _ _ hR _
    have e0 : (0 + (i : Int)) = ((i : Nat) : Int) := by omega
    have hi' : i < (nms cs).length := by simpa using hi
    have hix : ∀ S : Sto, ixD (.tup (cs.map colO)) (.int ((i : Nat) : Int)) S = .ok (colO cs[i]) S := ix_tp (atI_nat (by rw [List.getElem?_map, List.getElem?_eq_getElem hi]; rfl))
    rw [List.drop_eq_getElem_cons hi', List.getElem_map] at hp
    by_cases hm : cs[i].1 = x
    · have hp2 : posOf x (nms cs) 0 = some i := by rw [hp, pos_c, if_pos hm]
      simp only [↓WP, ↓WP3, ↓WP4, ↓s_cons, WQ, WQ3, WQ4, clean, wipeD, Tg.slots, lim, Nat.reduceAdd, Nat.reduceLeDiff, HAS, self_sch, e0, hix, self_col, decide_eq_true hm]
      refine hR _ _ ?_
      rw [seq_rt, retF_rt]
      exact h i hp2
    · have hp2 : posOf x (nms cs) 0 = posOf x ((nms cs).drop (i + 1)) (i + 1) := by rw [hp, pos_c, if_neg hm]
      simp only [↓WP, ↓WP3, ↓WP4, ↓s_cons, WQ, WQ3, WQ4, clean, wipeD, Tg.slots, lim, Nat.reduceAdd, Nat.reduceLeDiff, HAS, self_sch, e0, hix, self_col, decide_eq_false hm]
      exact hK _ _ ⟨rfl, hp2, _, rfl⟩
def placeD (cs : List Col) (x : Str) : D := match posOf x (nms cs) 0 with
  | some i => .lv [.lv [.str "let"], .int ((i : Nat) : Int)]
  | none => .lv [.lv [.str "ValueError", .str "TellError", .str "NameFault", .str "UnknownName"], .str x]
theorem lplace_u {cs : List Col} {x : Str} {Q : QD} {E : QX} (hl : cs.length ≤ 10) (hx : x.length ≤ 1000) (h : Q (placeD cs x) A) : callQ (prg w) (k + 4) "_law_place" [schO cs, .str x] A Q E := by
  refine call_of (F := f_law_place) rfl rfl ?_
  show wSs _ _ b_law_place [some (schO cs), some (.str x), none] A _
  unfold b_law_place
  unfold placeD at h
  rw [s_cons]
  simp only [↓WP, ↓WP3, ↓WP4, ↓s_one, WQ, WQ3, WQ4, clean, wipeD, Tg.slots, lim, Nat.reduceAdd, Nat.reduceLeDiff, HAS, key_place]
  refine ⟨tok_of exc_UnknownName, by decide, splace_u (k := k) hl hx (fun i hi => ?_) fun hi => ?_⟩
  · rw [hi] at h
    simp only [↓WP, ↓WP3, ↓WP4, ↓s_one, WQ, WQ3, WQ4, clean, wipeD, Tg.slots, lim, Nat.reduceAdd, Nat.reduceLeDiff, HAS, tryQ]
    exact h
  · rw [hi] at h
    rw [exS_ap]
    exact tq_hit rfl sub_UnknownName_UnknownName (hand1 lab_UnknownName (by decide) fok_UnknownName_name rfl) rfl h
/-! ### == of columns and of schemas -/
theorem ceq_run {c d : Col} {S : Sto} : callN (prg w) (k + 1) "Column.__eq__" "Column.__eq__" [colO c, colO d] S = .ok (.bl (decide (c = d))) S := by
  have f1 : ∀ c : Col, fldD (ctxOf (prg w) k) "name" (colO c) S = .ok (.str c.1) S := fun c => rfl
  have f2 : ∀ c : Col, fldD (ctxOf (prg w) k) "low" (colO c) S = .ok (.int c.2.1) S := fun c => rfl
  have f3 : ∀ c : Col, fldD (ctxOf (prg w) k) "high" (colO c) S = .ok (.int c.2.2) S := fun c => rfl
  have f4 : iscD (ctxOf (prg w) k) "Column" (colO d) S = .ok (.bl true) S := rfl
  have e0 : ([some (colO c), some (colO d)] : Sg)[0]? = some (some (colO c)) := rfl
  have e1 : ([some (colO c), some (colO d)] : Sg)[1]? = some (some (colO d)) := rfl
  rw [call_Column_eq]
  simp only [b_Column_eq, evSs, evS, evE, e0, e1, R.bind_ok, ig_Column, gd_t, f1, f2, f3, f4, cmp_eq_str, cmp_eq_int]
  obtain ⟨a, b, c⟩ := c
  obtain ⟨a', b', c'⟩ := d
  by_cases h1 : a = a'
  · by_cases h2 : b = b'
    · by_cases h3 : c = c'
      · subst h1 h2 h3; simp
      · subst h1 h2; simp [h3]
    · subst h1; simp [h2]
  · simp [h1]
theorem ceqo {c d : Col} {S : Sto} : eqoD (ctxOf (prg w) (k + 1)) (colO c) (colO d) S = .ok (.bl (decide (c = d))) S := by
  show gd true (oeD (ctxOf (prg w) (k + 1)) (colO c) (colO d) S) = _
  have e : keyD (ctxOf (prg w) (k + 1)) "__eq__" "" (colO c) S = some ("Column.__eq__" : Str) := rfl
  unfold oeD
  rw [gd_t, e]
  simp only [ctx_call, ceq_run, R.nox_ok, R.bind_ok]
  rfl
theorem te_one {c d : Col} {S : Sto} : teOne (ctxOf (prg w) (k + 2)) (colO c) (colO d) S = some (decide (c = d)) := by
  have e : keyD (ctxOf (prg w) (k + 2)) "__eq__" "low" (colO c) S = some ("Column.__eq__.low" : Str) := rfl
  have e1 : List.lookup ("Column.__eq__.low" : Str) (prg w).fns = none := rfl
  have e2 : List.lookup ("Column.__eq__.low" : Str) (prg w).eks = some (.low "Column.__eq__") := rfl
  have r : callN (prg w) (k + 2) "Column.__eq__.low" "Column.__eq__.low" [colO c, colO d] S = .ok (.bl (decide (c = d))) S := by
    rw [callN]
    simp only [e1, e2]
    exact ceq_run
  have sc : sameC S (colO c) (colO d) = true := rfl
  have ob : decide (c = d) = true ∨ obDiff (colO c) (colO d) = true := by
    by_cases h : c = d
    · exact .inl (decide_eq_true h)
    · refine .inr ?_
      obtain ⟨a, b, c⟩ := c
      obtain ⟨a', b', c'⟩ := d
      simp only [colO, obDiff, List.zip_cons_cons, List.zip_nil_right, List.any_cons, List.any_nil, flatNe, Bool.or_false, Bool.or_eq_true, decide_eq_true_eq]
      by_cases h1 : a = a'
      · by_cases h2 : b = b'
        · by_cases h3 : c = c'
          · exact absurd (by rw [h1, h2, h3]) h
          · exact .inr (.inr h3)
        · exact .inr (.inl h2)
      · exact .inl h1
  unfold teOne
  rw [e]
  simp only [ctx_call, r]
  exact if_pos ⟨trivial, sc, ob⟩
theorem te_go {S : Sto} : ∀ {cs ds : List Col}, teGo (ctxOf (prg w) (k + 2)) (cs.map colO) (ds.map colO) S = .ok (.bl (decide (cs = ds))) S
  | [], [] => rfl
  | [], _ :: _ => rfl
  | _ :: _, [] => rfl
  | c :: cs, d :: ds => by
    rw [List.map_cons, List.map_cons]
    unfold teGo
    rw [te_one]
    by_cases h : c = d
    · subst h
      simp only [decide_true]
      rw [te_go]
      congr 2
      simp
    · simp [h]
theorem seq_run {cs ds : List Col} {S : Sto} : callN (prg w) (k + 3) "Schema.__eq__" "Schema.__eq__" [schO cs, schO ds] S = .ok (.bl (decide (cs = ds))) S := by
  have f1 : ∀ cs : List Col, fldD (ctxOf (prg w) (k + 2)) "columns" (schO cs) S = .ok (.tup (cs.map colO)) S := fun c => rfl
  have f4 : iscD (ctxOf (prg w) (k + 2)) "Schema" (schO ds) S = .ok (.bl true) S := rfl
  have e0 : ([some (schO cs), some (schO ds)] : Sg)[0]? = some (some (schO cs)) := rfl
  have e1 : ([some (schO cs), some (schO ds)] : Sg)[1]? = some (some (schO ds)) := rfl
  have e2 : eqoD (ctxOf (prg w) (k + 2)) (.tup (cs.map colO)) (.tup (ds.map colO)) S = .ok (.bl (decide (cs = ds))) S := te_go
  rw [call_Schema_eq]
  simp only [b_Schema_eq, evSs, evS, evE, e0, e1, R.bind_ok, ig_Schema, gd_t, f1, f4, e2]
  rfl
theorem seqo {cs ds : List Col} {S : Sto} : eqoD (ctxOf (prg w) (k + 3)) (schO cs) (schO ds) S = .ok (.bl (decide (cs = ds))) S := by
  show gd true (oeD (ctxOf (prg w) (k + 3)) (schO cs) (schO ds) S) = _
  have e : keyD (ctxOf (prg w) (k + 3)) "__eq__" "" (schO cs) S = some ("Schema.__eq__" : Str) := rfl
  unfold oeD
  rw [gd_t, e]
  simp only [ctx_call, seq_run, R.nox_ok, R.bind_ok]
  rfl
theorem eqo_col {c d : Col} {K : Bool → Prop} (q : K (decide (c = d))) : eqoQ (prg w) (k + 1) (colO c) (colO d) A K := ⟨rfl, rfl, _, fun S _ => ceqo, q⟩
theorem eqo_sch {cs ds : List Col} {K : Bool → Prop} (q : K (decide (cs = ds))) : eqoQ (prg w) (k + 3) (schO cs) (schO ds) A K := ⟨rfl, rfl, _, fun S _ => seqo, q⟩
end Pr

namespace Pr
open PySem L2 Ev
variable {w k : Nat} {A : Ob}
/-! ### == of columns by value -/
def pyC (c : Col) : PyData := .tuple [.str c.1, .int c.2.1, .int c.2.2]
theorem toPys_cols : ∀ cs : List Col, toPys (cs.map colT) = some (cs.map pyC)
  | [] => rfl
  | c :: cs => by
    rw [List.map_cons, List.map_cons, toPys, toPys_cols cs]
    rfl
theorem sgn_strOk {x : Str} (h : nmOk x) : PyData.strOk x = true := by
  obtain ⟨⟨c, r, e, hc, hr, _⟩, _⟩ := h
  unfold PyData.strOk
  rw [Array.all_eq_true_iff_forall_mem]
  intro d hd
  have : d ∈ x.cps.toList := by simpa using hd
  rw [e] at this
  rw [decide_eq_true_eq]
  rcases List.mem_cons.mp this with rfl | h
  · exact sgn_ok _ (lets_sgn _ hc)
  · exact sgn_ok _ (hr _ h)
theorem shape_c {c : Col} (h : nmOk c.1) : PyData.canLay0 (pyC c) = true ∧ PyData.depth (pyC c) ≤ 1 := by
  simp [pyC, PyData.canLay0, PyData.canLayAll0, PyData.depth, PyData.depthAll, sgn_strOk h]
theorem shape_cs : ∀ {cs : List Col}, (∀ c, c ∈ cs → nmOk c.1) → PyData.canLayAll0 (cs.map pyC) = true ∧ PyData.depthAll (cs.map pyC) ≤ 1
  | [], _ => by simp [PyData.canLayAll0, PyData.depthAll]
  | c :: cs, h => by
    have ih := shape_cs (cs := cs) fun d hd => h d (List.mem_cons_of_mem _ hd)
    have h1 := shape_c (h c List.mem_cons_self)
    simp only [List.map_cons, PyData.canLayAll0, PyData.depthAll, ih.1, h1.1]
    have := ih.2
    have := h1.2
    simp
    omega
theorem eqv_c (c d : Col) : PyData.eqv (pyC c) (pyC d) = decide (c = d) := by
  obtain ⟨a, b, e⟩ := c
  obtain ⟨a', b', e'⟩ := d
  simp only [pyC, PyData.eqv, PyData.eqvAll, Bool.and_true, Prod.mk.injEq]
  by_cases h1 : a = a'
  · by_cases h2 : b = b'
    · by_cases h3 : e = e'
      · subst h1 h2 h3; simp
      · subst h1 h2; simp [h3]
    · subst h1; simp [h2]
  · simp [h1]
theorem eqv_cs : ∀ cs ds : List Col, PyData.eqvAll (cs.map pyC) (ds.map pyC) = decide (cs = ds)
  | [], [] => rfl
  | [], _ :: _ => by simp [PyData.eqvAll]
  | _ :: _, [] => by simp [PyData.eqvAll]
  | c :: cs, d :: ds => by
    simp only [List.map_cons, PyData.eqvAll, eqv_c, eqv_cs cs ds, List.cons.injEq]
    by_cases h : c = d
    · simp [h]
    · simp [h]
theorem cmp_cols {cs ds : List Col} (h1 : ∀ c, c ∈ cs → nmOk c.1) (h2 : ∀ c, c ∈ ds → nmOk c.1) (S : Sto) : cmpD .eq (.lv (cs.map colT)) (.lv (ds.map colT)) S = .ok (.bl (decide (cs = ds))) S := by
  have s1 := shape_cs h1
  have s2 := shape_cs h2
  have e1 : SeqAt.shaped (.list (cs.map pyC)) = true := by
    simp only [SeqAt.shaped, PyData.canLay0, PyData.depth, s1.1]
    have := s1.2
    simp
    omega
  have e2 : SeqAt.shaped (.list (ds.map pyC)) = true := by
    simp only [SeqAt.shaped, PyData.canLay0, PyData.depth, s2.1]
    have := s2.2
    simp
    omega
  have e : eqD S (.lv (cs.map colT)) (.lv (ds.map colT)) = some (decide (cs = ds)) := by
    unfold eqD
    simp only [eqS, topPy, toPy, toPys_cols, Option.map_some, e1, e2, Bool.and_self, if_true, PyData.eqv, eqv_cs]
  simp only [cmpD, cmpO, e, ofOpt_some, R.bind_ok]
theorem cmp_col {c d : Col} (h1 : nmOk c.1) (h2 : nmOk d.1) (S : Sto) : cmpD .eq (colT c) (colT d) S = .ok (.bl (decide (c = d))) S := by
  have s1 := shape_c h1
  have s2 := shape_c h2
  have e1 : SeqAt.shaped (pyC c) = true := by
    simp only [SeqAt.shaped, s1.1, Bool.true_and, decide_eq_true_eq]
    omega
  have e2 : SeqAt.shaped (pyC d) = true := by
    simp only [SeqAt.shaped, s2.1, Bool.true_and, decide_eq_true_eq]
    omega
  have t : ∀ c : Col, topPy S (colT c) = some (pyC c) := fun c => rfl
  have e : eqD S (colT c) (colT d) = some (decide (c = d)) := by
    have e0 : eqS (colT c) (colT d) = none := rfl
    unfold eqD
    simp only [e0, t, e1, e2, Bool.and_self, if_true, eqv_c]
  simp only [cmpD, cmpO, e, ofOpt_some, R.bind_ok]
end Pr

namespace Pr
open PySem L2 Ev
variable {w k : Nat} {A : Ob} {Q : QD} {E : QX} {d e : D} {xs ys : List D}
structure Vs (A : Ob) (d : D) (xs : List D) (ty : String) : Prop where
  ty : tyName (fs A) d = some ty
  len : bltD .len [d] (fs A) = .ok (.int xs.length) (fs A)
  ix : ∀ (i : Nat) (h : i < xs.length), ixD d (.int (0 + (i : Int))) (fs A) = .ok xs[i] (fs A)
  nn : cmpD .is_ d .non (fs A) = .ok (.bl false) (fs A)
theorem Vs.tup : Vs A (.tup xs) xs "tuple" := ⟨rfl, len_tup _ _, fun i h => ix_tp (by rw [Int.zero_add]; exact atI_nat (List.getElem?_eq_getElem h)) _, cmp_isN_tup _ _⟩
theorem Vs.of_lq (h : Lq A d xs) : Vs A d xs "list" := by
  refine ⟨?_, h.len, fun i hi => h.ix (by rw [Int.zero_add]; exact atI_nat (List.getElem?_eq_getElem hi)), ?_⟩
  · have h2 := h.ls
    cases d <;> simp only [Ev.listOf, reduceCtorEq] at h2 <;> simp only [tyName]
    rename_i n
    cases q : (fs A)[n]? with
    | none => rw [q] at h2; cases h2
    | some o =>
      cases o with
      | dead => rw [q] at h2; cases h2
      | ins _ _ _ => rw [q] at h2; cases h2
      | lst _ => rfl
  · have h2 := h.ls
    cases d <;> simp only [Ev.listOf, reduceCtorEq] at h2 <;> rfl
theorem isi_w {S : Sto} {t n : String} {v : Bool} (h : tyName S d = some t) (kb : kitB t n = some v) : bltD .isi [d, .ty n] S = .ok (.bl v) S := isi_t h kb
theorem same_seq {ty : String} (hty : ty = "list" ∨ ty = "tuple") (a : Vs A d xs ty) (b : Vs A e ys ty) (sd : stab d = d) (se : stab e = e) (hl : xs.length = ys.length) (hm : ys.length ≤ lim)
    (rec : ∀ (i : Nat) (h1 : i < xs.length) (h2 : i < ys.length) (Q : QD) (E : QX), Q (.bl true) A → callQ (prg w) k "_law_same" [xs[i], ys[i]] A Q E) (st : ∀ x, x ∈ xs → stab x = x) (st2 : ∀ x, x ∈ ys → stab x = x) (hQ : Q (.bl true) A) :
    callQ (prg w) (k + 1) "_law_same" [d, e] A Q E := by
  have hlim : ys.length < 2 ^ 62 := Nat.lt_of_le_of_lt hm (by decide)
  refine call_of (F := f_law_same) rfl rfl ?_
  show wSs _ _ b_law_same [some d, some e, none] A _
  unfold b_law_same
  have hr : rngOk (ys.length : Int) = true := by unfold rngOk; rw [decide_eq_true]; omega
  have loop : ∀ F : QF, (∀ σ, F (.nx σ) A) → wFr (.nm 2) (wSs (prg w) k (.cons (.ifs (.not (.call "_law_same" "_law_same" (.cons (.ix (.var 0) (.var 2)) (.cons (.ix (.var 1) (.var 2)) .nil))))
      (.cons (.ret (.cbl false))
      .nil)
      .nil)
    .nil)) (rngL 0 0 ((ys.length : Nat) : Int).toNat) [some d, some e, none] A F := fun F hF => by
    refine wFr_of (m := ys.length) (fun i σ A' => A' = A ∧ ∃ x2, σ = [some d, some e, x2]) ?_ ?_ _ 0 _ _ (by omega) ⟨rfl, none, rfl⟩
    · rintro σ A' ⟨rfl, _⟩
      exact hF _
    · rintro i σ A' hi ⟨rfl, x2, rfl⟩ K hn _ _ _ _
      simp only [↓WP, ↓WP3, ↓WP4, ↓s_cons, WQ, WQ3, WQ4, clean, wipeD, Tg.slots, lim, Nat.reduceAdd, Nat.reduceLeDiff, HAS, a.ix i (by omega), b.ix i hi, st _ (List.getElem_mem (show i < xs.length by omega)), st2 _ (List.getElem_mem hi)]
      refine rec i (by omega) hi _ _ ?_
      simp only [↓WP, ↓WP3, ↓WP4, ↓s_cons, WQ, WQ3, WQ4, clean, wipeD, Tg.slots, lim, Nat.reduceAdd, Nat.reduceLeDiff, HAS, Bool.not_true]
      exact hn _ _ ⟨rfl, _, rfl⟩
  have fin : decide ((xs.length : Int) = (ys.length : Nat)) = true := decide_eq_true (by omega)
  rcases hty with rfl | rfl
  · simp only [↓WP, ↓WP3, ↓WP4, ↓s_cons, WQ, WQ3, WQ4, clean, wipeD, Tg.slots, lim, Nat.reduceAdd, Nat.reduceLeDiff, HAS, b.nn, isi_w b.ty kb_lb, isi_w b.ty kb_li, isi_w b.ty kb_ls, isi_w b.ty kb_lt, isi_w b.ty kb_ll, isi_w a.ty kb_ll, Bool.not_true, a.len, b.len, fin, hr]
    refine loop _ fun σ => ?_
    simp only [↓WP, ↓WP3, ↓WP4, ↓s_cons, WQ, WQ3, WQ4, clean, wipeD, Tg.slots, lim, Nat.reduceAdd, Nat.reduceLeDiff, HAS]
    exact hQ
  · simp only [↓WP, ↓WP3, ↓WP4, ↓s_cons, WQ, WQ3, WQ4, clean, wipeD, Tg.slots, lim, Nat.reduceAdd, Nat.reduceLeDiff, HAS, b.nn, isi_w b.ty kb_tb, isi_w b.ty kb_ti, isi_w b.ty kb_ts, isi_w b.ty kb_tt, isi_w b.ty kb_tl, isi_w a.ty kb_tt, Bool.not_true, a.len, b.len, fin, hr]
    refine loop _ fun σ => ?_
    simp only [↓WP, ↓WP3, ↓WP4, ↓s_cons, WQ, WQ3, WQ4, clean, wipeD, Tg.slots, lim, Nat.reduceAdd, Nat.reduceLeDiff, HAS]
    exact hQ
theorem okD_stab : ∀ {d : D}, okD d = true → stab d = d
  | .non, _ => rfl
  | .bl _, _ => rfl
  | .int _, _ => rfl
  | .str _, _ => rfl
  | .tup _, _ => rfl
  | .lv _, _ => rfl
  | .fl _, h => by simp [okD] at h
  | .ref _, h => by simp [okD] at h
  | .ty _, h => by simp [okD] at h
  | .vw _ _, h => by simp [okD] at h
/-- a value and itself -/
theorem same_u : ∀ (n : Nat) {d : D} {Q : QD} {E : QX}, depD d ≤ n → okD d = true → Q (.bl true) A → callQ (prg w) (k + n) "_law_same" [d, d] A Q E
  | 0, d, Q, E, h, _, _ => by cases d <;> simp [depD] at h
  | n + 1, .non, Q, E, _, _, q => by
    refine call_of (F := f_law_same) rfl rfl ?_
    show wSs _ _ b_law_same [some .non, some .non, none] A _
    unfold b_law_same
    simp only [↓WP, ↓WP3, ↓WP4, ↓s_cons, WQ, WQ3, WQ4, clean, wipeD, Tg.slots, lim, Nat.reduceAdd, Nat.reduceLeDiff, HAS, cmp_is_non]
    exact q
  | n + 1, .bl b, Q, E, _, _, q => by
    refine call_of (F := f_law_same) rfl rfl ?_
    show wSs _ _ b_law_same [some (.bl b), some (.bl b), none] A _
    unfold b_law_same
    simp only [↓WP, ↓WP3, ↓WP4, ↓s_cons, WQ, WQ3, WQ4, clean, wipeD, Tg.slots, lim, Nat.reduceAdd, Nat.reduceLeDiff, HAS, cmp_isN_bl, isi_w (d := .bl b) (S := fs A) rfl kb_bb, decide_true]
    exact q
  | n + 1, .int b, Q, E, _, _, q => by
    refine call_of (F := f_law_same) rfl rfl ?_
    show wSs _ _ b_law_same [some (.int b), some (.int b), none] A _
    unfold b_law_same
    simp only [↓WP, ↓WP3, ↓WP4, ↓s_cons, WQ, WQ3, WQ4, clean, wipeD, Tg.slots, lim, Nat.reduceAdd, Nat.reduceLeDiff, HAS, cmp_isN_int, isi_w (d := .int b) (S := fs A) rfl kb_ib, isi_w (d := .int b) (S := fs A) rfl kb_ii, decide_true, Bool.not_false]
    exact q
  | n + 1, .str b, Q, E, _, _, q => by
    refine call_of (F := f_law_same) rfl rfl ?_
    show wSs _ _ b_law_same [some (.str b), some (.str b), none] A _
    unfold b_law_same
    simp only [↓WP, ↓WP3, ↓WP4, ↓s_cons, WQ, WQ3, WQ4, clean, wipeD, Tg.slots, lim, Nat.reduceAdd, Nat.reduceLeDiff, HAS, cmp_isN_str, isi_w (d := .str b) (S := fs A) rfl kb_sb, isi_w (d := .str b) (S := fs A) rfl kb_si, isi_w (d := .str b) (S := fs A) rfl kb_ss, decide_true]
    exact q
  | n + 1, .tup xs, Q, E, h, ho, q => by
    simp only [okD, Bool.and_eq_true, decide_eq_true_eq] at ho
    simp only [depD] at h
    exact same_seq (.inr rfl) .tup .tup rfl rfl rfl ho.1 (fun i h1 h2 Q E q => same_u n (Nat.le_trans (depDs_mem (List.getElem_mem h1)) (by omega)) (okDs_mem ho.2 (List.getElem_mem h1)) q) (fun x hx => okD_stab (okDs_mem ho.2 hx)) (fun x hx => okD_stab (okDs_mem ho.2 hx)) q
  | n + 1, .lv xs, Q, E, h, ho, q => by
    simp only [okD, Bool.and_eq_true, decide_eq_true_eq] at ho
    simp only [depD] at h
    exact same_seq (.inl rfl) (.of_lq .lv) (.of_lq .lv) rfl rfl rfl ho.1 (fun i h1 h2 Q E q => same_u n (Nat.le_trans (depDs_mem (List.getElem_mem h1)) (by omega)) (okDs_mem ho.2 (List.getElem_mem h1)) q) (fun x hx => okD_stab (okDs_mem ho.2 hx)) (fun x hx => okD_stab (okDs_mem ho.2 hx)) q
  | n + 1, .fl xs, _, _, _, ho, _ => by simp [okD] at ho
  | n + 1, .ref m, _, _, _, ho, _ => by simp [okD] at ho
  | n + 1, .ty m, _, _, _, ho, _ => by simp [okD] at ho
  | n + 1, .vw _ _, _, _, _, ho, _ => by simp [okD] at ho
/-- a list in any form and the value of its items -/
theorem same_lq {n : Nat} {d : D} (hd : Lq A d xs) (h : depDs xs ≤ n) (ho : okD (.lv xs) = true) (q : Q (.bl true) A) : callQ (prg w) (k + (n + 1)) "_law_same" [d, .lv xs] A Q E := by
  simp only [okD, Bool.and_eq_true, decide_eq_true_eq] at ho
  exact same_seq (k := k + n) (.inl rfl) (.of_lq hd) (.of_lq .lv) hd.st rfl rfl ho.1 (fun i h1 h2 Q E q => same_u n (Nat.le_trans (depDs_mem (List.getElem_mem h1)) h) (okDs_mem ho.2 (List.getElem_mem h1)) q) (fun x hx => okD_stab (okDs_mem ho.2 hx)) (fun x hx => okD_stab (okDs_mem ho.2 hx)) q
end Pr

namespace Pr
open PySem L2 Ev
variable {w k : Nat} {A : Ob}
theorem same_bl {b : Bool} {Q : QD} {E : QX} (h : Q (.bl true) A) : callQ (prg w) (k + 1) "_law_same" [.bl b, .bl b] A Q E := same_u (k := k) 1 (by simp [depD]) (by simp [okD]) h
theorem okDs_map {α : Type} {f : α → D} {n : Nat} (h : ∀ x, okD (f x) = true ∧ depD (f x) ≤ n) : ∀ l : List α, okDs (l.map f) = true ∧ depDs (l.map f) ≤ n
  | [] => by simp [okDs, depDs]
  | x :: l => by
    have ih := okDs_map h l
    have h1 := h x
    rw [List.map_cons]
    simp only [okDs, depDs, h1.1, ih.1, Bool.and_self, true_and]
    have := h1.2
    have := ih.2
    omega
theorem ok_colT (c : Col) : okD (colT c) = true ∧ depD (colT c) ≤ 2 := by simp [colT, okD, okDs, depD, depDs, lim]
theorem ok_cols {cs : List Col} (h : cs.length ≤ 10) : okD (.lv (cs.map colT)) = true ∧ depD (.lv (cs.map colT)) ≤ 3 := by
  have := okDs_map ok_colT cs
  simp only [okD, depD, this.1, Bool.and_true, decide_eq_true_eq, List.length_map]
  have := this.2
  exact ⟨by simp [lim]; omega, by omega⟩
def letAt (i : Nat) : D := .lv [.lv [.str "let"], .int ((i : Nat) : Int)]
theorem ok_let (i : Nat) : okD (letAt i) = true ∧ depD (letAt i) ≤ 3 := by simp [letAt, okD, okDs, depD, depDs, lim]
theorem pos_at : ∀ {l : List Str} {i j : Nat} (h : i < l.length), l.Nodup → posOf l[i] l j = some (j + i)
  | [], i, j, h, _ => by simp at h
  | y :: r, 0, j, h, hn => by
    rw [pos_c]
    simp
  | y :: r, i + 1, j, h, hn => by
    rw [List.nodup_cons] at hn
    have hi : i < r.length := by simpa using h
    rw [pos_c, List.getElem_cons_succ, if_neg (fun e => hn.1 (by rw [e]; exact List.getElem_mem hi)), pos_at hi hn.2]
    congr 1
    omega
theorem places_eq {cs : List Col} (hn : (nms cs).Nodup) : (nms cs).map (placeD cs) = (List.range cs.length).map letAt := by
  apply List.ext_getElem
  · simp
  · intro i h1 h2
    simp only [List.getElem_map, List.getElem_range]
    have hi : i < (nms cs).length := by simpa using h1
    have p := pos_at (j := 0) hi hn
    rw [List.getElem_map, Nat.zero_add] at p
    unfold placeD
    rw [p]
    rfl
theorem kept_u {cs : List Col} {Q : QD} {E : QX} (ok : SchOk cs) (h : Q (.bl true) A) : callQ (prg w) (k + 6) "_law_kept" [schO cs, .lv (cs.map colT)] A Q E := by
  refine call_of (F := f_law_kept) rfl rfl ?_
  show wSs _ _ b_law_kept [some (schO cs), some (.lv (cs.map colT)), none, none, none, none] A _
  unfold b_law_kept
  have hf := ok.few
  have isi : ∀ S : Sto, bltD .isi [.tup (cs.map colO), .ty "tuple"] S = .ok (.bl true) S := fun S => isi_w rfl kb_tt
  have colq : ∀ {K : QD} (c : Col), True := fun _ => trivial
  simp only [↓WP, ↓WP3, ↓WP4, ↓s_cons, WQ, WQ3, WQ4, clean, wipeD, Tg.slots, lim, Nat.reduceAdd, Nat.reduceLeDiff, HAS]
  refine wLc_map (f := colT) (g := fun c : Col => D.str c.1) (p := fun _ => true) (l := cs) rfl (by simp [lim]; omega) (fun c _ => ?_) ?_
  · simp only [↓WP, ↓WP3, ↓WP4, ↓s_cons, WQ, WQ3, WQ4, clean, wipeD, Tg.slots, lim, Nat.reduceAdd, Nat.reduceLeDiff, HAS, col0]
    first | exact fun K h => h | exact ⟨fun K h => h, fun K h => h⟩ | exact ⟨fun K h => h, fun _ K h => h⟩
  · have e1 : (cs.filter fun _ => true).map (fun c : Col => D.str c.1) = sl (nms cs) := by rw [map_id]; simp [sl]
    rw [e1]
    simp only [↓WP, ↓WP3, ↓WP4, ↓s_cons, WQ, WQ3, WQ4, clean, wipeD, Tg.slots, lim, Nat.reduceAdd, Nat.reduceLeDiff, HAS, self_sch, isi, Bool.not_true, key_names]
    refine names_p (k := k + 3) (by omega) ?_
    simp only [↓WP, ↓WP3, ↓WP4, ↓s_cons, WQ, WQ3, WQ4, clean, wipeD, Tg.slots, lim, Nat.reduceAdd, Nat.reduceLeDiff, HAS]
    refine same_lq (k := k + 3) (n := 1) .vw (okDs_sl _).2 (by simp only [okD, Bool.and_eq_true, decide_eq_true_eq, sl_len, List.length_map]; exact ⟨by simp [lim]; omega, (okDs_sl _).1⟩) ?_
    simp only [↓WP, ↓WP3, ↓WP4, ↓s_cons, WQ, WQ3, WQ4, clean, wipeD, Tg.slots, lim, Nat.reduceAdd, Nat.reduceLeDiff, HAS, Bool.not_true, self_sch]
    refine wLc_map (f := colO) (g := colT) (p := fun _ => true) (l := cs) rfl (by simp [lim]; omega) (fun c _ => ?_) ?_
    · simp only [↓WP, ↓WP3, ↓WP4, ↓s_cons, WQ, WQ3, WQ4, clean, wipeD, Tg.slots, lim, Nat.reduceAdd, Nat.reduceLeDiff, HAS, self_col]
      first | exact ⟨fun K h => h, fun _ => ⟨rfl, fun K h => h⟩⟩ | exact ⟨fun K h => h, fun _ => ⟨rfl, fun K h => ⟨by simp [lim], h⟩⟩⟩ | skip
    · rw [map_id]
      simp only [↓WP, ↓WP3, ↓WP4, ↓s_cons, WQ, WQ3, WQ4, clean, wipeD, Tg.slots, lim, Nat.reduceAdd, Nat.reduceLeDiff, HAS]
      have okc := ok_cols (cs := cs) (by omega)
      refine same_u (k := k + 2) 3 okc.2 okc.1 ?_
      simp only [↓WP, ↓WP3, ↓WP4, ↓s_cons, WQ, WQ3, WQ4, clean, wipeD, Tg.slots, lim, Nat.reduceAdd, Nat.reduceLeDiff, HAS, Bool.not_true]
      have hns : nms cs = nms cs := rfl
      refine wLc_map (f := fun x : Str => D.str x) (g := placeD cs) (p := fun _ => true) (l := nms cs) rfl (by simp [lim]; omega) (fun x hx => ?_) ?_
      · obtain ⟨c, hc, rfl⟩ := List.mem_map.mp hx
        have hg : colG c := ⟨ok.nms c hc, ok.ord c hc⟩
        simp only [↓WP, ↓WP3, ↓WP4, ↓s_cons, WQ, WQ3, WQ4, clean, wipeD, Tg.slots, lim, Nat.reduceAdd, Nat.reduceLeDiff, HAS, stab_sch]
        refine ⟨fun K q => q, fun _ => ⟨?_, fun K q => lplace_u (k := k + 1) (by omega) hg.len q⟩⟩
        unfold placeD
        split <;> rfl
      · rw [map_id, places_eq ok.nd]
        have hln : ∀ S : Sto, bltD .len [.lv (sl (nms cs))] S = .ok (.int ((cs.length : Nat) : Int)) S := fun S => by rw [len_lv, sl_len, List.length_map]
        simp only [↓hln, ↓WP, ↓WP3, ↓WP4, ↓s_cons, WQ, WQ3, WQ4, clean, wipeD, Tg.slots, lim, Nat.reduceAdd, Nat.reduceLeDiff, HAS, sl_len, List.length_map]
        refine ⟨by simp [rngOk]; omega, ?_⟩
        rw [Int.toNat_natCast]
        refine wLr_pure (g := letAt) cs.length 0 [] (by simp [lim]; omega) (fun j _ hj => ?_) ?_
        · have e0 : (0 + (j : Int)) = ((j : Nat) : Int) := by omega
          simp only [↓WP, ↓WP3, ↓WP4, ↓s_cons, WQ, WQ3, WQ4, clean, wipeD, Tg.slots, lim, Nat.reduceAdd, Nat.reduceLeDiff, HAS, e0]
          first | exact ⟨fun K h => h, rfl, fun K h => h⟩ | exact ⟨fun K h => h, fun K h => h⟩ | skip
        · have e2 : (([] : List D) ++ (List.range cs.length).map fun j => letAt (0 + j)) = (List.range cs.length).map letAt := by simp
          rw [e2]
          have okl := okDs_map ok_let (List.range cs.length)
          simp only [↓WP, ↓WP3, ↓WP4, ↓s_cons, WQ, WQ3, WQ4, clean, wipeD, Tg.slots, lim, Nat.reduceAdd, Nat.reduceLeDiff, HAS]
          refine same_u (k := k + 1) 4 (by simp only [depD]; have := okl.2; omega) (by simp only [okD, okl.1, Bool.and_true, decide_eq_true_eq, List.length_map, List.length_range]; simp [lim]; omega) ?_
          exact h
theorem equal_u {cs ds : List Col} {Q : QD} {E : QX} (h1 : cs.length ≤ 10) (h2 : ds.length ≤ 10) (n1 : ∀ c, c ∈ cs → nmOk c.1) (n2 : ∀ c, c ∈ ds → nmOk c.1) (h : Q (.bl true) A) :
    callQ (prg w) (k + 4) "_law_equal" [schO cs, schO ds, .lv (cs.map colT), .lv (ds.map colT)] A Q E := by
  refine call_of (F := f_law_equal) rfl rfl ?_
  show wSs _ _ b_law_equal [some (schO cs), some (schO ds), some (.lv (cs.map colT)), some (.lv (ds.map colT)), none, none] A _
  unfold b_law_equal
  have hc1 := fun S => cmp_cols n1 n2 S
  have comm : decide (ds = cs) = decide (cs = ds) := decide_eq_decide.mpr ⟨fun e => e.symm, fun e => e.symm⟩
  have l1 : ∀ S : Sto, bltD .len [.lv (cs.map colT)] S = .ok (.int ((cs.length : Nat) : Int)) S := fun S => by rw [len_lv, List.length_map]
  have l2 : ∀ S : Sto, bltD .len [.lv (ds.map colT)] S = .ok (.int ((ds.length : Nat) : Int)) S := fun S => by rw [len_lv, List.length_map]
  have hmin : ∀ S : Sto, bltD .min [.int ((cs.length : Nat) : Int), .int ((ds.length : Nat) : Int)] S = .ok (.int ((min cs.length ds.length : Nat) : Int)) S := fun S => by
    simp only [bltD, minD]
    congr 2
    split <;> omega
  simp only [↓l1, ↓l2, ↓WP, ↓WP3, ↓WP4, ↓s_cons, WQ, WQ3, WQ4, clean, wipeD, Tg.slots, lim, Nat.reduceAdd, Nat.reduceLeDiff, HAS]
  refine eqo_sch ?_
  simp only [↓WP, ↓WP3, ↓WP4, ↓s_cons, WQ, WQ3, WQ4, clean, wipeD, Tg.slots, lim, Nat.reduceAdd, Nat.reduceLeDiff, HAS, hc1]
  refine same_bl (k := k + 2) ?_
  simp only [↓WP, ↓WP3, ↓WP4, ↓s_cons, WQ, WQ3, WQ4, clean, wipeD, Tg.slots, lim, Nat.reduceAdd, Nat.reduceLeDiff, HAS, Bool.not_true]
  refine eqo_sch ?_
  simp only [↓WP, ↓WP3, ↓WP4, ↓s_cons, WQ, WQ3, WQ4, clean, wipeD, Tg.slots, lim, Nat.reduceAdd, Nat.reduceLeDiff, HAS, hc1, comm]
  refine same_bl (k := k + 2) ?_
  simp only [↓l1, ↓l2, ↓WP, ↓WP3, ↓WP4, ↓s_cons, WQ, WQ3, WQ4, clean, wipeD, Tg.slots, lim, Nat.reduceAdd, Nat.reduceLeDiff, HAS, Bool.not_true, hmin]
  refine ⟨by simp [rngOk]; omega, ?_⟩
  rw [Int.toNat_natCast]
  refine wFr_of (m := min cs.length ds.length) (fun i σ A' => A' = A ∧ ∃ x4 x5, σ = [some (schO cs), some (schO ds), some (.lv (cs.map colT)), some (.lv (ds.map colT)), x4, x5]) ?_ ?_ _ 0 _ _ (by omega) ⟨rfl, none, none, rfl⟩
  · rintro σ A' ⟨rfl, x4, x5, rfl⟩
    simp only [↓WP, ↓WP3, ↓WP4, ↓s_cons, WQ, WQ3, WQ4, clean, wipeD, Tg.slots, lim, Nat.reduceAdd, Nat.reduceLeDiff, HAS]
    exact h
  · rintro i σ A' hi ⟨rfl, x4, x5, rfl⟩ K hK _ _ _ _
    have e0 : (0 + (i : Int)) = ((i : Nat) : Int) := by omega
    have i1 : i < cs.length := by omega
    have i2 : i < ds.length := by omega
    have t1 : ∀ S : Sto, ixD (.lv (cs.map colT)) (.int ((i : Nat) : Int)) S = .ok (colT cs[i]) S := ix_lv (atI_nat (by rw [List.getElem?_map, List.getElem?_eq_getElem i1]; rfl))
    have t2 : ∀ S : Sto, ixD (.lv (ds.map colT)) (.int ((i : Nat) : Int)) S = .ok (colT ds[i]) S := ix_lv (atI_nat (by rw [List.getElem?_map, List.getElem?_eq_getElem i2]; rfl))
    have o1 : ∀ S : Sto, ixD (.tup (cs.map colO)) (.int ((i : Nat) : Int)) S = .ok (colO cs[i]) S := ix_tp (atI_nat (by rw [List.getElem?_map, List.getElem?_eq_getElem i1]; rfl))
    have o2 : ∀ S : Sto, ixD (.tup (ds.map colO)) (.int ((i : Nat) : Int)) S = .ok (colO ds[i]) S := ix_tp (atI_nat (by rw [List.getElem?_map, List.getElem?_eq_getElem i2]; rfl))
    have hcc := fun S => cmp_col (n1 _ (List.getElem_mem i1)) (n2 _ (List.getElem_mem i2)) S
    simp only [↓WP, ↓WP3, ↓WP4, ↓s_cons, WQ, WQ3, WQ4, clean, wipeD, Tg.slots, lim, Nat.reduceAdd, Nat.reduceLeDiff, HAS, e0, t1, t2, hcc, self_sch, o1, o2]
    refine eqo_col ?_
    try simp only [↓WP, ↓WP3, ↓WP4, ↓s_cons, WQ, WQ3, WQ4, clean, wipeD, Tg.slots, lim, Nat.reduceAdd, Nat.reduceLeDiff, HAS]
    refine same_bl (k := k + 2) ?_
    simp only [↓WP, ↓WP3, ↓WP4, ↓s_cons, WQ, WQ3, WQ4, clean, wipeD, Tg.slots, lim, Nat.reduceAdd, Nat.reduceLeDiff, HAS, Bool.not_true]
    exact hK _ _ ⟨rfl, _, _, rfl⟩
end Pr

namespace Pr
open PySem L2 Ev
variable {w k : Nat} {A : Ob}
/-- what is due of a column -/
def colDue (g : Bool) (x : Str) (lo hi : Int) : D := if g = false then .lv [.lv [.str "ValueError", .str "TellError", .str "NameFault", .str "BadName"], .str x] else
  if hi < lo then .lv [.lv [.str "ValueError", .str "TellError", .str "BadSpan"], .int lo, .int hi] else .lv [.lv [.str "let"], .str x, .int lo, .int hi]
theorem ldue_u {g : Bool} {x : Str} {lo hi : Int} {Q : QD} {E : QX} (h : Q (colDue g x lo hi) A) : callQ (prg w) (k + 1) "_law_column_due" [.bl g, .str x, .int lo, .int hi] A Q E := by
  refine call_of (F := f_law_column_due) rfl rfl ?_
  show wSs _ _ b_law_column_due [some (.bl g), some (.str x), some (.int lo), some (.int hi)] A _
  unfold b_law_column_due
  unfold colDue at h
  cases g with
  | false =>
    rw [if_pos rfl] at h
    simp only [↓WP, ↓WP3, ↓WP4, ↓s_cons, WQ, WQ3, WQ4, clean, wipeD, Tg.slots, lim, Nat.reduceAdd, Nat.reduceLeDiff, HAS, Bool.not_false]
    first | exact h | exact ⟨by simp [lim], h⟩
  | true =>
    rw [if_neg (by decide)] at h
    by_cases hg : hi < lo
    · rw [if_pos hg] at h
      have : decide (lo > hi) = true := decide_eq_true hg
      simp only [↓WP, ↓WP3, ↓WP4, ↓s_cons, WQ, WQ3, WQ4, clean, wipeD, Tg.slots, lim, Nat.reduceAdd, Nat.reduceLeDiff, HAS, Bool.not_true, this]
      exact h
    · rw [if_neg hg] at h
      have : decide (lo > hi) = false := decide_eq_false hg
      simp only [↓WP, ↓WP3, ↓WP4, ↓s_cons, WQ, WQ3, WQ4, clean, wipeD, Tg.slots, lim, Nat.reduceAdd, Nat.reduceLeDiff, HAS, Bool.not_true, this]
      exact h
theorem colDue_clean {g : Bool} {x : Str} {lo hi : Int} : clean (colDue g x lo hi) = true := by
  unfold colDue; split
  · rfl
  · split <;> rfl
theorem self_cl {c : Col} {K : Str → List Str → List D → Prop} : selfQ A (colO c) K = K "Column" ["name", "low", "high"] [.str c.1, .int c.2.1, .int c.2.2] := (rfl)
theorem asg_col {tg : Tg} {σ : Sg} {c : Col} {Q : Sg → Prop} : asgQ tg (colO c) σ Q = stQ tg (colO c) σ Q := (rfl)
theorem lcol_u {x : Str} {lo hi : Int} {Q : QD} {E : QX} (hx : x.length ≤ 1000) (h : ∀ A', Kp A A' → Q (colDue (nmB x) x lo hi) A') : callQ (prg w) (k + 6) "_law_column" [.str x, .int lo, .int hi] A Q E := by
  refine call_of (F := f_law_column) rfl rfl ?_
  show wSs _ _ b_law_column [some (.str x), some (.int lo), some (.int hi), none, none, none] A _
  unfold b_law_column
  rw [s_cons]
  simp only [↓WP, ↓WP3, ↓WP4, ↓s_one, WQ, WQ3, WQ4, clean, wipeD, Tg.slots, lim, Nat.reduceAdd, Nat.reduceLeDiff, HAS]
  refine ⟨by simp only [List.all_cons, List.all_nil, tok_of exc_BadName, tok_of exc_BadSpan, Bool.and_true], columnX_u (k := k) hx (fun h1 h2 => ?_) (fun h1 A' kp => ?_) fun h1 h2 A' kp => ?_⟩
  · have q := h A .rfl'
    unfold colDue at q
    rw [if_neg (by rw [h1]; decide), if_neg (by omega)] at q
    simp only [asg_col, ↓WP, ↓WP3, ↓WP4, ↓s_one, WQ, WQ3, WQ4, clean, wipeD, Tg.slots, lim, Nat.reduceAdd, Nat.reduceLeDiff, HAS, self_cl]
    exact q
  · have q := h A' kp
    unfold colDue at q
    rw [if_pos h1] at q
    rw [exS_ap, trymQ_ex]
    exact ⟨rfl, hs_hit sub_BadName_BadName (hand1 lab_BadName (by decide) fok_BadName_name rfl) rfl q⟩
  · have q := h A' kp
    unfold colDue at q
    rw [if_neg (by rw [h1]; decide), if_pos h2] at q
    rw [exS_ap, trymQ_ex]
    exact ⟨rfl, hs_miss sub_BadSpan_BadName (hs_hit sub_BadSpan_BadSpan (hand2 lab_BadSpan (by decide) fok_BadSpan_low rfl fok_BadSpan_high rfl) rfl q)⟩
end Pr

namespace Pr
open PySem L2 Ev
variable {w k : Nat} {A : Ob}
/-! ### another schema near the first one -/
theorem nd_put {l : List Str} {i : Nat} {x : Str} (hi : i < l.length) (hn : l.Nodup) (hx : x = l[i] ∨ x ∉ l) : (l.take i ++ [x] ++ l.drop (i + 1)).Nodup := by
  rcases hx with rfl | hx
  · have e : l.take i ++ [l[i]] ++ l.drop (i + 1) = l := by
      rw [List.append_assoc, List.singleton_append, ← List.drop_eq_getElem_cons hi, List.take_append_drop]
    rw [e]
    exact hn
  · rw [← List.take_append_drop i l, List.drop_eq_getElem_cons hi, List.nodup_append, List.nodup_cons] at hn
    obtain ⟨h1, ⟨h2, h3⟩, h4⟩ := hn
    rw [List.append_assoc, List.singleton_append, List.nodup_append, List.nodup_cons]
    refine ⟨h1, ⟨fun z => hx (List.mem_of_mem_drop z), h3⟩, fun a ha b hb => ?_⟩
    rcases List.mem_cons.mp hb with rfl | hb
    · exact fun e => hx (e ▸ List.mem_of_mem_take ha)
    · exact h4 a ha b (List.mem_cons_of_mem _ hb)
theorem ok_put {cs : List Col} {i : Nat} {c : Col} (hi : i < cs.length) (ok : SchOk cs) (g : colG c) (hc : c.1 = cs[i].1 ∨ c.1 ∉ nms cs) : SchOk (cs.take i ++ [c] ++ cs.drop (i + 1)) := by
  have hm : ∀ d, d ∈ cs.take i ++ [c] ++ cs.drop (i + 1) → d ∈ cs ∨ d = c := fun d hd => by
    rw [List.mem_append, List.mem_append] at hd
    rcases hd with (hd | hd) | hd
    · exact .inl (List.mem_of_mem_take hd)
    · simp at hd; exact .inr hd
    · exact .inl (List.mem_of_mem_drop hd)
  have hlen : (cs.take i ++ [c] ++ cs.drop (i + 1)).length = cs.length := by simp; omega
  refine ⟨by rw [hlen]; exact ok.pos, by rw [hlen]; exact ok.few, fun d hd => ?_, fun d hd => ?_, ?_⟩
  · rcases hm d hd with h | rfl
    · exact ok.nms d h
    · exact g.1
  · rcases hm d hd with h | rfl
    · exact ok.ord d h
    · exact g.2
  · rw [List.map_append, List.map_append, List.map_take, List.map_drop]
    exact nd_put (by simpa using hi) ok.nd (by rw [List.getElem_map]; exact hc)
theorem ok_rev {cs : List Col} (ok : SchOk cs) : SchOk cs.reverse := by
  refine ⟨by simpa using ok.pos, by simpa using ok.few, fun c hc => ok.nms c (by simpa using hc), fun c hc => ok.ord c (by simpa using hc), ?_⟩
  rw [List.map_reverse]
  exact (List.reverse_perm _).nodup_iff.mpr ok.nd
theorem ok_tail {cs : List Col} (ok : SchOk cs) (h : 1 < cs.length) : SchOk (cs.drop 1) := by
  refine ⟨by simp; omega, by have := ok.few; simp; omega, fun c hc => ok.nms c (List.mem_of_mem_drop hc), fun c hc => ok.ord c (List.mem_of_mem_drop hc), ?_⟩
  rw [List.map_drop]
  exact ok.nd.sublist (List.drop_sublist _ _)
theorem ok_two {cs : List Col} {c : Col} (ok : SchOk cs) (g : colG c) (hc : c.1 ∉ nms cs) : SchOk (cs.take 2 ++ [c]) := by
  have hm : ∀ d, d ∈ cs.take 2 ++ [c] → d ∈ cs ∨ d = c := fun d hd => by
    rw [List.mem_append] at hd
    rcases hd with hd | hd
    · exact .inl (List.mem_of_mem_take hd)
    · simp at hd; exact .inr hd
  refine ⟨by simp, by simp; omega, fun d hd => ?_, fun d hd => ?_, ?_⟩
  · rcases hm d hd with h | rfl
    · exact ok.nms d h
    · exact g.1
  · rcases hm d hd with h | rfl
    · exact ok.ord d h
    · exact g.2
  · rw [List.map_append, List.map_take, List.nodup_append]
    refine ⟨ok.nd.sublist (List.take_sublist _ _), by simp, fun a ha b hb => ?_⟩
    simp at hb
    subst hb
    exact fun e => hc (e ▸ List.mem_of_mem_take ha)
theorem cut_lv (xs : List D) (j : Int) (n : Nat) (hj : j = ((n : Nat) : Int)) (h : n ≤ xs.length) (S : Sto) : slD (.lv xs) none (some j) S = .ok (.lv (xs.take n)) S ∧ slD (.lv xs) (some j) none S = .ok (.lv (xs.drop n)) S := by
  subst hj
  exact ⟨by rw [sl_lvD, cut_to _ h], by rw [sl_lvD, cut_from _ h]⟩
theorem changed_u {cs : List Col} {Q : QD} {E : QX} (ok : SchOk cs) (h : ∀ ds, SchOk ds → Q (.lv (ds.map colT)) A) : callQ (prg w) (k + 4) "_law_changed" [.ref 0, .lv (cs.map colT)] A Q E := by
  refine call_of (F := f_law_changed) rfl rfl ?_
  show wSs _ _ b_law_changed [some (.ref 0), some (.lv (cs.map colT)), none, none, none, none, none, none, none] A _
  unfold b_law_changed
  have hf := ok.few
  have hp := ok.pos
  have l1 : ∀ S : Sto, bltD .len [.lv (cs.map colT)] S = .ok (.int ((cs.length : Nat) : Int)) S := fun S => by rw [len_lv, List.length_map]
  simp only [↓l1, ↓WP, ↓WP3, ↓WP4, ↓s_cons, WQ, WQ3, WQ4, clean, wipeD, Tg.slots, lim, Nat.reduceAdd, Nat.reduceLeDiff, HAS]
  refine draw_u (by omega) (by omega) fun r q0 q1 => ?_
  obtain ⟨i, rfl⟩ : ∃ i : Nat, r = i := ⟨r.toNat, by omega⟩
  have hi : i < cs.length := by omega
  have hix : ∀ S : Sto, ixD (.lv (cs.map colT)) (.int ((i : Nat) : Int)) S = .ok (colT cs[i]) S := ix_lv (atI_nat (by rw [List.getElem?_map, List.getElem?_eq_getElem hi]; rfl))
  have hstq : ∀ {c : Col} {σ : Sg} {K : Sg → Prop}, asgQ (.tp [5, 6, 7]) (colT c) σ K = K (((σ.set 5 (some (.str c.1))).set 6 (some (.int c.2.1))).set 7 (some (.int c.2.2))) := rfl
  simp only [↓WP, ↓WP3, ↓WP4, ↓s_cons, WQ, WQ3, WQ4, clean, wipeD, Tg.slots, lim, Nat.reduceAdd, Nat.reduceLeDiff, HAS, hix, hstq]
  refine wLc_map (f := colT) (g := fun c : Col => D.str c.1) (p := fun _ => true) (l := cs) rfl (by simp [lim]; omega) (fun c _ => ?_) ?_
  · simp only [↓WP, ↓WP3, ↓WP4, ↓s_cons, WQ, WQ3, WQ4, clean, wipeD, Tg.slots, lim, Nat.reduceAdd, Nat.reduceLeDiff, HAS, col0]
    first | exact fun K h => h | exact ⟨fun K h => h, fun K h => h⟩ | exact ⟨fun K h => h, fun _ K h => h⟩
  have e1 : (cs.filter fun _ => true).map (fun c : Col => D.str c.1) = sl (nms cs) := by rw [map_id]; simp [sl]
  rw [e1]
  try simp only [↓WP, ↓WP3, ↓WP4, ↓s_cons, WQ, WQ3, WQ4, clean, wipeD, Tg.slots, lim, Nat.reduceAdd, Nat.reduceLeDiff, HAS]
  refine name_g (k := k + 1) .lv (by simp; omega) fun t ht htn => ?_
  simp only [↓WP, ↓WP3, ↓WP4, ↓s_cons, WQ, WQ3, WQ4, clean, wipeD, Tg.slots, lim, Nat.reduceAdd, Nat.reduceLeDiff, HAS]
  refine draw_u (by decide) (by decide) fun y y0 y1 => ?_
  simp only [↓WP, ↓WP3, ↓WP4, ↓s_cons, WQ, WQ3, WQ4, clean, wipeD, Tg.slots, lim, Nat.reduceAdd, Nat.reduceLeDiff, HAS]
  obtain ⟨c, hc⟩ : ∃ c, cs[i] = c := ⟨_, rfl⟩
  have gc : colG c := hc ▸ ⟨ok.nms _ (List.getElem_mem hi), ok.ord _ (List.getElem_mem hi)⟩
  have nc : c.1 = cs[i].1 := by rw [hc]
  rw [hc]
  have ci : i + 1 ≤ (cs.map colT).length := by simp; omega
  have ct := fun S => (cut_lv (cs.map colT) ((i : Nat) : Int) i rfl (by simp; omega) S).1
  have cd := fun S => (cut_lv (cs.map colT) (((i : Nat) : Int) + 1) (i + 1) (by omega) ci S).2
  have put : ∀ d : Col, ∀ S : Sto, binD .add (.lv ((cs.map colT).take i)) (.lv [colT d]) S = .ok (.lv ((cs.map colT).take i ++ [colT d])) S := fun d => add_lv (by simp [lim]; omega)
  have put2 : ∀ d : Col, ∀ S : Sto, binD .add (.lv ((cs.map colT).take i ++ [colT d])) (.lv ((cs.map colT).drop (i + 1))) S = .ok (.lv ((cs.take i ++ [d] ++ cs.drop (i + 1)).map colT)) S := fun d S => by
    rw [add_lv (by simp [lim]; omega)]
    simp [List.map_append, List.map_take, List.map_drop]
  have isT : ∀ (x : Str) (a b : Int), D.tup [.str x, .int a, .int b] = colT (x, a, b) := fun _ _ _ => rfl
  have trkT : ∀ (d : Col) (A : Ob) (K : List D → Ob → Prop), trkQ [colT d] A K = K [colT d] A := fun d A K => by simp [trkQ, colT, isVw]
  have no : ∀ {a : Int}, y ≠ a → decide (y = a) = false := fun h => decide_eq_false h
  refine .dec (fun e0 => ?_) fun e0 => ?_
  · simp only [↓WP, ↓WP3, ↓WP4, ↓s_cons, WQ, WQ3, WQ4, clean, wipeD, Tg.slots, lim, Nat.reduceAdd, Nat.reduceLeDiff, HAS, ct, cd, isT, trkT, put, put2]
    first | exact h _ (ok_put hi ok (c := (t, c.2.1, c.2.2)) ⟨ht, gc.2⟩ (.inr htn)) | exact ⟨by simp [lim], h _ (ok_put hi ok (c := (t, c.2.1, c.2.2)) ⟨ht, gc.2⟩ (.inr htn))⟩
  · try simp only [↓WP, ↓WP3, ↓WP4, ↓s_cons, WQ, WQ3, WQ4, clean, wipeD, Tg.slots, lim, Nat.reduceAdd, Nat.reduceLeDiff, HAS]
    refine .dec (fun e1 => ?_) fun e1 => ?_
    · simp only [↓WP, ↓WP3, ↓WP4, ↓s_cons, WQ, WQ3, WQ4, clean, wipeD, Tg.slots, lim, Nat.reduceAdd, Nat.reduceLeDiff, HAS, ct, cd, isT, trkT, put, put2]
      exact h _ (ok_put hi ok (c := (c.1, c.2.1 - 1, c.2.2)) ⟨gc.1, by show c.2.1 - 1 ≤ c.2.2; have := gc.2; omega⟩ (.inl nc))
    · try simp only [↓WP, ↓WP3, ↓WP4, ↓s_cons, WQ, WQ3, WQ4, clean, wipeD, Tg.slots, lim, Nat.reduceAdd, Nat.reduceLeDiff, HAS]
      refine .dec (fun e2 => ?_) fun e2 => ?_
      · simp only [↓WP, ↓WP3, ↓WP4, ↓s_cons, WQ, WQ3, WQ4, clean, wipeD, Tg.slots, lim, Nat.reduceAdd, Nat.reduceLeDiff, HAS, ct, cd, isT, trkT, put, put2]
        exact h _ (ok_put hi ok (c := (c.1, c.2.1, c.2.2 + 1)) ⟨gc.1, by show c.2.1 ≤ c.2.2 + 1; have := gc.2; omega⟩ (.inl nc))
      · try simp only [↓WP, ↓WP3, ↓WP4, ↓s_cons, WQ, WQ3, WQ4, clean, wipeD, Tg.slots, lim, Nat.reduceAdd, Nat.reduceLeDiff, HAS]
        refine .dec (fun e3 => ?_) fun e3 => ?_
        · simp only [↓WP, ↓WP3, ↓WP4, ↓s_cons, WQ, WQ3, WQ4, clean, wipeD, Tg.slots, lim, Nat.reduceAdd, Nat.reduceLeDiff, HAS, rev_lv]
          rw [← List.map_reverse]
          exact h _ (ok_rev ok)
        · have fin : Q (.lv ((cs.take 2 ++ [(t, c.2.1, c.2.2)]).map colT)) A := h _ (ok_two ok ⟨ht, gc.2⟩ htn)
          have two : ∀ S : Sto, slD (.lv (cs.map colT)) none (some 2) S = .ok (.lv ((cs.map colT).take 2)) S := fun S => by
            rw [sl_lvD]
            unfold cutD
            have hz : HT.sIx (cs.map colT).length 0 none = 0 := rfl
            rw [hz]
            congr 2
            simp only [List.drop_zero, Nat.sub_zero]
            rcases cs with _ | ⟨a1, _ | ⟨a2, _ | ⟨a3, r⟩⟩⟩
            · rfl
            · rfl
            · rfl
            · rcases r with _ | ⟨a4, r⟩
              · rfl
              · simp at hf
          have put3 : ∀ d : Col, ∀ S : Sto, binD .add (.lv ((cs.map colT).take 2)) (.lv [colT d]) S = .ok (.lv ((cs.take 2 ++ [d]).map colT)) S := fun d S => by
            rw [add_lv (by simp [lim]; omega)]
            simp [List.map_append, List.map_take]
          by_cases e4 : y = 4
          · by_cases e5 : (1 : Int) < ((cs.length : Nat) : Int)
            · have d1 := fun S => (cut_lv (cs.map colT) 1 1 rfl (by simp; omega) S).2
              simp only [↓WP, ↓WP3, ↓WP4, ↓s_cons, WQ, WQ3, WQ4, clean, wipeD, Tg.slots, lim, Nat.reduceAdd, Nat.reduceLeDiff, HAS, decide_eq_true e4, List.length_map, decide_eq_true e5, d1]
              rw [← List.map_drop]
              exact h _ (ok_tail ok (by omega))
            · simp only [↓WP, ↓WP3, ↓WP4, ↓s_cons, WQ, WQ3, WQ4, clean, wipeD, Tg.slots, lim, Nat.reduceAdd, Nat.reduceLeDiff, HAS, decide_eq_true e4, List.length_map, decide_eq_false e5, two, isT, trkT, put3]
              exact fin
          · simp only [↓WP, ↓WP3, ↓WP4, ↓s_cons, WQ, WQ3, WQ4, clean, wipeD, Tg.slots, lim, Nat.reduceAdd, Nat.reduceLeDiff, HAS, decide_eq_false e4, two, isT, trkT, put3]
            exact fin
/-! ### columns that are refused -/
def bads : List Str := ["", "A", "0a", "_", "a-", "rule", "not", "abcdefghijklm", "aB", "a b"]
def fines : List Str := ["a", "a0", "a_", "rules", "no", "abcdefghijkl", "z9", "x__", "ruler", "b"]
theorem bad_ok : ∀ x, x ∈ bads → nmB x = false ∧ x.length ≤ 1000 ∧ x ∉ fines := by decide +kernel
theorem fine_ok : ∀ x, x ∈ fines → nmB x = true ∧ x.length ≤ 1000 := by decide +kernel
theorem pick {l : List Str} {r : Int} (h0 : 0 ≤ r) (h1 : r < l.length) : ∃ x, x ∈ l ∧ ∀ S : Sto, ixD (.lv (l.map D.str)) (.int r) S = .ok (.str x) S := by
  obtain ⟨i, rfl⟩ : ∃ i : Nat, r = i := ⟨r.toNat, by omega⟩
  have hi : i < l.length := by omega
  exact ⟨l[i], List.getElem_mem hi, ix_lv (atI_nat (by rw [List.getElem?_map, List.getElem?_eq_getElem hi]; rfl))⟩
theorem ok_due (g : Bool) (x : Str) (lo hi : Int) : okD (colDue g x lo hi) = true ∧ depD (colDue g x lo hi) ≤ 3 := by
  unfold colDue
  split
  · simp [okD, okDs, depD, depDs, lim]
  · split <;> simp [okD, okDs, depD, depDs, lim]
def ptD (p : Int × Int) : D := .tup [.int p.1, .int p.2]
theorem pt0 (p : Int × Int) (S : Sto) : ixD (ptD p) (.int 0) S = .ok (.int p.1) S := (rfl)
theorem pt1 (p : Int × Int) (S : Sto) : ixD (ptD p) (.int 1) S = .ok (.int p.2) S := (rfl)
theorem due_asg {g : Bool} {x : Str} {lo hi : Int} {tg : Tg} {σ : Sg} {K : Sg → Prop} : asgQ tg (colDue g x lo hi) σ K = stQ tg (colDue g x lo hi) σ K := by
  unfold colDue
  split
  · rfl
  · split <;> rfl
theorem due_stab {g : Bool} {x : Str} {lo hi : Int} : stab (colDue g x lo hi) = colDue g x lo hi := by
  unfold colDue
  split
  · rfl
  · split <;> rfl
theorem refused_u {lo hi : Int} {Q : QD} {E : QX} (h : ∀ A', Q (.bl true) A') : callQ (prg w) (k + 7) "_law_columns_refused" [.ref 0, .int lo, .int hi] A Q E := by
  refine call_of (F := f_law_columns_refused) rfl rfl ?_
  show wSs _ _ b_law_columns_refused [some (.ref 0), some (.int lo), some (.int hi), none, none, none, none, none] A _
  unfold b_law_columns_refused
  have hb : [D.str "", .str "A", .str "0a", .str "_", .str "a-", .str "rule", .str "not", .str "abcdefghijklm", .str "aB", .str "a b"] = bads.map D.str := rfl
  have hf : [D.str "a", .str "a0", .str "a_", .str "rules", .str "no", .str "abcdefghijkl", .str "z9", .str "x__", .str "ruler", .str "b"] = fines.map D.str := rfl
  have lb : (bads.map D.str).length ≤ 100000 := by decide
  have lf : (fines.map D.str).length ≤ 100000 := by decide
  simp only [↓WP, ↓WP3, ↓WP4, ↓s_cons, WQ, WQ3, WQ4, clean, wipeD, Tg.slots, lim, Nat.reduceAdd, Nat.reduceLeDiff, HAS, hb, lb]
  refine draw_u (k := k + 5) (by decide) (by decide) fun r1 q0 q1 => ?_
  obtain ⟨bad, hbad, ib⟩ := pick (l := bads) q0 (by simpa [bads] using q1)
  simp only [↓WP, ↓WP3, ↓WP4, ↓s_cons, WQ, WQ3, WQ4, clean, wipeD, Tg.slots, lim, Nat.reduceAdd, Nat.reduceLeDiff, HAS, hf, lf, ib]
  refine draw_u (k := k + 5) (by decide) (by decide) fun r2 q2 q3 => ?_
  obtain ⟨fine, hfine, ifn⟩ := pick (l := fines) q2 (by simpa [fines] using q3)
  obtain ⟨b1, b2, b3⟩ := bad_ok bad hbad
  obtain ⟨f1, f2⟩ := fine_ok fine hfine
  have all : ∀ x, x ∈ [bad, fine] → nmB x = decide (x = fine) ∧ x.length ≤ 1000 := by
    intro x hx
    rcases List.mem_cons.mp hx with rfl | hx
    · have ne : x ≠ fine := fun e => b3 (by rw [e]; exact hfine)
      exact ⟨by rw [b1, decide_eq_false ne], b2⟩
    · simp at hx
      subst hx
      exact ⟨by rw [f1, decide_eq_true rfl], f2⟩
  simp only [↓WP, ↓WP3, ↓WP4, ↓s_cons, WQ, WQ3, WQ4, clean, wipeD, Tg.slots, lim, Nat.reduceAdd, Nat.reduceLeDiff, HAS, ifn]
  refine ⟨rfl, wFor_of (fun xs σ A' => ∃ (rest : List Str) (x5 x6 x7 : Option D), xs = rest.map D.str ∧ (∀ x, x ∈ rest → x ∈ [bad, fine]) ∧ σ = [some (.ref 0), some (.int lo), some (.int hi), some (.str bad), some (.str fine), x5, x6, x7]) ?_ ?_ ?_ [.str bad, .str fine] _ A ⟨[bad, fine], none, none, none, rfl, fun _ h => h, rfl⟩⟩
  · rintro xs σ A' _
    rfl
  · rintro σ A' ⟨rest, x5, x6, x7, e, _, rfl⟩
    cases rest with
    | cons _ _ => cases e
    | nil =>
      simp only [↓WP, ↓WP3, ↓WP4, ↓s_cons, WQ, WQ3, WQ4, clean, wipeD, Tg.slots, lim, Nat.reduceAdd, Nat.reduceLeDiff, HAS]
      exact h A'
  · rintro y xs σ A' ⟨rest, x5, x6, x7, e, hm, rfl⟩ K hK _ _ _ _
    cases rest with
    | nil => cases e
    | cons x rest =>
      cases e
      obtain ⟨a1, a2⟩ := all x (hm x List.mem_cons_self)
      simp only [↓WP, ↓WP3, ↓WP4, ↓s_cons, WQ, WQ3, WQ4, clean, wipeD, Tg.slots, lim, Nat.reduceAdd, Nat.reduceLeDiff, HAS]
      refine ⟨rfl, wFor_of (fun xs σ A' => ∃ (ps : List (Int × Int)) (x6 x7 : Option D), xs = ps.map ptD ∧ σ = [some (.ref 0), some (.int lo), some (.int hi), some (.str bad), some (.str fine), some (.str x), x6, x7]) ?_ ?_ ?_ [ptD (lo, hi), ptD (hi + 1, lo), ptD (lo, lo), ptD (hi, hi - 1)] _ A' ⟨[(lo, hi), (hi + 1, lo), (lo, lo), (hi, hi - 1)], _, _, rfl, rfl⟩⟩
      · rintro xs σ A2 _
        rfl
      · rintro σ A2 ⟨ps, x6, x7, e, rfl⟩
        exact hK _ _ ⟨rest, _, _, _, rfl, fun z hz => hm z (List.mem_cons_of_mem _ hz), rfl⟩
      · rintro y xs σ A2 ⟨ps, x6, x7, e, rfl⟩ K2 hK2 _ _ _ _
        cases ps with
        | nil => cases e
        | cons p ps =>
          cases e
          have ap : ∀ {σ : Sg} {K : Sg → Prop}, stQ (.nm 6) (ptD p) σ K = K (σ.set 6 (some (ptD p))) := rfl
          simp only [↓WP, ↓WP3, ↓WP4, ↓s_cons, WQ, WQ3, WQ4, clean, wipeD, Tg.slots, lim, Nat.reduceAdd, Nat.reduceLeDiff, HAS, ap, pt0, pt1]
          refine ldue_u (k := k + 5) ?_
          simp only [↓WP, ↓WP3, ↓WP4, ↓s_cons, WQ, WQ3, WQ4, clean, wipeD, Tg.slots, lim, Nat.reduceAdd, Nat.reduceLeDiff, HAS, due_asg, pt0, pt1]
          refine lcol_u (k := k) a2 fun A3 _ => ?_
          rw [a1]
          have od := ok_due (decide (x = fine)) x p.1 p.2
          simp only [↓WP, ↓WP3, ↓WP4, ↓s_cons, WQ, WQ3, WQ4, clean, wipeD, Tg.slots, lim, Nat.reduceAdd, Nat.reduceLeDiff, HAS, due_stab]
          refine same_u (k := k + 3) 3 od.2 od.1 ?_
          simp only [↓WP, ↓WP3, ↓WP4, ↓s_cons, WQ, WQ3, WQ4, clean, wipeD, Tg.slots, lim, Nat.reduceAdd, Nat.reduceLeDiff, HAS, Bool.not_true]
          exact hK2 _ _ ⟨ps, _, _, rfl, rfl⟩
end Pr

namespace Pr
open PySem L2 Ev
variable {w k : Nat} {A : Ob}
theorem cut_any (xs : List D) (n : Nat) : cutD xs none (some ((n : Nat) : Int)) = xs.take n := by
  by_cases h : n ≤ xs.length
  · exact cut_to xs h
  · have h1 : HT.sIx xs.length xs.length (some ((n : Nat) : Int)) = xs.length := by
      have hz : ¬ ((n : Nat) : Int) < 0 := by omega
      unfold HT.sIx
      simp only [hz, if_false]
      simp
      omega
    have h0 : HT.sIx xs.length 0 none = 0 := rfl
    unfold cutD
    rw [h1, h0]
    simp only [List.drop_zero, Nat.sub_zero]
    rw [List.take_of_length_le (Nat.le_refl _), List.take_of_length_le (by omega)]
theorem cut3 (xs : List D) : cutD xs none (some 3) = xs.take 3 := cut_any xs 3
theorem cut2 (xs : List D) : cutD xs none (some 2) = xs.take 2 := cut_any xs 2
theorem cut4 (xs : List D) : cutD xs none (some 4) = xs.take 4 := cut_any xs 4
theorem same_let {n : Nat} {l : List Str} {Q : QD} {E : QX} (h : A.lookup n = some (.lst (sl l))) (hl : l.length ≤ 1000) (q : Q (.bl true) A) : callQ (prg w) (k + 4) "_law_same" [.lv [.lv [.str "let"], .ref n], .lv [.lv [.str "let"], .lv (sl l)]] A Q E := by
  refine same_seq (.inl rfl) (.of_lq .lv) (.of_lq .lv) rfl rfl rfl (by simp [lim]) (fun i h1 h2 Q E q => ?_) (fun x hx => ?_) (fun x hx => ?_) q
  · rcases i with _ | _ | i
    · exact same_u (k := k + 1) 2 (by simp [depD, depDs]) (by simp [okD, okDs, lim]) q
    · exact same_lq (k := k + 1) (n := 1) (.ref h) (okDs_sl _).2 (by simp only [okD, Bool.and_eq_true, decide_eq_true_eq, sl_len]; exact ⟨by simp [lim]; omega, (okDs_sl _).1⟩) q
    · simp at h2
      omega
  · simp at hx
    rcases hx with rfl | rfl <;> rfl
  · simp at hx
    rcases hx with rfl | rfl <;> rfl
theorem ok_made (cs : List Col) (h : cs.length ≤ 5) : okD (madeDue cs) = true ∧ depD (madeDue cs) ≤ 3 := by
  have s := okDs_sl (nms cs)
  have hs : (sl (nms cs)).length ≤ lim := by rw [sl_len]; simp [lim]; omega
  unfold madeDue
  split
  · split
    · simp [okD, okDs, depD, depDs, lim]
    · simp only [okD, okDs, depD, depDs, s.1, decide_eq_true hs, Bool.and_true, Bool.true_and]
      have := s.2
      refine ⟨by simp [lim], by omega⟩
  · simp [okD, okDs, depD, depDs, lim]
theorem made_stab {cs : List Col} : stab (madeDue cs) = madeDue cs := by
  unfold madeDue
  split
  · split <;> rfl
  · rfl
/-- one list of columns: made, and what is due -/
theorem turn_u {x : D} {cs : List Col} {F : QF} {σ : Sg} (hv : σ[4]? = some (some x)) (hd : Lq A x (cs.map colT)) (hl : cs.length ≤ 5) (hg : ∀ c, c ∈ cs → colG c) (h : ∀ A', Kp A A' → F (.nx σ) A') :
    wSs (prg w) (k + 6) (.cons (.ifs (.not (.call "_law_same" "_law_same" (.cons (.call "_law_made_of" "_law_made_of" (.cons (.var 4) .nil)) (.cons (.call "_law_made_due" "_law_made_due" (.cons (.var 4) .nil)) .nil))))
      (.cons (.ret (.cbl false))
      .nil)
      .nil)
    .nil) σ A F := by
  have md := ok_made cs hl
  try simp only [hv, ↓WP, ↓WP3, ↓WP4, ↓s_one, WQ, WQ3, WQ4, clean, wipeD, Tg.slots, lim, Nat.reduceAdd, Nat.reduceLeDiff, HAS, hd.st]
  refine madeof_u (k := k) hd hl hg (fun a b c n hn hna => ?_) fun a A' kp => ?_
  · have hd' : Lq ((n, .lst (sl (nms cs))) :: A) x (cs.map colT) := hd.kp (.cons hna)
    have e : madeDue cs = .lv [.lv [.str "let"], .lv (sl (nms cs))] := by
      unfold madeDue
      rw [if_pos ⟨a, b⟩, c]
    try simp only [hv, ↓WP, ↓WP3, ↓WP4, ↓s_one, WQ, WQ3, WQ4, clean, wipeD, Tg.slots, lim, Nat.reduceAdd, Nat.reduceLeDiff, HAS, hd.st]
    refine mdue_u (k := k + 5) hd' hl ?_
    rw [e]
    try simp only [↓WP, ↓WP3, ↓WP4, ↓s_one, WQ, WQ3, WQ4, clean, wipeD, Tg.slots, lim, Nat.reduceAdd, Nat.reduceLeDiff, HAS]
    refine same_let (k := k + 2) (by simp) (by simp; omega) ?_
    simp only [↓WP, ↓WP3, ↓WP4, ↓s_one, WQ, WQ3, WQ4, clean, wipeD, Tg.slots, lim, Nat.reduceAdd, Nat.reduceLeDiff, HAS, Bool.not_true]
    exact h _ (.cons hna)
  · try simp only [hv, ↓WP, ↓WP3, ↓WP4, ↓s_one, WQ, WQ3, WQ4, clean, wipeD, Tg.slots, lim, Nat.reduceAdd, Nat.reduceLeDiff, HAS, hd.st]
    refine mdue_u (k := k + 5) (hd.kp kp) hl ?_
    simp only [↓WP, ↓WP3, ↓WP4, ↓s_one, WQ, WQ3, WQ4, clean, wipeD, Tg.slots, lim, Nat.reduceAdd, Nat.reduceLeDiff, HAS, made_stab]
    refine same_u (k := k + 3) 3 md.2 md.1 ?_
    simp only [↓WP, ↓WP3, ↓WP4, ↓s_one, WQ, WQ3, WQ4, clean, wipeD, Tg.slots, lim, Nat.reduceAdd, Nat.reduceLeDiff, HAS, Bool.not_true]
    exact h _ kp
theorem pos_no {x : Str} : ∀ {l : List Str} {i : Nat}, x ∉ l → posOf x l i = none
  | [], _, _ => rfl
  | y :: r, i, h => by
    rw [List.mem_cons, not_or] at h
    rw [pos_c, if_neg (fun e => h.1 e.symm), pos_no h.2]
def unkD (x : Str) : D := .lv [.lv [.str "ValueError", .str "TellError", .str "NameFault", .str "UnknownName"], .str x]
theorem place_no {cs : List Col} {x : Str} (h : x ∉ nms cs) : placeD cs x = unkD x := by
  unfold placeD
  rw [pos_no h]
  rfl
theorem nm_len {x : Str} (h : nmOk x) : x.length ≤ 1000 := by
  obtain ⟨⟨_, _, _, _, _, hl⟩, _⟩ := h
  omega
theorem no_name {cs : List Col} (ok : SchOk cs) {x : Str} (h : ¬ nmOk x) : x ∉ nms cs := fun z => by
  obtain ⟨c, hc, rfl⟩ := List.mem_map.mp z
  exact h (ok.nms c hc)
theorem law_run {ns : List Int} (hn : ns.length ≤ 63) : ∃ S', callN (prg w) (k + 10) "law" "law" [.fl (ns.map .int)] [] = .ok (.bl true) S' := by
  refine law_top (k := k + 9) (m := 12) (F := f_law) (ss := match b_law with | .cons _ t => t | _ => .nil) rfl rfl rfl rfl rfl rfl (box_run hn) ?_
  show wSs _ _ (match b_law with | .cons _ t => t | _ => .nil) [none, some (.ref 0), none, none, none, none, none, none, none, none, none, none, none, none] [] _
  simp only [b_law]
  rw [s_cons]
  try simp only [↓WP, ↓WP3, ↓WP4, ↓s_one, WQ, WQ3, WQ4, clean, wipeD, Tg.slots, lim, Nat.reduceAdd, Nat.reduceLeDiff, HAS]
  refine columnsM_u (k := k + 5) (m := 5) (by decide) (by decide) fun cs h1 h2 h3 h4 => ?_
  have hl5 : cs.length ≤ 5 := by omega
  have cg : ∀ c, c ∈ cs → colG c := fun c hc => ⟨(h3 c hc).1, (h3 c hc).2.1⟩
  have asgL : ∀ {tg : Tg} {σ : Sg} {cs : List Col} {Q : Sg → Prop}, asgQ tg (.lv (cs.map colT)) σ Q = stQ tg (.lv (cs.map colT)) σ Q := rfl
  try simp only [↓WP, ↓WP3, ↓WP4, ↓s_one, WQ, WQ3, WQ4, clean, wipeD, Tg.slots, lim, Nat.reduceAdd, Nat.reduceLeDiff, HAS]
  rw [s_cons]
  have hlist : ∀ S : Sto, bltD .list [.lv (cs.map colT)] S = .ok (.lv (cs.map colT)) S := fun S => rfl
  simp only [↓hlist, ↓WP, ↓WP3, ↓WP4, ↓s_one, WQ, WQ3, WQ4, clean, wipeD, Tg.slots, lim, Nat.reduceAdd, Nat.reduceLeDiff, HAS]
  intro n0 hn0 _
  try simp only [↓WP, ↓WP3, ↓WP4, ↓s_one, WQ, WQ3, WQ4, clean, wipeD, Tg.slots, lim, Nat.reduceAdd, Nat.reduceLeDiff, HAS]
  refine s_cut (fun σ' A' => ∃ (tw : List Col) (x11 : Option D), σ' = [none, some (.ref 0), some (.lv (cs.map colT)), some (.ref n0), none, none, none, none, none, none, none, x11, none, none] ∧ A' = [(n0, .lst (tw.map colT))] ∧ tw.length = cs.length ∧ ∀ c, c ∈ tw → colG c) (fun K hK => ?_) ?_
  · have l1 : ∀ S : Sto, bltD .len [.lv (cs.map colT)] S = .ok (.int ((cs.length : Nat) : Int)) S := fun S => by rw [len_lv, List.length_map]
    simp only [↓l1, ↓WP, ↓WP3, ↓WP4, ↓s_one, WQ, WQ3, WQ4, clean, wipeD, Tg.slots, lim, Nat.reduceAdd, Nat.reduceLeDiff, HAS]
    refine .dec (fun g1 => ?_) fun g1 => ?_
    · try simp only [↓WP, ↓WP3, ↓WP4, ↓s_one, WQ, WQ3, WQ4, clean, wipeD, Tg.slots, lim, Nat.reduceAdd, Nat.reduceLeDiff, HAS]
      refine draw_u (k := k + 8) (by decide) (by decide) fun r r0 r1 => ?_
      try simp only [↓WP, ↓WP3, ↓WP4, ↓s_one, WQ, WQ3, WQ4, clean, wipeD, Tg.slots, lim, Nat.reduceAdd, Nat.reduceLeDiff, HAS]
      refine .dec (fun g2 => ?_) fun g2 => ?_
      · try simp only [↓WP, ↓WP3, ↓WP4, ↓s_one, WQ, WQ3, WQ4, clean, wipeD, Tg.slots, lim, Nat.reduceAdd, Nat.reduceLeDiff, HAS]
        rw [s_cons]
        simp only [↓l1, ↓WP, ↓WP3, ↓WP4, ↓s_one, WQ, WQ3, WQ4, clean, wipeD, Tg.slots, lim, Nat.reduceAdd, Nat.reduceLeDiff, HAS]
        refine draw_u (k := k + 8) (by omega) (by omega) fun a a0 a1 => ?_
        obtain ⟨i, hi⟩ : ∃ i : Nat, 1 + a = ((i : Nat) : Int) := ⟨(1 + a).toNat, by omega⟩
        have hil : i < cs.length := by omega
        have hix : ∀ S : Sto, ixD (.lv (cs.map colT)) (.int ((i : Nat) : Int)) S = .ok (colT cs[i]) S := ix_lv (atI_nat (by rw [List.getElem?_map, List.getElem?_eq_getElem hil]; rfl))
        simp only [↓WP, ↓WP3, ↓WP4, ↓s_one, WQ, WQ3, WQ4, clean, wipeD, Tg.slots, lim, Nat.reduceAdd, Nat.reduceLeDiff, HAS, hi]
        refine draw_u (k := k + 8) (by omega) (by omega) fun b b0 b1 => ?_
        obtain ⟨j, rfl⟩ : ∃ j : Nat, b = ((j : Nat) : Int) := ⟨b.toNat, by omega⟩
        have hjl : j < cs.length := by omega
        have hjx : ∀ S : Sto, ixD (.lv (cs.map colT)) (.int ((j : Nat) : Int)) S = .ok (colT cs[j]) S := ix_lv (atI_nat (by rw [List.getElem?_map, List.getElem?_eq_getElem hjl]; rfl))
        simp only [↓WP, ↓WP3, ↓WP4, ↓s_one, WQ, WQ3, WQ4, clean, wipeD, Tg.slots, lim, Nat.reduceAdd, Nat.reduceLeDiff, HAS, hix, hjx, col0, col1, col2]
        have hxn : ixN (cs.map colT).length ((i : Nat) : Int) = some i := by
          rw [List.length_map]
          unfold ixN
          simp
          omega
        have hset : (cs.map colT).set i (.tup [.str cs[j].1, .int cs[i].2.1, .int cs[i].2.2]) = (cs.set i (cs[j].1, cs[i].2.1, cs[i].2.2)).map colT := by
          rw [List.map_set]
          rfl
        simp only [setQ, refQ, ixQ, List.lookup_cons, beq_self_eq_true, hxn, putA, List.map_cons, List.map_nil, if_true, hset, List.getElem?_cons_succ, List.getElem?_cons_zero, ↓WP, ↓WP3, ↓WP4, ↓s_one, WQ, WQ3, WQ4, clean, wipeD, Tg.slots, lim, Nat.reduceAdd, Nat.reduceLeDiff, HAS]
        have fin := hK [none, some (.ref 0), some (.lv (cs.map colT)), some (.ref n0), none, none, none, none, none, none, none, some (.int ((i : Nat) : Int)), none, none] [(n0, .lst ((cs.set i (cs[j].1, cs[i].2.1, cs[i].2.2)).map colT))] ⟨_, _, rfl, rfl, by simp, fun c hc => ?_⟩
        · first | exact fin | exact ⟨rfl, fin⟩
        · rcases List.mem_or_eq_of_mem_set hc with hc | rfl
          · exact cg c hc
          · exact ⟨(cg _ (List.getElem_mem hjl)).1, (cg _ (List.getElem_mem hil)).2⟩
      · try simp only [↓WP, ↓WP3, ↓WP4, ↓s_one, WQ, WQ3, WQ4, clean, wipeD, Tg.slots, lim, Nat.reduceAdd, Nat.reduceLeDiff, HAS]
        exact hK _ _ ⟨cs, _, rfl, rfl, rfl, cg⟩
    · try simp only [↓WP, ↓WP3, ↓WP4, ↓s_one, WQ, WQ3, WQ4, clean, wipeD, Tg.slots, lim, Nat.reduceAdd, Nat.reduceLeDiff, HAS]
      exact hK _ _ ⟨cs, _, rfl, rfl, rfl, cg⟩
  rintro σ0 A0 ⟨tw, x11, rfl, rfl, htl, htg⟩
  rw [s_cons]
  have lqt : Lq [(n0, O.lst (tw.map colT))] (.ref n0) (tw.map colT) := .ref (by simp)
  have sl3 := lqt.sl none (some 3)
  have sl2 := lqt.sl none (some 2)
  have m3 : ∀ l : List Col, cutD (l.map colT) none (some 3) = (l.take 3).map colT := fun l => by rw [cut3, List.map_take]
  have m2 : ∀ l : List Col, cutD (l.map colT) none (some 2) = (l.take 2).map colT := fun l => by rw [cut2, List.map_take]
  have m4 : ∀ l : List Col, cutD (l.map colT) none (some 4) = (l.take 4).map colT := fun l => by rw [cut4, List.map_take]
  simp only [↓WP, ↓WP3, ↓WP4, ↓s_one, WQ, WQ3, WQ4, clean, wipeD, Tg.slots, lim, Nat.reduceAdd, Nat.reduceLeDiff, HAS, sl3, sl2, sl_lvD, m3, m2, m4]
  have good : ∀ p, p ∈ ([(.ref n0, tw), (.lv ((tw.take 3).map colT), tw.take 3), (.lv ((tw.take 2).map colT), tw.take 2), (.lv [], []), (.lv (cs.map colT), cs), (.lv ((cs.take 4).map colT), cs.take 4), (.lv ((cs.take 3).map colT), cs.take 3)] : List (D × List Col)) →
      (∀ A' : Ob, A'.lookup n0 = some (.lst (tw.map colT)) → Lq A' p.1 (p.2.map colT)) ∧ p.2.length ≤ 5 ∧ ∀ c, c ∈ p.2 → colG c := by
    intro p hp
    simp only [List.mem_cons, List.not_mem_nil, or_false] at hp
    rcases hp with rfl | rfl | rfl | rfl | rfl | rfl | rfl
    · exact ⟨fun A' h => .ref h, by show tw.length ≤ 5; omega, htg⟩
    · exact ⟨fun A' h => .lv, by simp; omega, fun c hc => htg c (List.mem_of_mem_take hc)⟩
    · exact ⟨fun A' h => .lv, by simp; omega, fun c hc => htg c (List.mem_of_mem_take hc)⟩
    · exact ⟨fun A' h => .lv, by simp, by simp⟩
    · exact ⟨fun A' h => .lv, hl5, cg⟩
    · exact ⟨fun A' h => .lv, by simp; omega, fun c hc => cg c (List.mem_of_mem_take hc)⟩
    · exact ⟨fun A' h => .lv, by simp; omega, fun c hc => cg c (List.mem_of_mem_take hc)⟩
  refine ⟨rfl, wFor_of (fun xs σ A' => ∃ (rest : List (D × List Col)) (x4 : Option D), xs = rest.map (·.1) ∧ (∀ p, p ∈ rest → (∀ A' : Ob, A'.lookup n0 = some (.lst (tw.map colT)) → Lq A' p.1 (p.2.map colT)) ∧ p.2.length ≤ 5 ∧ ∀ c, c ∈ p.2 → colG c) ∧
    σ = [none, some (.ref 0), some (.lv (cs.map colT)), some (.ref n0), x4, none, none, none, none, none, none, x11, none, none] ∧ A'.lookup n0 = some (.lst (tw.map colT))) ?_ ?_ ?_ _ _ _ ⟨[(.ref n0, tw), (.lv ((tw.take 3).map colT), tw.take 3), (.lv ((tw.take 2).map colT), tw.take 2), (.lv [], []), (.lv (cs.map colT), cs), (.lv ((cs.take 4).map colT), cs.take 4), (.lv ((cs.take 3).map colT), cs.take 3)], none, rfl, good, rfl, by simp⟩⟩
  · rintro xs σ A' _
    rfl
  · rintro σ A' ⟨rest, x4, _, _, rfl, _⟩
    rw [seq_nx]
    have ok3 : SchOk (cs.take 3) := by
      refine ⟨by simp; omega, by simp; omega, fun c hc => (cg c (List.mem_of_mem_take hc)).1, fun c hc => (cg c (List.mem_of_mem_take hc)).2, ?_⟩
      rw [List.map_take]
      exact h4.sublist (List.take_sublist _ _)
    rw [s_cons]
    simp only [↓WP, ↓WP3, ↓WP4, ↓s_one, WQ, WQ3, WQ4, clean, wipeD, Tg.slots, lim, Nat.reduceAdd, Nat.reduceLeDiff, HAS, sl_lvD, m3, asgL]
    generalize hcs3 : cs.take 3 = c3 at ok3 ⊢
    rw [s_cons]
    try simp only [↓WP, ↓WP3, ↓WP4, ↓s_one, WQ, WQ3, WQ4, clean, wipeD, Tg.slots, lim, Nat.reduceAdd, Nat.reduceLeDiff, HAS]
    refine lschema_u (k := k + 4) ok3 ?_
    simp only [↓WP, ↓WP3, ↓WP4, ↓s_one, WQ, WQ3, WQ4, clean, wipeD, Tg.slots, lim, Nat.reduceAdd, Nat.reduceLeDiff, HAS, asg_sch]
    rw [s_cons]
    try simp only [↓WP, ↓WP3, ↓WP4, ↓s_one, WQ, WQ3, WQ4, clean, wipeD, Tg.slots, lim, Nat.reduceAdd, Nat.reduceLeDiff, HAS]
    refine changed_u (k := k + 5) ok3 fun ds okd => ?_
    simp only [↓WP, ↓WP3, ↓WP4, ↓s_one, WQ, WQ3, WQ4, clean, wipeD, Tg.slots, lim, Nat.reduceAdd, Nat.reduceLeDiff, HAS, asgL]
    rw [s_cons]
    try simp only [↓WP, ↓WP3, ↓WP4, ↓s_one, WQ, WQ3, WQ4, clean, wipeD, Tg.slots, lim, Nat.reduceAdd, Nat.reduceLeDiff, HAS]
    refine lschema_u (k := k + 4) okd ?_
    simp only [↓WP, ↓WP3, ↓WP4, ↓s_one, WQ, WQ3, WQ4, clean, wipeD, Tg.slots, lim, Nat.reduceAdd, Nat.reduceLeDiff, HAS, asg_sch]
    rw [s_cons]
    simp only [↓WP, ↓WP3, ↓WP4, ↓s_one, WQ, WQ3, WQ4, clean, wipeD, Tg.slots, lim, Nat.reduceAdd, Nat.reduceLeDiff, HAS, stab_sch]
    refine kept_u (k := k + 3) ok3 ?_
    simp only [↓WP, ↓WP3, ↓WP4, ↓s_one, WQ, WQ3, WQ4, clean, wipeD, Tg.slots, lim, Nat.reduceAdd, Nat.reduceLeDiff, HAS, Bool.not_true, stab_sch]
    refine kept_u (k := k + 3) okd ?_
    simp only [↓WP, ↓WP3, ↓WP4, ↓s_one, WQ, WQ3, WQ4, clean, wipeD, Tg.slots, lim, Nat.reduceAdd, Nat.reduceLeDiff, HAS, Bool.not_true]
    refine same_u (k := k + 8) 1 (by simp [depD]) (by simp [okD]) ?_
    simp only [↓WP, ↓WP3, ↓WP4, ↓s_one, WQ, WQ3, WQ4, clean, wipeD, Tg.slots, lim, Nat.reduceAdd, Nat.reduceLeDiff, HAS, Bool.not_true]
    rw [s_cons]
    simp only [↓WP, ↓WP3, ↓WP4, ↓s_one, WQ, WQ3, WQ4, clean, wipeD, Tg.slots, lim, Nat.reduceAdd, Nat.reduceLeDiff, HAS, key_names]
    have f3 := ok3.few
    have fd := okd.few
    refine names_p (k := k + 7) (by omega) ?_
    try simp only [↓WP, ↓WP3, ↓WP4, ↓s_one, WQ, WQ3, WQ4, clean, wipeD, Tg.slots, lim, Nat.reduceAdd, Nat.reduceLeDiff, HAS]
    rw [s_cons]
    have happ : appF (sl (nms c3)) [.str "more"] = some (.non, sl (nms c3) ++ [.str "more"]) := by
      unfold appF
      have : (sl (nms c3)).length < lim := by rw [sl_len]; simp [lim]; omega
      simp only [this, if_true]
    simp only [↓WP, ↓WP3, ↓WP4, ↓s_one, WQ, WQ3, WQ4, clean, wipeD, Tg.slots, lim, Nat.reduceAdd, Nat.reduceLeDiff, HAS, mthQ, Mth.run, happ]
    rw [s_cons]
    have hadd : ∀ S : Sto, binD .add (.lv (c3.map colT)) (.lv (ds.map colT)) S = .ok (.lv ((c3 ++ ds).map colT)) S := fun S => by
      rw [add_lv (by simp [lim]; omega), List.map_append]
    simp only [↓WP, ↓WP3, ↓WP4, ↓s_one, WQ, WQ3, WQ4, clean, wipeD, Tg.slots, lim, Nat.reduceAdd, Nat.reduceLeDiff, HAS, hadd]
    refine wLc_map (f := colT) (g := fun c : Col => D.str c.1) (p := fun _ => true) (l := c3 ++ ds) rfl (by simp [lim]; omega) (fun c _ => ?_) ?_
    · simp only [↓WP, ↓WP3, ↓WP4, ↓s_one, WQ, WQ3, WQ4, clean, wipeD, Tg.slots, lim, Nat.reduceAdd, Nat.reduceLeDiff, HAS, col0]
      first | exact fun K h => h | exact ⟨fun K h => h, fun K h => h⟩ | exact ⟨fun K h => h, fun _ K h => h⟩
    have e1 : ((c3 ++ ds).filter fun _ => true).map (fun c : Col => D.str c.1) = sl (nms (c3 ++ ds)) := by rw [map_id]; simp only [sl, nms, List.map_map]; rfl
    rw [e1]
    try simp only [↓WP, ↓WP3, ↓WP4, ↓s_one, WQ, WQ3, WQ4, clean, wipeD, Tg.slots, lim, Nat.reduceAdd, Nat.reduceLeDiff, HAS]
    refine name_g (k := k + 7) .lv (by simp; omega) fun t ht htn => ?_
    rw [show nms (c3 ++ ds) = nms c3 ++ nms ds from List.map_append .., List.mem_append, not_or] at htn
    try simp only [↓WP, ↓WP3, ↓WP4, ↓s_one, WQ, WQ3, WQ4, clean, wipeD, Tg.slots, lim, Nat.reduceAdd, Nat.reduceLeDiff, HAS]
    rw [s_cons]
    try simp only [↓WP, ↓WP3, ↓WP4, ↓s_one, WQ, WQ3, WQ4, clean, wipeD, Tg.slots, lim, Nat.reduceAdd, Nat.reduceLeDiff, HAS]
    have strange : ∀ x, x ∈ ([t, "", "rule"] : List Str) → x ∉ nms c3 ∧ x ∉ nms ds ∧ x.length ≤ 1000 := by
      intro x hx
      have ne : ¬ nmOk "" := fun h => absurd (nmOk_B h) (by decide +kernel)
      have nr : ¬ nmOk "rule" := fun h => absurd (nmOk_B h) (by decide +kernel)
      simp only [List.mem_cons, List.not_mem_nil, or_false] at hx
      rcases hx with rfl | rfl | rfl
      · exact ⟨htn.1, htn.2, nm_len ht⟩
      · exact ⟨no_name ok3 ne, no_name okd ne, by decide +kernel⟩
      · exact ⟨no_name ok3 nr, no_name okd nr, by decide +kernel⟩
    refine ⟨rfl, wFor_of (fun xs σ A2 => A2 = A' ∧ ∃ (rest : List Str) (x10 x12 : Option D), xs = rest.map D.str ∧ (∀ x, x ∈ rest → x ∈ ([t, "", "rule"] : List Str)) ∧
      σ = [none, some (.ref 0), some (.lv (c3.map colT)), some (.ref n0), x4, some (schO c3), some (.lv (ds.map colT)), some (schO ds), some (.vw 1 (sl (nms c3) ++ [.str "more"])), some (.str t), x10, x11, x12, none]) ?_ ?_ ?_ _ _ _ ⟨rfl, [t, "", "rule"], _, _, rfl, fun _ h => h, rfl⟩⟩
    · rintro xs σ A2 _
      rfl
    · rintro σ A2 ⟨rfl, rest, x10, x12, _, _, rfl⟩
      rw [seq_nx, s_cons]
      simp only [↓WP, ↓WP3, ↓WP4, ↓s_one, WQ, WQ3, WQ4, clean, wipeD, Tg.slots, lim, Nat.reduceAdd, Nat.reduceLeDiff, HAS, stab_sch]
      refine equal_u (k := k + 5) (by omega) (by omega) ok3.nms okd.nms ?_
      simp only [↓WP, ↓WP3, ↓WP4, ↓s_one, WQ, WQ3, WQ4, clean, wipeD, Tg.slots, lim, Nat.reduceAdd, Nat.reduceLeDiff, HAS, Bool.not_true, stab_sch]
      refine lschema_u (k := k + 4) ok3 ?_
      simp only [↓WP, ↓WP3, ↓WP4, ↓s_one, WQ, WQ3, WQ4, clean, wipeD, Tg.slots, lim, Nat.reduceAdd, Nat.reduceLeDiff, HAS, stab_sch]
      refine equal_u (k := k + 5) (by omega) (by omega) ok3.nms ok3.nms ?_
      simp only [↓WP, ↓WP3, ↓WP4, ↓s_one, WQ, WQ3, WQ4, clean, wipeD, Tg.slots, lim, Nat.reduceAdd, Nat.reduceLeDiff, HAS, Bool.not_true, stab_sch]
      refine kept_u (k := k + 3) ok3 ?_
      have hp3 := ok3.pos
      have i0 : ∀ S : Sto, ixD (.lv (c3.map colT)) (.int 0) S = .ok (colT c3[0]) S := ix_lv (atI_nat (j := 0) (by rw [List.getElem?_map, List.getElem?_eq_getElem (by omega)]; rfl))
      simp only [↓WP, ↓WP3, ↓WP4, ↓s_one, WQ, WQ3, WQ4, clean, wipeD, Tg.slots, lim, Nat.reduceAdd, Nat.reduceLeDiff, HAS, i0, col1, col2]
      refine refused_u (k := k + 2) fun A3 => ?_
      try simp only [↓WP, ↓WP3, ↓WP4, ↓s_one, WQ, WQ3, WQ4, clean, wipeD, Tg.slots, lim, Nat.reduceAdd, Nat.reduceLeDiff, HAS]
    · rintro y xs σ A2 ⟨rfl, rest, x10, x12, e, hm, rfl⟩ K hK _ _ _ _
      cases rest with
      | nil => cases e
      | cons x rest =>
        cases e
        obtain ⟨s1, s2, s3⟩ := strange x (hm x List.mem_cons_self)
        have isU : D.lv [.lv [.str "ValueError", .str "TellError", .str "NameFault", .str "UnknownName"], .str x] = unkD x := rfl
        have uo : okD (unkD x) = true ∧ depD (unkD x) ≤ 3 := by simp [unkD, okD, okDs, depD, depDs, lim]
        have us : stab (unkD x) = unkD x := rfl
        have ua : ∀ {tg : Tg} {σ : Sg} {Q : Sg → Prop}, asgQ tg (unkD x) σ Q = stQ tg (unkD x) σ Q := rfl
        simp only [↓WP, ↓WP3, ↓WP4, ↓s_cons, WQ, WQ3, WQ4, clean, wipeD, Tg.slots, lim, Nat.reduceAdd, Nat.reduceLeDiff, HAS, isU, ua, stab_sch]
        refine lplace_u (k := k + 5) (by omega) s3 ?_
        rw [place_no s1]
        simp only [↓WP, ↓WP3, ↓WP4, ↓s_cons, WQ, WQ3, WQ4, clean, wipeD, Tg.slots, lim, Nat.reduceAdd, Nat.reduceLeDiff, HAS, us, stab_sch]
        refine same_u (k := k + 6) 3 uo.2 uo.1 ?_
        simp only [↓WP, ↓WP3, ↓WP4, ↓s_cons, WQ, WQ3, WQ4, clean, wipeD, Tg.slots, lim, Nat.reduceAdd, Nat.reduceLeDiff, HAS, us, stab_sch, Bool.not_true]
        refine lplace_u (k := k + 5) (by omega) s3 ?_
        rw [place_no s2]
        simp only [↓WP, ↓WP3, ↓WP4, ↓s_cons, WQ, WQ3, WQ4, clean, wipeD, Tg.slots, lim, Nat.reduceAdd, Nat.reduceLeDiff, HAS, us, stab_sch]
        refine same_u (k := k + 6) 3 uo.2 uo.1 ?_
        simp only [↓WP, ↓WP3, ↓WP4, ↓s_cons, WQ, WQ3, WQ4, clean, wipeD, Tg.slots, lim, Nat.reduceAdd, Nat.reduceLeDiff, HAS, us, stab_sch, Bool.not_true]
        exact hK _ _ ⟨rfl, rest, _, _, rfl, fun z hz => hm z (List.mem_cons_of_mem _ hz), rfl⟩
  · rintro y xs σ A' ⟨rest, x4, e, hm, rfl, hlk⟩ K hK _ _ _ _
    cases rest with
    | nil => cases e
    | cons p rest =>
      cases e
      obtain ⟨q1, q2, q3⟩ := hm p List.mem_cons_self
      have hlq := q1 A' hlk
      show wSs _ _ _ [none, some (.ref 0), some (.lv (cs.map colT)), some (.ref n0), some p.1, none, none, none, none, none, none, x11, none, none] A' K
      exact turn_u (k := k + 3) rfl hlq q2 q3 fun A2 kp => hK _ _ ⟨rest, _, rfl, fun z hz => hm z (List.mem_cons_of_mem _ hz), rfl, kp _ _ hlk⟩
end Pr

open PySem PySem.W PySem.Calls PyProof.Rows
theorem PySem.Challenge.cw_errortells_k05_columns_and_schemas_holds : PySem.Challenge.rw_errortells_k05_columns_and_schemas.Holds := by
  w_on; o_law
  refine HandSHeadRun.head_any (r := OpenLaw.row PySem.Challenge.rw_errortells_k05_columns_and_schemas) (q := view (OpenLaw.row PySem.Challenge.rw_errortells_k05_columns_and_schemas).prog [51]) (H := Pr.hk) (ob := Pr.ob) (M := 30000) (loose := Pr.loose) (d := HandSHeadRun.topDef (OpenLaw.row PySem.Challenge.rw_errortells_k05_columns_and_schemas).prog 51) (kwd := []) Pr.ob_eq
    (by kernel_rfl) (fun s => by kernel_rfl) Pr.run (by kernel_rfl) (by kernel_rfl) (by kernel_rfl) (by rfl) (by first | assumption | decide +kernel) (by decide +kernel) ⟨rfl, rfl, rfl, rfl, rfl, by decide +kernel⟩ ?hw ?hc
  case hw => w_witness2
  case hc =>
    refine L2.walk_ofE (l := PySem.Challenge.rw_errortells_k05_columns_and_schemas) (n := 63) (k := 10) (x := "_law_script") (CX := L2.CX0) rfl (by decide) (by kernel_rfl) ⟨rfl, by decide, by decide⟩ ?F (fun _ _ _ _ z => z)
    intro w mg fa h Y G hmg0
    obtain ⟨K, KX, c⟩ := Y
    have hmg : mg ("law" : PySem.Str) = some (.ref fa) := by
      have e : (HandSHeadRun.topDef (OpenLaw.row PySem.Challenge.rw_errortells_k05_columns_and_schemas).prog 51).name = ("law" : PySem.Str) := by kernel_rfl
      rw [← e]
      exact hmg0
    obtain ⟨fd, hb, hF⟩ := Pr.facts (P := (PySem.Challenge.rw_errortells_k05_columns_and_schemas).prog) (w := w) KX G hmg c 0 9 (fun _ hn => Pr.law_run (w := 0) (k := 0) hn)
    exact ⟨K, fd, Ev.spLaw K, KX, hb, fun H a ns hl _ hS => ⟨a, ns, rfl, hS, hl, fun _ => rfl⟩, hF⟩
