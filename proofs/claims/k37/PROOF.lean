import PyProof.Rows.All
import Wide.All
import OpenK.AllK
import Wide.FinOn
import KE.KStateDown
import KE.SortData
import HandS.ForMost
import HandS.ForExc
import HandS.More
import HandS.Defaults
import HandS.TupAny
import HandS.Deep
import HandS.Flow
import HandS.IsInst
import HandS.CallSlots
import HandS.Codes
import KE.DataCmp
import KE.DataEq
import KE.DataMinMax
import HandS.TupMul
import HandS.Replace
import HandS.ExcCtx
import HandS.SuiteRaise
import HandS.HotCalls
import HandS.HeadEnd
import HandS.Ends
import HandS.SortKw
import HandS.RevTup
import HandS.ExcField
import HandS.Rev
import HandS.ExcIs
import KE.KExcIs
import HandS.ExcOwn
import KE.KExcSuper
import HandS.Head0
import HandS.Head1
import HandS.Head2
import HandS.HeadHook1
import HandS.HeadHook2
import PySem.Challenge.RW_alarmworks_k37_whole_tuned_settings
set_option Elab.async false
set_option linter.all false
set_option maxRecDepth 100000
set_option maxHeartbeats 4000000
/-! S2: values as data, an IR of the defs, its evaluator. -/
namespace S2
open PySem

/-- a value as data -/
inductive D where
  | non
  | bl (b : Bool)
  | int (i : Int)
  | str (s : Str)
  | tup (l : List D)
  | lst (l : List D)
  | dct (ks vs : List D)
  | scr (l : List Int)
  | ob (c : Str) (ns : List Str) (vs : List D)

inductive R (α : Type) where
  | ok (a : α)
  | exc (e : D)
  | no
def R.bind {α β : Type} : R α → (α → R β) → R β
  | .ok a, f => f a
  | .exc e, _ => .exc e
  | .no, _ => .no
/-- an exception is not served there -/
def R.tame {α : Type} : R α → R α
  | .ok a => .ok a
  | _ => .no
@[simp] theorem R.ok_bind {α β : Type} (a : α) (f : α → R β) : (R.ok a).bind f = f a := rfl
@[simp] theorem R.exc_bind {α β : Type} (e : D) (f : α → R β) : (R.exc e).bind f = R.exc e := rfl
@[simp] theorem R.no_bind {α β : Type} (f : α → R β) : (R.no : R α).bind f = R.no := rfl
@[simp] theorem R.tame_ok {α : Type} (a : α) : (R.ok a).tame = R.ok a := rfl

/-- who holds a list: shared; this slot alone; this slot alone, and its lists within too; an instance that is being made -/
inductive Own where
  | sh | o1 | o2 | oi | ex
  deriving DecidableEq
abbrev OD := Own × D
abbrev Slot := Option OD
abbrev Env := List Slot

inductive Bop where
  | add | sub | mul | fdiv | mod | pow | xor
inductive Cop where
  | eq | ne | lt | le | gt | ge | is_ | isnot | in_ | notin
inductive Bi where
  | len | int | str | abs | tuple | list | sum | max | min | sorted | all | any | maxd | mind | revL | revT | rngL | rngT | repr | set
inductive Bm where
  | index | join | split | get | upper | replace | six
inductive Bt where
  | int | str | bool | tuple | list
inductive Tg where
  | nm (i : Nat)
  | tp (is : List Nat)

mutual
inductive E where
  | non
  | bl (b : Bool)
  | int (i : Int)
  | str (s : Str)
  | var (i : Nat)
  | g (x : Str)
  | bin (o : Bop) (a b : E)
  | neg (a : E)
  | not (a : E)
  | and (a b : E)
  | or (a b : E)
  | cmp (o : Cop) (a b : E)
  | chain (o p : Cop) (a b c : E)
  | ife (c a b : E)
  | tup (es : Es)
  | lst (es : Es)
  | emp
  | ix (a b : E)
  | sl (a : E) (lo hi : Eo)
  | fld (a : E) (f : Str)
  | isi (a : E) (b : Bt)
  | isx (i : Nat) (c : Str)
  | xfl (i : Nat) (f : Str)
  | hsm (i j : Nat)
  | rvt (a : E)
  | rvl (a : E)
  | lsv (i : Nat)
  | rgt (l : Bool) (es : Es)
  | dl1 (k v : E)
  | srk (a : E) (f : Str)
  | hcall (f : Str) (i : Nat)
  | call (f : Str) (es : Es)
  | new (c : Str) (es : Es)
  | bi (f : Bi) (es : Es)
  | me (m : Str) (a : E) (es : Es)
  | join (s : Str) (b : E)
  | bm (m : Bm) (a : E) (es : Es)
  | lc (elt : E) (tg : Tg) (it : It) (c : Eo)
  | dc (k v : E) (tg : Tg) (it : It)
inductive Es where
  | nil
  | cons (e : E) (es : Es)
inductive Eo where
  | none
  | some (e : E)
inductive It where
  | it (e : E)
  | rng1 (a : E)
  | rng2 (a b : E)
  | rng3 (a b c : E)
  | rev (e : E)
  | enum (e : E)
  | items (e : E)
  | vals (e : E)
end

mutual
inductive S where
  | pass
  | doc
  | asg (i : Nat) (e : E)
  | tup (is : List Nat) (e : E)
  | par (i j : Nat) (a b : E)
  | asgix (x : Nat) (i e : E)
  | app (x : Nat) (e : E)
  | appat (x : Nat) (i e : E)
  | appop (x y : Nat) (i : Eo)
  | popto (i x : Nat) (e : Eo)
  | poptup (is : List Nat) (x : Nat) (e : Eo)
  | retpop (x : Nat) (e : Eo)
  | popd (x : Nat) (e : Eo)
  | rev (x : Nat)
  | ext (x : Nat) (e : E)
  | ins (x : Nat) (i e : E)
  | sdapp (x : Nat) (k e : E)
  | fld (x : Nat) (f : Str) (e : E)
  | ex (e : E)
  | ife (c : E) (a b : Ss)
  | for_ (tg : Tg) (it : It) (b : Ss)
  | while_ (c : E) (b : Ss)
  | ret (e : E)
  | retn
  | brk
  | cont
  | raise_ (c : Str) (es : Es)
  | try_ (b : Ss) (hs : Hs)
inductive Ss where
  | nil
  | cons (s : S) (ss : Ss)
inductive Hs where
  | nil
  | cons (c : Str) (i : Option Nat) (b : Ss) (hs : Hs)
end

/-- a def: its parameters, its slots, its body -/
structure FD where
  np : Nat
  ns : Nat
  body : Ss
/-- the program: its defs by name (C.m: a method), its constants, the exception classes with their fields, who stands under whom, and where a class's method is found -/
structure G where
  fn : Str → Option FD
  con : Str → Option D
  exf : Str → Option (List Str)
  sub : Str → Str → Bool
  mth : Str → Str → Option Str
  fr : Str → Bool
  cl : Str → Bool
  top : Str → Bool
  nf : Str → Bool
  hf : Str → Bool

/-! ### data for the library -/
mutual
def py : D → PyData
  | .non => .none
  | .bl b => .bool b
  | .int i => .int i
  | .str s => .str s
  | .tup l => .tuple (pys l)
  | .lst l => .list (pys l)
  | .dct _ _ => .dict []
  | .scr _ => .dict []
  | .ob _ _ _ => .dict []
def pys : List D → List PyData
  | [] => []
  | d :: l => py d :: pys l
end
mutual
/-- a list or a dict stands in it -/
def hasL : D → Bool
  | .tup l => hasLs l
  | .lst _ => true
  | .dct _ _ => true
  | .ob _ _ vs => hasLs vs
  | _ => false
def hasLs : List D → Bool
  | [] => false
  | d :: l => hasL d || hasLs l
end
def isLst : D → Bool
  | .lst _ => true
  | _ => false
def kids : D → List D
  | .lst l => l
  | .dct _ vs => vs
  | .tup l => l
  | _ => []

/-! ### operations by values -/
def szL : Nat := 16777216
def scV : D → Option L2.V
  | .non => some .non
  | .bl b => some (.bl b)
  | .int i => some (.int i)
  | .str s => some (.str s)
  | _ => none
def depth64 (a : D) : Bool := decide ((py a).depth ≤ 64)
def plainB (a : D) : Bool := (py a).plain && depth64 a
def eqP (a b : D) : R Bool := if plainB a && plainB b then .ok (PyData.eqv (py a) (py b)) else .no
def eqD (a b : D) : R Bool := match scV a, scV b with
  | some x, some y => if L2.scal x y then .ok (decide (x = y)) else eqP a b
  | _, _ => eqP a b
def isNonD : D → Bool
  | .non => true
  | _ => false
/-- a < b -/
def ltD (a b : D) : R Bool := if W.alike (py a) (py b) && plainB a && plainB b && !isNonD a then .ok (W.dataLt (py a) (py b)) else .no
/-- not a < b -/
def nltD (a b : D) : R Bool := if W.alike (py b) (py a) && plainB a && plainB b && !isNonD b then .ok (!W.dataLt (py a) (py b)) else .no
def inD (a : D) : D → R Bool
  | .lst l => if plainB a && plainB (.lst l) then .ok (l.any fun z => PyData.eqv (py z) (py a)) else .no
  | .tup l => if plainB a && plainB (.tup l) then .ok (l.any fun z => PyData.eqv (py z) (py a)) else .no
  | .str y => match a with
    | .str x => .ok (!(Builtin.Str.occurrences y x 0 y.length 1).isEmpty)
    | _ => .no
  | _ => .no
def cmpD : Cop → D → D → R Bool
  | .eq, a, b => eqD a b
  | .ne, a, b => (eqD a b).bind fun c => .ok (!c)
  | .lt, a, b => ltD a b
  | .gt, a, b => if W.alike (py a) (py b) && plainB a && plainB b && !isNonD a then .ok (W.dataLt (py b) (py a)) else .no
  | .le, a, b => nltD b a
  | .ge, a, b => if W.alike (py a) (py b) && plainB a && plainB b && !isNonD a then .ok (!W.dataLt (py a) (py b)) else .no
  | .is_, a, .non => .ok (isNonD a)
  | .isnot, a, .non => .ok (!isNonD a)
  | .in_, a, b => inD a b
  | .notin, a, b => (inD a b).bind fun c => .ok (!c)
  | _, _, _ => .no
def addD : D → D → R D
  | .int a, .int b => .ok (.int (a + b))
  | .str a, .str b => if a.length + b.length ≤ szL then .ok (.str (a ++ b)) else .no
  | .tup a, .tup b => if a.length + b.length ≤ szL then .ok (.tup (a ++ b)) else .no
  | .lst a, .lst b => if a.length + b.length ≤ szL then .ok (.lst (a ++ b)) else .no
  | _, _ => .no
/-- -n ≤ i ≤ n (said so that the kernel, where i is a letter, stops at once) -/
def absLe (i : Int) (n : Nat) : Bool := Nat.ble i.natAbs n
theorem absLe_ok {i : Int} {n : Nat} (h : absLe i n = true) : -(n : Int) ≤ i ∧ i ≤ n := by
  have := Nat.le_of_ble_eq_true h
  omega
theorem absLe_of {i : Int} {n : Nat} (h1 : -(n : Int) ≤ i) (h2 : i ≤ n) : absLe i n = true := Nat.ble_eq_true_of_le (by omega)
def mulOk (i j : Int) : Bool := absLe i 18446744073709551615 || absLe j 18446744073709551615
def mulD : D → D → R D
  | .int a, .int b => if mulOk a b then .ok (.int (a * b)) else .no
  | .lst a, .int k => if absLe k 1000000000 && decide (a.length * k.toNat ≤ szL) then .ok (.lst ((List.replicate k.toNat a).flatten)) else .no
  | .tup a, .int k => if decide (2 ≤ k) && absLe k 1000 && !a.isEmpty && decide (a.length ≤ 1000) then .ok (.tup ((List.replicate k.toNat a).flatten)) else .no
  | _, _ => .no
def binD : Bop → D → D → R D
  | .add, a, b => addD a b
  | .sub, .int a, .int b => .ok (.int (a - b))
  | .mul, a, b => mulD a b
  | .fdiv, .int a, .int b => if decide (0 < b) && absLe b 1073741823 then .ok (.int (a / b)) else .no
  | .mod, .int a, .int b => if decide (0 < b) then .ok (.int (a % b)) else .no
  | .pow, .int a, .int b => if decide (0 ≤ b) && absLe b 1000000 && absLe a 18446744073709551615 then .ok (.int (a ^ b.toNat)) else .no
  | .xor, .int a, .int b => .ok (.int (Builtin.bitXor a b))
  | _, _, _ => .no
def truthD : D → R Bool
  | .non => .ok false
  | .bl b => .ok b
  | .int i => .ok (i != 0)
  | .str s => if s.length ≤ szL then .ok ((s.length : Int) != 0) else .no
  | .tup l => .ok (!l.isEmpty)
  | .lst l => .ok (!l.isEmpty)
  | _ => .no
def ixD : D → D → R D
  | .scr l, .int i => match L2.atI l i with
    | some d => .ok (.int d)
    | none => .no
  | .lst l, .int i => match L2.atI l i with
    | some d => .ok d
    | none => .no
  | .tup l, .int i => match L2.atI l i with
    | some d => .ok d
    | none => .no
  | .str s, .int i => if s.length ≤ szL then (match L2.atI s.cps.toList i with
    | some c => .ok (.str ⟨#[c]⟩)
    | none => .no) else .no
  | _, _ => .no
def cut {α : Type} (l : List α) (lo hi : Option Int) : List α := (l.drop (HT.sIx l.length 0 lo)).take (HT.sIx l.length l.length hi - HT.sIx l.length 0 lo)
def slD : D → Option Int → Option Int → R D
  | .lst l, lo, hi => .ok (.lst (cut l lo hi))
  | .tup l, lo, hi => .ok (.tup (cut l lo hi))
  | .str s, lo, hi => if s.length ≤ szL then .ok (.str ⟨(cut s.cps.toList lo hi).toArray⟩) else .no
  | _, _, _ => .no
def fldL (f : Str) : List Str → List D → Option D
  | n :: ns, v :: vs => if n = f then some v else fldL f ns vs
  | _, _ => none
def fldD (f : Str) : D → R D
  | .ob _ ns vs => match fldL f ns vs with
    | some d => .ok d
    | none => .no
  | _ => .no
def setF (f : Str) (v : D) : List Str → List D → List Str × List D
  | n :: ns, w :: vs => if n = f then (n :: ns, v :: vs) else ((n :: (setF f v ns vs).1), (w :: (setF f v ns vs).2))
  | _, _ => ([f], [v])
/-- isinstance by a built-in class -/
def isiD : Bt → D → R Bool
  | .int, .int _ => .ok true
  | .int, .bl _ => .ok true
  | .bool, .bl _ => .ok true
  | .str, .str _ => .ok true
  | .tuple, .tup _ => .ok true
  | .list, .lst _ => .ok true
  | .list, .scr _ => .ok true
  | _, .dct _ _ => .no
  | _, .ob _ _ _ => .no
  | _, _ => .ok false
def intsOf : List D → Option (List Int)
  | [] => some []
  | .int i :: l => (intsOf l).map (i :: ·)
  | _ :: _ => none
def strsOf : List D → Option (List Str)
  | [] => some []
  | .str i :: l => (strsOf l).map (i :: ·)
  | _ :: _ => none
def blsOf : List D → Option (List Bool)
  | [] => some []
  | .bl i :: l => (blsOf l).map (i :: ·)
  | _ :: _ => none
def seqOf : D → Option (List D)
  | .tup l => some l
  | .lst l => some l
  | _ => none
def leD (a b : D) : Bool := !W.dataLt (py b) (py a)
def sortOk (l : List D) : Bool := decide (l.length ≤ szL) && (l.all fun a => plainB a && l.all fun b => W.alike (py a) (py b)) &&
  ((l.all fun a => match a with | .tup (_ :: _) => true | _ => false) || (l.all fun a => match a with | .tup _ => false | .non => false | _ => true))
def sortD (l : List D) : R D := if sortOk l then .ok (.lst (l.mergeSort leD)) else .no
def pick2 (f : Int → Int → Bool) : List Int → Int → Int
  | [], m => m
  | x :: l, m => pick2 f l (if f x m then x else m)
/-- alike data: the least, the greatest of them, the first such one -/
def alikeOk (l : List D) : Bool := l.all fun a => plainB a && !isNonD a && !isLst a && l.all fun b => W.alike (py a) (py b)
def minF (x : D) (l : List D) : D := l.foldl (fun a y => if W.dataLt (py y) (py a) then y else a) x
def maxF (x : D) (l : List D) : D := l.foldl (fun a y => if W.dataLt (py a) (py y) then y else a) x
def minR : List D → R D
  | x :: l => if alikeOk (x :: l) then .ok (minF x l) else .no
  | [] => .no
def maxR : List D → R D
  | x :: l => if alikeOk (x :: l) then .ok (maxF x l) else .no
  | [] => .no
def shB0 (d : D) : Bool := plainB d && (py d).showable && decide ((py d).shown.length ≤ szL)
def idxS (z : Str) : List Str → Nat → Option Nat
  | [], _ => none
  | y :: ys, k => if y = z then some k else idxS z ys (k + 1)
def litD : D → Bool
  | .int _ => true
  | .non => true
  | _ => false
def biD : Bi → List D → R D
  | .len, [.tup l] => .ok (.int l.length)
  | .len, [.lst l] => .ok (.int l.length)
  | .len, [.scr l] => .ok (.int l.length)
  | .len, [.str s] => if s.length ≤ szL then .ok (.int s.length) else .no
  | .int, [.int i] => .ok (.int i)
  | .int, [.bl b] => .ok (.int (if b then 1 else 0))
  | .str, [.int i] => if decide (i.natAbs.log2 < 1920) then .ok (.str (toString i)) else .no
  | .abs, [.int i] => .ok (.int (if i < 0 then -i else i))
  | .tuple, [d] => match seqOf d with
    | some l => .ok (.tup l)
    | none => .no
  | .list, [d] => match seqOf d with
    | some l => .ok (.lst l)
    | none => .no
  | .sum, [.lst l] => match intsOf l with
    | some is => .ok (.int is.sum)
    | none => .no
  | .max, [.int i, .int j] => .ok (.int (if j > i then j else i))
  | .min, [.int i, .int j] => .ok (.int (if j < i then j else i))
  | .max, [.lst l] => match intsOf l with
    | some (x :: is) => .ok (.int (is.foldl max x))
    | _ => maxR l
  | .max, [.tup l] => match intsOf l with
    | some (x :: is) => .ok (.int (is.foldl max x))
    | _ => maxR l
  | .min, [.lst l] => match intsOf l with
    | some (x :: is) => .ok (.int (is.foldl min x))
    | _ => minR l
  | .min, [.tup l] => match intsOf l with
    | some (x :: is) => .ok (.int (is.foldl min x))
    | _ => minR l
  | .maxd, [.lst l, d] => if litD d = true then (match intsOf l with
    | some (x :: is) => .ok (.int (is.foldl max x))
    | some [] => .ok d
    | none => maxR l) else .no
  | .mind, [.lst l, d] => if litD d = true then (match intsOf l with
    | some (x :: is) => .ok (.int (is.foldl min x))
    | some [] => .ok d
    | none => minR l) else .no
  | .sorted, [.lst l] => sortD l
  | .sorted, [.tup l] => sortD l
  | .all, [.lst l] => match blsOf l with
    | some bs => .ok (.bl (bs.all id))
    | none => .no
  | .any, [.lst l] => match blsOf l with
    | some bs => .ok (.bl (bs.any id))
    | none => .no
  | .repr, [d] => if shB0 d = true then .ok (.str (py d).shown) else .no
  | .revL, [d] => match seqOf d with
    | some l => .ok (.lst l.reverse)
    | none => .no
  | .revT, [d] => match seqOf d with
    | some l => .ok (.tup l.reverse)
    | none => .no
  | _, _ => .no
/-- what the method m may be asked of -/
def bmTy : Bm → D → Bool
  | .index, .lst _ => true
  | .join, .str _ => true
  | .split, .str _ => true
  | .upper, .str _ => true
  | .replace, .str _ => true
  | .six, .str _ => true
  | _, _ => false
def bmD : Bm → D → List D → R D
  | .index, .lst l, [.str z] => match strsOf l with
    | some ss => (match idxS z ss 0 with
      | some k => .ok (.int k)
      | none => .no)
    | none => .no
  | .split, .str a, [.str b] => if (b.length == 0) = false ∧ a.length + 2 ≤ szL then .ok (.lst ((Txt.split a b).map .str)) else .no
  | .six, .str a, [.str b] => match Builtin.Str.occurrences a b 0 a.length 1 with
    | i :: _ => .ok (.int (i : Nat))
    | [] => .no
  | .upper, .str s, [] => if decide (s.length ≤ 5592405) then .ok (.str (Txt.upper s)) else .no
  | .join, .str s, [d] => match seqOf d with
    | some l => (match strsOf l with
      | some ss => if decide ((ss.map (·.length)).sum + ss.length * s.length ≤ 16777216) then .ok (.str (Txt.join s ss)) else .no
      | none => .no)
    | none => .no
  | _, _, _ => .no

/-! ### the evaluator -/
structure Cal where
  call : Str → List D → R OD
  make : Str → List D → R D
  can : Bool
  hot : Str → D → R OD

/-- where the method m of the instance is -/
def whoM (g : G) (m : Str) : D → Option Str
  | .ob c ns _ => if ns.contains m then none else g.mth c m
  | _ => none
def isStrD : D → Bool
  | .str _ => true
  | _ => false
def listOwn (l : List OD) : Own := if (!l.isEmpty) && l.all (fun p => decide (p.1 = .o1) && isLst p.2) then .o2 else .o1
def shD (r : R D) : R OD := r.bind fun d => .ok (.sh, d)
def ownL (r : R D) : R OD := r.tame.bind fun d => .ok (if isLst d then .o1 else .sh, d)
def asB (r : R Bool) : R OD := r.tame.bind fun b => .ok (.sh, .bl b)
def fst1 (r : R OD) : R D := r.bind fun p => .ok p.2

def look (env : Env) (i : Nat) : R OD := match env[i]? with
  | some (some (.oi, _)) => .no
  | some (some (.ex, _)) => .no
  | some (some (_, d)) => .ok (.sh, d)
  | _ => .no
def setAll : List Nat → List D → Env → Option Env
  | [], [], env => some env
  | i :: is, d :: ds, env => setAll is ds (env.set i (some (.sh, d)))
  | _, _, _ => none
def bindT (tg : Tg) (d : D) (env : Env) : Option Env := match tg with
  | .nm i => some (env.set i (some (.sh, d)))
  | .tp is => match d with
    | .tup l => setAll is l env
    | _ => none
def consO {α : Type} : Option α → List α → List α
  | some y, ys => y :: ys
  | none, ys => ys
def mapC {α : Type} (f : D → R (Option α)) : List D → R (List α)
  | [] => .ok []
  | x :: l => (f x).bind fun o => (mapC f l).bind fun ys => .ok (consO o ys)
/-- what a loop over it sees -/
def itD : D → Option (List D)
  | .lst l => some l
  | .tup l => some l
  | .scr l => some (l.map .int)
  | .str s => some (s.cps.toList.map fun c => .str ⟨#[c]⟩)
  | _ => none
def upto (lo : Int) (n : Nat) : List D := (List.range n).map fun (k : Nat) => .int (lo + k)
def small62 (i : Int) : Bool := absLe i 4611686018427387903
def rngD (lo hi : Int) : R (List D) := if small62 lo && small62 hi then .ok (upto lo (hi - lo).toNat) else .no

mutual
def ev (g : G) (C : Cal) : E → Env → R OD
  | .non, _ => .ok (.sh, .non)
  | .bl b, _ => .ok (.sh, .bl b)
  | .int i, _ => .ok (.sh, .int i)
  | .str s, _ => .ok (.sh, .str s)
  | .var i, env => look env i
  | .g x, _ => match g.con x with
    | some d => .ok (.sh, d)
    | none => .no
  | .bin o a b, env => (ev g C a env).bind fun x => (ev g C b env).bind fun y => ownL (binD o x.2 y.2)
  | .neg a, env => (ev g C a env).bind fun x => match x.2 with
    | .int i => .ok (.sh, .int (-i))
    | _ => .no
  | .not a, env => (ev g C a env).bind fun x => asB ((truthD x.2).bind fun b => .ok (!b))
  | .and a b, env => (ev g C a env).bind fun x => (truthD x.2).tame.bind fun k => if k = true then shD (fst1 (ev g C b env)) else .ok (.sh, x.2)
  | .or a b, env => (ev g C a env).bind fun x => (truthD x.2).tame.bind fun k => if k = true then .ok (.sh, x.2) else shD (fst1 (ev g C b env))
  | .cmp o a b, env => (ev g C a env).bind fun x => (ev g C b env).bind fun y => asB (cmpD o x.2 y.2)
  | .chain o p a b c, env => (ev g C a env).bind fun x => (ev g C b env).bind fun y => (cmpD o x.2 y.2).tame.bind fun k =>
      if k = true then (ev g C c env).bind fun z => asB (cmpD p y.2 z.2) else .ok (.sh, .bl false)
  | .ife c a b, env => (tst g C c env).bind fun k => if k = true then ev g C a env else ev g C b env
  | .tup es, env => (evs g C es env).bind fun l => if decide (l.length ≤ szL) then .ok (.sh, .tup (l.map (·.2))) else .no
  | .lst es, env => (evs g C es env).bind fun l => if decide (l.length ≤ szL) then .ok (listOwn l, .lst (l.map (·.2))) else .no
  | .emp, _ => .ok (.o1, .dct [] [])
  | .ix a b, env => (ev g C a env).bind fun x => (ev g C b env).bind fun y => shD (ixD x.2 y.2).tame
  | .sl a lo hi, env => (ev g C a env).bind fun x => (evo g C lo env).bind fun l => (evo g C hi env).bind fun h => ownL (slD x.2 l h)
  | .fld a f, env => match a with
    | .var i => (match env[i]? with
      | some (some (.ex, d)) => .no
      | some (some (_, d)) => shD (fldD f d).tame
      | _ => .no)
    | a => (ev g C a env).bind fun x => shD (fldD f x.2).tame
  | .isi a b, env => (ev g C a env).bind fun x => asB (isiD b x.2)
  | .isx i c, env => match env[i]? with
    | some (some (.ex, .ob k _ _)) => if (g.exf k).isSome = true then .ok (.sh, .bl (g.sub k c)) else .no
    | _ => .no
  | .xfl i f, env => match env[i]? with
    | some (some (.ex, .ob k ns vs)) => if (g.exf k).isSome = true then shD (fldD f (.ob k ns vs)).tame else .no
    | _ => .no
  | .hsm i _, env => (look env i).bind fun x => match x.2 with
    | .lst l => (match blsOf l with
      | some bs => if decide (bs.length < szL) then .ok (.sh, .int (bs.map fun b => if b = true then (1 : Int) else 0).sum) else .no
      | none => .no)
    | _ => .no
  | .rvt a, env => (ev g C a env).bind fun x => ownL (biD .revT [x.2])
  | .rvl a, env => (ev g C a env).bind fun x => if isLst x.2 = true then ownL (biD .revL [x.2]) else .no
  | .lsv i, env => (look env i).bind fun x => if isLst x.2 = true then ownL (biD .list [x.2]) else .no
  | .rgt _ _, _ => .no
  | .dl1 _ _, _ => .no
  | .srk _ _, _ => .no
  | .hcall f i, env => match env[i]? with
    | some (some (.ex, .ob k ns vs)) => if (g.exf k).isSome = true then C.hot f (.ob k ns vs) else .no
    | _ => .no
  | .call f es, env => (evs g C es env).bind fun l => C.call f (l.map (·.2))
  | .new c es, env => if C.can = true then (evs g C es env).bind fun l => shD (C.make c (l.map (·.2))) else .no
  | .bi f es, env => (evs g C es env).bind fun l => ownL (biD f (l.map (·.2)))
  | .me m a es, env => (ev g C a env).bind fun x => match whoM g m x.2 with
    | some f => (evs g C es env).bind fun l => C.call f (x.2 :: l.map (·.2))
    | none => .no
  | .join s b, env => (ev g C b env).bind fun x => ownL (bmD .join (.str s) [x.2])
  | .bm m a es, env => (ev g C a env).bind fun x => if bmTy m x.2 = true then (evs g C es env).bind fun l => ownL (bmD m x.2 (l.map (·.2))) else .no
  | .lc elt tg it c, env => (items g C it env).bind fun xs =>
      (mapC (fun x => match bindT tg x env with
        | none => .no
        | some env' => (tsto g C c env').tame.bind fun k => if k = true then (ev g C elt env').tame.bind fun y => .ok (some y) else .ok none) xs.2).tame.bind fun l =>
      if decide (xs.2.length ≤ szL) then .ok (listOwn l, .lst (l.map (·.2))) else .no
  | .dc _ _ _ _, _ => .no
def evs (g : G) (C : Cal) : Es → Env → R (List OD)
  | .nil, _ => .ok []
  | .cons e es, env => (ev g C e env).bind fun x => (evs g C es env).bind fun l => .ok (x :: l)
def evo (g : G) (C : Cal) : Eo → Env → R (Option Int)
  | .none, _ => .ok none
  | .some e, env => (ev g C e env).bind fun x => match x.2 with
    | .int i => .ok (some i)
    | _ => .no
def tsto (g : G) (C : Cal) : Eo → Env → R Bool
  | .none, _ => .ok true
  | .some e, env => tst g C e env
def tst (g : G) (C : Cal) : E → Env → R Bool
  | .not a, env => (tst g C a env).bind fun b => .ok (!b)
  | .and a b, env => (tst g C a env).bind fun k => if k = true then tst g C b env else .ok false
  | .or a b, env => (tst g C a env).bind fun k => if k = true then .ok true else tst g C b env
  | .bl b, _ => .ok b
  | .var i, env => (look env i).bind fun x => (truthD x.2).tame
  | .cmp o a b, env => (ev g C a env).bind fun x => (ev g C b env).bind fun y => (cmpD o x.2 y.2).tame
  | .chain o p a b c, env => (ev g C a env).bind fun x => (ev g C b env).bind fun y => (cmpD o x.2 y.2).tame.bind fun k =>
      if k = true then (ev g C c env).bind fun z => (cmpD p y.2 z.2).tame else .ok false
  | .isi a b, env => (ev g C a env).bind fun x => (isiD b x.2).tame
  | .isx i c, env => match env[i]? with
    | some (some (.ex, .ob k _ _)) => if (g.exf k).isSome = true then .ok (g.sub k c) else .no
    | _ => .no
  | .call f es, env => ((evs g C es env).bind fun l => C.call f (l.map (·.2))).bind fun x => (truthD x.2).tame
  | .ix a b, env => ((ev g C a env).bind fun x => (ev g C b env).bind fun y => shD (ixD x.2 y.2).tame).bind fun z => (truthD z.2).tame
  | .bi f es, env => ((evs g C es env).bind fun l => ownL (biD f (l.map (·.2)))).bind fun z => (truthD z.2).tame
  | .me m a es, env => ((ev g C a env).bind fun x => match whoM g m x.2 with
    | some f => (evs g C es env).bind fun l => C.call f (x.2 :: l.map (·.2))
    | none => .no).bind fun y => (truthD y.2).tame
  | _, _ => .no
def items (g : G) (C : Cal) : It → Env → R (OD × List D)
  | .it e, env => (ev g C e env).bind fun x => match itD x.2 with
    | some l => .ok (x, l)
    | none => .no
  | .rng1 a, env => (ev g C a env).bind fun x => match x.2 with
    | .int j => (rngD 0 j).bind fun l => .ok ((.sh, .non), l)
    | _ => .no
  | .rng2 a b, env => (ev g C a env).bind fun x => (ev g C b env).bind fun y => match x.2, y.2 with
    | .int i, .int j => (rngD i j).bind fun l => .ok ((.sh, .non), l)
    | _, _ => .no
  | .rev e, env => (ev g C e env).bind fun x => match seqOf x.2 with
    | some l => .ok (x, l.reverse)
    | none => .no
  | _, _ => .no
end

/-! ### statements -/
inductive Out where
  | nx (env : Env)
  | ret (o : Own) (d : D)
  | brk (env : Env)
  | ct (env : Env)
  | exc (env : Env) (e : D)
  | no
mutual
/-- the slots that an expression reads -/
def rd : E → List (Nat × Bool)
  | .var i => [(i, true)]
  | .bin _ a b => rd a ++ rd b
  | .neg a => rd a
  | .not a => rd a
  | .and a b => rd a ++ rd b
  | .or a b => rd a ++ rd b
  | .cmp _ a b => rd a ++ rd b
  | .chain _ _ a b c => rd a ++ (rd b ++ rd c)
  | .ife c a b => rd c ++ (rd a ++ rd b)
  | .tup es => rds es
  | .lst es => rds es
  | .ix a b => (match a with
    | .var i => [(i, false)]
    | a => rd a) ++ rd b
  | .sl a lo hi => rd a ++ (rdo lo ++ rdo hi)
  | .fld a _ => (match a with
    | .var i => [(i, false)]
    | a => rd a)
  | .isi a _ => rd a
  | .isx i _ => [(i, false)]
  | .xfl i _ => [(i, false)]
  | .hsm i _ => [(i, true)]
  | .rvt a => rd a
  | .rvl a => rd a
  | .lsv i => [(i, false)]
  | .rgt _ es => rds es
  | .dl1 k v => rd k ++ rd v
  | .srk a _ => rd a
  | .hcall _ i => [(i, false)]
  | .call _ es => rds es
  | .new _ es => rds es
  | .bi _ es => rds es
  | .me _ a es => rd a ++ rds es
  | .join _ b => rd b
  | .bm _ a es => rd a ++ rds es
  | .lc elt _ it c => rdi it ++ (rd elt ++ rdo c)
  | .dc k v _ it => rdi it ++ (rd k ++ rd v)
  | _ => []
def rds : Es → List (Nat × Bool)
  | .nil => []
  | .cons e es => rd e ++ rds es
def rdo : Eo → List (Nat × Bool)
  | .none => []
  | .some e => rd e
def rdi : It → List (Nat × Bool)
  | .it e => rd e
  | .rng1 a => rd a
  | .rng2 a b => rd a ++ rd b
  | .rng3 a b c => rd a ++ (rd b ++ rd c)
  | .rev e => rd e
  | .enum e => rd e
  | .items e => rd e
  | .vals e => rd e
end

/-- may what comes be one with a list that a slot holds? -/
def leaks : OD → Bool
  | (.sh, d) => hasL d
  | (.o1, d) => hasLs (kids d)
  | (.o2, d) => (kids d).any fun k => hasLs (kids k)
  | (.oi, _) => true
  | (.ex, _) => true
def frzS (is : List (Nat × Bool)) (k : Nat) : Slot → Slot
  | some (.o1, d) => if is.contains (k, true) = true then some (.sh, d) else some (.o1, d)
  | some (.o2, d) => if is.contains (k, true) = true then some (.sh, d) else if is.contains (k, false) = true then some (.o1, d) else some (.o2, d)
  | s => s
def frzA (is : List (Nat × Bool)) : Nat → Env → Env
  | _, [] => []
  | k, s :: r => frzS is k s :: frzA is (k + 1) r
def frz (is : List (Nat × Bool)) (env : Env) : Env := frzA is 0 env
/-- from a value to a statement's end: what an exception holds is shared from then on -/
def R.to {α : Type} (is : List (Nat × Bool)) (env : Env) : R α → (α → Out) → Out
  | .ok a, f => f a
  | .exc e, _ => .exc (frz is env) e
  | .no, _ => .no
@[simp] theorem R.ok_to {α : Type} (is : List (Nat × Bool)) (env : Env) (a : α) (f : α → Out) : (R.ok a).to is env f = f a := rfl
@[simp] theorem R.exc_to {α : Type} (is : List (Nat × Bool)) (env : Env) (e : D) (f : α → Out) : (R.exc e : R α).to is env f = .exc (frz is env) e := rfl
@[simp] theorem R.no_to {α : Type} (is : List (Nat × Bool)) (env : Env) (f : α → Out) : (R.no : R α).to is env f = .no := rfl

/-- the slots behind an expression's value -/
def aftI (is : List (Nat × Bool)) (v : OD) (env : Env) : Env := if leaks v = true then frz is env else env
def aft (e : E) (v : OD) (env : Env) : Env := aftI (rd e) v env
def isL (x : Nat) (env : Env) : Bool := match env[x]? with
  | some (some (.o1, .lst _)) => true
  | some (some (.o2, .lst _)) => true
  | _ => false
def isO (x : Nat) (env : Env) : Bool := match env[x]? with
  | some (some (.oi, .ob _ _ _)) => true
  | _ => false
def own1 (x : Nat) (env : Env) : Option (Own × List D) := match env[x]? with
  | some (some (.o1, .lst l)) => some (.o1, l)
  | _ => none
def own2 (x : Nat) (env : Env) : Option (List D) := match env[x]? with
  | some (some (.o2, .lst l)) => some l
  | _ => none
def evi (g : G) (C : Cal) (e : Eo) (env : Env) : R Int := match e with
  | .none => .ok (-1)
  | .some e => (ev g C e env).bind fun x => match x.2 with
    | .int i => .ok i
    | _ => .no
/-- x.pop(i): the item, the rest -/
def popD (g : G) (C : Cal) (x : Nat) (e : Eo) (env : Env) : R (D × Env) := (evi g C e env).bind fun i => match own1 x env with
  | some (o, l) => (match L2.ixN l.length i with
    | some k => (match l[k]? with
      | some d => .ok (d, env.set x (some (o, .lst (l.eraseIdx k))))
      | none => .no)
    | none => .no)
  | none => .no
def whileL (is : List (Nat × Bool)) (c : Env → R Bool) (b : Env → Out) : Nat → Env → Out
  | 0, _ => .no
  | n + 1, env => (c env).to is env fun k => if k = true then (match b env with
    | .nx env' => whileL is c b n env'
    | .ct env' => whileL is c b n env'
    | .brk env' => .nx env'
    | o => o) else .nx env
def forL (f : D → Env → Out) : List D → Env → Out
  | [], env => .nx env
  | x :: l, env => match f x env with
    | .nx env' => forL f l env'
    | .ct env' => forL f l env'
    | .brk env' => .nx env'
    | o => o
def wFuel : Nat := 1000000000
def appO (o : Own) (l : List D) (v : OD) : Own := if v.1 = .o1 && isLst v.2 && (decide (o = .o2) || l.isEmpty) then .o2 else .o1
def retV (e : E) (env : Env) (r : R OD) : R OD := match e with
  | .var i => (match env[i]? with
    | some (some (.oi, _)) => .no
    | some (some (.ex, _)) => .no
    | some (some (o, d)) => .ok (o, d)
    | _ => .no)
  | _ => r

/-- no slot holds a caught exception -/
def noX : Env → Bool
  | [] => true
  | some (.ex, _) :: _ => false
  | _ :: r => noX r
/-- behind an except suite its name is gone -/
def unx (i : Nat) : Out → Out
  | .nx env => if noX (env.set i none) = true then .nx (env.set i none) else .no
  | .brk env => if noX (env.set i none) = true then .brk (env.set i none) else .no
  | .ct env => if noX (env.set i none) = true then .ct (env.set i none) else .no
  | .ret o d => .ret o d
  | _ => .no
/-- x.append(y.pop(k)) -/
def popA (x y : Nat) (k : D) (env : Env) : Out := match k with
  | .int j => (match own1 y env with
    | some (_, l) => (match L2.ixN l.length j with
      | some n => (match l[n]? with
        | some d => (match own1 x (env.set y (some (.o1, .lst (l.eraseIdx n)))) with
          | some (_, m) => if decide (m.length < szL) && absLe j 1000000000 then .nx ((env.set y (some (.o1, .lst (l.eraseIdx n)))).set x (some (.o1, .lst (m ++ [d])))) else .no
          | none => .no)
        | none => .no)
      | none => .no)
    | none => .no)
  | _ => .no
mutual
def exS (g : G) (C : Cal) : S → Env → Out
  | .pass, env => .nx env
  | .doc, env => .nx env
  | .asg i e, env => (ev g C e env).to (rd e) env fun v => .nx ((aft e v env).set i (some v))
  | .tup is e, env => (ev g C e env).to (rd e) env fun v => match bindT (.tp is) v.2 (aft e (.sh, v.2) env) with
    | some env' => .nx env'
    | none => .no
  | .asgix x i e, env => (ev g C e env).to (rd e) env fun v => if isL x (aft e v env) = true then (ev g C i (aft e v env)).to (rd i) (aft e v env) fun k => (match k.2 with
    | .int j => (match own1 x (frz [(x, false)] (aft e v env)) with
      | some (_, l) => (match L2.ixN l.length j with
        | some n => .nx ((frz [(x, false)] (aft e v env)).set x (some (.o1, .lst (l.set n v.2))))
        | none => .no)
      | none => .no)
    | _ => .no) else .no
  | .app x e, env => if isL x env = true then (ev g C e env).to (rd e) env fun v => match own1 x (frz [(x, false)] (aft e v env)) with
    | some (_, l) => if decide (l.length < szL) then .nx ((frz [(x, false)] (aft e v env)).set x (some (.o1, .lst (l ++ [v.2])))) else .no
    | none => .no else .no
  | .appat x i e, env => match own2 x env with
    | some l => (ev g C i env).to (rd i) env fun k => (match k.2 with
      | .int j => (match L2.ixN l.length j with
        | some n => (match l[n]? with
          | some (.lst m) => (ev g C e env).to (rd e) env fun v => (match own2 x (aft e v env) with
            | some l2 => (match l2[n]? with
              | some (.lst m2) => if decide (m2.length < szL) then .nx ((aft e v env).set x (some (.o2, .lst (l2.set n (.lst (m2 ++ [v.2])))))) else .no
              | _ => .no)
            | none => .no)
          | _ => .no)
        | none => .no)
      | _ => .no)
    | none => .no
  | .rev x, env => (match own1 x (frz [(x, false)] env) with
    | some (_, l) => .nx ((frz [(x, false)] env).set x (some (.o1, .lst l.reverse)))
    | none => .no)
  | .popd x .none, env => (match own1 x env with
    | some (_, l) => if l.isEmpty = true then .no else .nx (env.set x (some (.o1, .lst l.dropLast)))
    | none => .no)
  | .appop x y (.some i), env => if (isL x env && isL y env) = true then (ev g C i env).to (rd i) env fun k => popA x y k.2 (frz [(x, false), (y, false)] (aft i k env)) else .no
  | .fld x f e, env => (ev g C e env).to (rd e) env fun v => match (aft e v env)[x]? with
    | some (some (.oi, .ob c ns vs)) => if decide (ns.length < 900) then .nx ((aft e v env).set x (some (.oi, .ob c (setF f v.2 ns vs).1 (setF f v.2 ns vs).2))) else .no
    | _ => .no
  | .ex e, env => (ev g C e env).to (rd e) env fun _ => .nx env
  | .ife c a b, env => (tst g C c env).to (rd c) env fun k => if k = true then exs g C a env else exs g C b env
  | .for_ tg it b, env => (items g C it env).to (rdi it) env fun xs =>
      forL (fun x env' => match bindT tg x env' with
        | some env2 => exs g C b env2
        | none => .no) xs.2 (aftI (rdi it) xs.1 env)
  | .while_ c b, env => whileL (rd c) (tst g C c) (exs g C b) wFuel env
  | .ret e, env => (retV e env (ev g C e env)).to (rd e) env fun v => .ret v.1 v.2
  | .retn, _ => .ret .sh .non
  | .brk, env => .brk env
  | .cont, env => .ct env
  | .raise_ c es, env => (evs g C es env).to (rds es) env fun l => match g.exf c with
    | some ns => if ns.length = l.length then .exc (frz (rds es) env) (.ob c ns (l.map (·.2))) else .no
    | none => .no
  | .try_ b (.cons c (some i) hb .nil), env => (match exs g C b env with
    | .exc env' (.ob k ns vs) => if ((g.exf k).isSome && (g.exf c).isSome && noX env') = true then (if g.sub k c = true then unx i (exs g C hb (env'.set i (some (.ex, .ob k ns vs)))) else .exc env' (.ob k ns vs)) else .no
    | .exc _ _ => .no
    | o => o)
  | _, _ => .no
def exs (g : G) (C : Cal) : Ss → Env → Out
  | .nil, env => .nx env
  | .cons s ss, env => match exS g C s env with
    | .nx env' => exs g C ss env'
    | o => o
end
/-- a def's run -/
def env0 (fd : FD) (ds : List D) : Env := ds.map (fun d => some (.sh, d)) ++ List.replicate (fd.ns - fd.np) none
def endR : Out → R OD
  | .nx _ => .ok (.sh, .non)
  | .ret o d => .ok (o, d)
  | .exc _ e => .exc e
  | _ => .no
def initName (c : Str) : Str := c ++ ⟨#[46, 95, 95, 105, 110, 105, 116, 95, 95]⟩
def endI : Out → R D
  | .nx (some (.oi, d) :: _) => .ok d
  | .exc _ e => .exc e
  | _ => .no
/-- a def that is called in an except suite, with the caught exception -/
def cal0 : Cal := ⟨fun _ _ => .no, fun _ _ => .no, false, fun _ _ => .no⟩
def hotR (g : G) (f : Str) (d : D) : R OD := match g.fn f with
  | some fd => if fd.np = 1 then endR (exs g cal0 fd.body (some (.ex, d) :: List.replicate (fd.ns - 1) none)) else .no
  | none => .no
def hotD (g : G) : Nat → Str → D → R OD
  | 0, _, _ => .no
  | _ + 1, f, d => (hotR g f d).tame
mutual
def callD (g : G) : Nat → Str → List D → R OD
  | 0, _, _ => .no
  | n + 1, f, ds => match g.fn f with
    | some fd => if ds.length = fd.np then endR (exs g ⟨callD g n, makeD g n, n != 0, hotD g n⟩ fd.body (env0 fd ds)) else .no
    | none => .no
def makeD (g : G) : Nat → Str → List D → R D
  | 0, _, _ => .no
  | 1, _, _ => .no
  | n + 2, c, ds => match g.fn (initName c) with
    | some fd => if ds.length + 1 = fd.np then endI (exs g ⟨callD g n, makeD g n, n != 0, hotD g n⟩ fd.body (some (.oi, .ob c [] []) :: (env0 fd (.non :: ds)).tail)) else .no
    | none => .no
end
def cal (g : G) (n : Nat) : Cal := ⟨callD g n, makeD g n, n != 0, hotD g n⟩
end S2

set_option maxHeartbeats 4000000
/-! S2aa: the table. -/
namespace S2
open PySem
structure Tb where
  fns : List (Str × FD)
  cons : List (Str × D)
  exs : List (Str × List Str × List Str)
  mths : List ((Str × Str) × Str)
  frs : List Str
  cls : List Str
  tops : List Str
  nfs : List Str
  hots : List Str := []
def Tb.g (t : Tb) : G where
  fn := fun x => t.fns.lookup x
  con := fun x => t.cons.lookup x
  exf := fun x => (t.exs.lookup x).map (·.1)
  sub := fun c d => match t.exs.lookup c with
    | some (_, up) => up.contains d
    | none => false
  mth := fun c m => t.mths.lookup (c, m)
  fr := fun x => t.frs.contains x
  cl := fun x => t.cls.contains x
  top := fun x => t.tops.contains x
  nf := fun x => t.nfs.contains x
  hf := fun x => t.hots.contains x
end S2

set_option maxHeartbeats 4000000
/-! S2ab: promises of defs that know that no repr is under way. -/
namespace S2
open PySem PySem.Spec PyProof.Rows L2

/-- no guarded built-in is under way -/
abbrev NoG (A : Around) : Prop := A.guards = some []
structure FnG (P : Program) (wd : World) (K : PySem.W.Frag) (mg : Str → Option Value) (base : Heap) (C : CXT) (k : Nat) (fa : Addr) (fdat : FuncData) (ps : List Str) (pr : Sp) : Prop where
  len : ∀ xs H Q E, pr xs H Q E → xs.length = ps.length
  run : ∀ (A : Around) (out : List PySem.Env) (s : Shared) (H : Hp) (ar : Args) (us : List Value) (xs : List V) (Q : VK) (E : XK), Room k A → NoG A → Env0 P wd K mg base A out s H →
    BindsTo s fdat ar (ps.zip us) → Vals xs us → pr xs H Q E → codeAny (model P wd) A (.call (.ref fa) ar) (CR C out P wd H s Q E) s
section
variable {P : Program} {wd : World} {K : PySem.W.Frag} {mg : Str → Option Value} {base : Heap} {C : CXT}
theorem FnG.mono {j k : Nat} {fa : Addr} {fdat : FuncData} {ps : List Str} {pr : Sp} (F : FnG P wd K mg base C j fa fdat ps pr) (h : j ≤ k) : FnG P wd K mg base C k fa fdat ps pr :=
  ⟨F.len, fun A out s H ar us xs Q E room ng en0 bnd => F.run A out s H ar us xs Q E (room.mono h) ng en0 bnd⟩
/-- a def of the program, from its body -/
theorem fnG_of {k : Nat} {fa : Addr} {nm ql : Str} {pars : Arguments} {bd : List Stmt} {sc : Scope} {d1 d2 d3 d4 cd d5 d6 : Value} {an od : Option Addr} {sl : Array (Option Value)} {N ps : List Str} {pr : Sp}
    (hk : K.lookup fa = some ⟨d6, od, .func (PySem.W.fnOf nm ql pars bd sc d1 d2 d3 d4 an cd d5), sl⟩) (hc : PySem.W.codeIn K cd ql = true) (S : FnScope N ps sc) (hlen : ∀ xs H Q E, pr xs H Q E → xs.length = ps.length)
    (hb : ∀ (A : Around) (out : List PySem.Env) (s : Shared) (H : Hp) (xs : List V) (Q : VK) (E : XK), Room k (A.deeper (envOfC ql sc s.heap.objs.size fa cd)) → NoG A → pr xs H Q E →
      ∃ t, PSs (cxOf C P wd K mg base N ql sc fa cd A out s H E) bd t ∧ t { nx := fun _ H2 => Q .non H2, rt := Q } (start N xs) H) :
    FnG P wd K mg base C (k + 1) fa (PySem.W.fnOf nm ql pars bd sc d1 d2 d3 d4 an cd d5) ps pr := by
  refine ⟨hlen, fun A out s H ar us xs Q E room ng en0 bnd rel hpr => ?_⟩
  have leq := hlen _ _ _ _ hpr
  have old : ∀ b o, base.get? b = some o → s.heap.get? b = some o := fun b o q => (en0.bs b o q).1
  have inK : K.In s.heap := en0.mod.kin.keeps old
  have lim : s.heap.NoLimit := en0.mod.nolimit.keeps old
  refine codeAny_call_function room.depth (inK _ _ hk) rfl S.co S.gen rfl (PySem.W.codeRec_of inK hc) (bnd _ _ _ _ (wpAny_newFunctionEnv_cells S.kind (fun y my => ?_) fun ev he s1 inc => ?_))
  · obtain ⟨y1, y2⟩ := y
    exact (S.par y1 (List.of_mem_zip my).1).imp id fun q => ⟨q, PySem.W.cellsFrom_some _ _ _ (.inl q)⟩
  · subst he
    refine ⟨lim.keeps inc.toInCall.keep, codeAny_func ?_⟩
    obtain ⟨t, ht, tq⟩ := hb A out s H xs Q E (room.deeper _) ng hpr
    refine wpAny_mono (ht.run [] s1 (start N xs) H _ (inv_start S room.hd en0 leq rel inc) tq) (fun fl s2 hs => ?_) fun _ _ hs => hs
    cases fl with
    | ret u => exact let ⟨v, _, H2, J, rv, q⟩ := hs; ⟨v, H2, J.os, J.bare, J.base, J.hok, rv, q⟩
    | next => exact let ⟨_, H2, J, q⟩ := hs; ⟨V.non, H2, J.os, J.bare, J.base, J.hok, rfl, q⟩
    | brk => exact let ⟨_, _, _, q⟩ := hs; q.elim
    | cont => exact let ⟨_, _, _, q⟩ := hs; q.elim
end
section
variable {X : Cx} {C : CXT} {k : Nat} {fa : Addr} {fdat : FuncData} {ps : List Str} {pr : Sp} {E : L2.St → XK}
theorem run_fnG {pins : List (Addr × Obj)} {σ : L2.St} {H : Hp} {s : Shared} {Q : VK} {us : List Value} {xs : List V} (F : FnG X.prog X.w X.K X.mg X.base C k fa fdat ps pr) (room : Room k X.A) (ng : NoG X.A) (bd : Binds X.K fdat ps []) (px : PassesAt C X σ (E σ))
    (I : Inv X pins σ H s) (rel : Vals xs us) (h : pr xs H Q (E σ)) : wpAny (model X.prog X.w) X.A (call (.ref fa) us) (EP X pins σ Q) X.xe s := by
  have leq : (us ++ []).length = ps.length := by rw [List.append_nil, ← rel.length]; exact F.len _ _ _ _ h
  have bnd := bd s us I.kIn leq
  rw [List.append_nil] at bnd
  refine wpAny_call (codeAny_mono (F.run X.A X.stack s H ⟨us, []⟩ us xs Q (E σ) room ng I.env0 bnd rel h) fun r s2 hq => ?_)
  match r, hq with
  | .error e, hq => exact px pins H s e s2 I hq
  | .ok (.ret u), hq => exact I.after hq
  | .ok .next, hq => exact hq.elim
  | .ok .brk, hq => exact hq.elim
  | .ok .cont, hq => exact hq.elim
def tCallG (pr : Sp) (E : L2.St → XK) (t : TA) : TE := fun σ H Q => t σ H fun xs H1 => pr xs H1 Q (E σ)
theorem pe_callG {x : Str} {p pos : Pos} {e : Expr} {es : List Expr} {t : TA} (F : FnG X.prog X.w X.K X.mg X.base C k fa fdat ps pr) (room : Room k X.A) (ng : NoG X.A) (gl : Gl X x) (mgx : X.mg x = some (.ref fa)) (kp : PySem.W.keepIn X.K (.ref fa) = true) (bd : Binds X.K fdat ps []) (px : ∀ σ, PassesAt C X σ (E σ))
    (ha : PA X (e :: es) t) (nd : (x == ("__debug__" : Str)) = false) (st : starEach (e :: es) X.env = (false, eval e X.env) :: starEach es X.env) (ns : (backTo pos (starEach es X.env)).any (·.1) = false) :
    PE X (.Call (.Name x p) (e :: es) [] pos) (tCallG pr E t) := ⟨fun pins s σ H Q I h =>
  wpAny_Call_Name_kw (ld_glob I gl mgx (PySem.W.callWith_K (h₀ := X.base) I.ok.mod.kin kp (thn (ha.run pos pins s σ H _ I h) fun us s1 ⟨xs, H1, I1, rel, q⟩ => ⟨I1.kIn, run_fnG F room ng bd (px σ) I1 rel q⟩) st ns) nd)⟩
end
/-- what a def promises that is called with the exception that is handled (p: its object) -/
abbrev SpH := Addr × Obj → List V → Hp → VK → Prop
structure FnHG (P : Program) (wd : World) (K : PySem.W.Frag) (mg : Str → Option Value) (base : Heap) (k : Nat) (fa : Addr) (fdat : FuncData) (ps : List Str) (pr : SpH) : Prop where
  len : ∀ p xs H Q, pr p xs H Q → xs.length = ps.length
  run : ∀ (A : Around) (out : List PySem.Env) (s : Shared) (H : Hp) (ar : Args) (us : List Value) (xs : List V) (Q : VK) (p : Addr × Obj), L2H.RoomH k A → NoG A → L2H.Hot1 A p → L2H.PinOk out H s p → Env0 P wd K mg base A out s H →
    BindsTo s fdat ar (ps.zip us) → Vals xs us → pr p xs H Q → codeAny (model P wd) A (.call (.ref fa) ar) (CR (L2N.CX P wd) out P wd H s Q fun _ _ _ => False) s
theorem mark_same {A : Around} {a : Addr} (h : A.handled = some (.ref a)) : A.mark (some (.ref a)) = A := by
  obtain ⟨hd, d, fr, gs, u⟩ := A
  cases (show hd = some (.ref a) from h)
  rfl
theorem fnHG_of {P : Program} {wd : World} {K : PySem.W.Frag} {mg : Str → Option Value} {base : Heap} {k : Nat} {fa : Addr} {nm ql : Str} {pars : Arguments} {bd : List Stmt} {sc : Scope} {d1 d2 d3 d4 cd d5 d6 : Value} {an od : Option Addr} {sl : Array (Option Value)} {N ps : List Str} {pr : SpH}
    (hk : K.lookup fa = some ⟨d6, od, .func (PySem.W.fnOf nm ql pars bd sc d1 d2 d3 d4 an cd d5), sl⟩) (hc : PySem.W.codeIn K cd ql = true) (S : FnScope N ps sc) (hlen : ∀ p xs H Q, pr p xs H Q → xs.length = ps.length)
    (hb : ∀ (A : Around) (out : List PySem.Env) (s : Shared) (H : Hp) (xs : List V) (Q : VK) (p : Addr × Obj), L2H.RoomH k (A.deeper (envOfC ql sc s.heap.objs.size fa cd)) → NoG A → L2H.Hot1 A p → pr p xs H Q →
      ∃ t, PSs ((L2H.cxH (L2N.CX P wd) P wd K mg base N ql sc fa cd A out s H (fun _ _ _ => False) p).suite p.1 [p]) bd t ∧ t { nx := fun _ H2 => Q .non H2, rt := Q } (start N xs) H) :
    FnHG P wd K mg base (k + 1) fa (PySem.W.fnOf nm ql pars bd sc d1 d2 d3 d4 an cd d5) ps pr := by
  refine ⟨hlen, fun A out s H ar us xs Q p room ng hot pin en0 bnd rel hpr => ?_⟩
  have leq := hlen _ _ _ _ hpr
  have old : ∀ b o, base.get? b = some o → s.heap.get? b = some o := fun b o q => (en0.bs b o q).1
  have inK : K.In s.heap := en0.mod.kin.keeps old
  have lim : s.heap.NoLimit := en0.mod.nolimit.keeps old
  refine codeAny_call_function room.depth (inK _ _ hk) rfl S.co S.gen rfl (PySem.W.codeRec_of inK hc) (bnd _ _ _ _ (wpAny_newFunctionEnv_cells S.kind (fun y my => ?_) fun ev he s1 inc => ?_))
  · obtain ⟨y1, y2⟩ := y
    exact (S.par y1 (List.of_mem_zip my).1).imp id fun q => ⟨q, PySem.W.cellsFrom_some _ _ _ (.inl q)⟩
  · subst he
    refine ⟨lim.keeps inc.toInCall.keep, codeAny_func ?_⟩
    obtain ⟨t, ht, tq⟩ := hb A out s H xs Q p (room.deeper _) ng hot hpr
    have em : (A.deeper (envOfC ql sc s.heap.objs.size fa cd)).mark (some (.ref p.1)) = A.deeper (envOfC ql sc s.heap.objs.size fa cd) := mark_same hot.1
    have I0 : Inv (L2H.cxH (L2N.CX P wd) P wd K mg base N ql sc fa cd A out s H (fun _ _ _ => False) p) [] (start N xs) H s1 := L2H.inv_startH S pin en0 leq rel inc
    have I1 := I0.wish fun _ _ => False
    have I2 : Inv ((L2H.cxH (L2N.CX P wd) P wd K mg base N ql sc fa cd A out s H (fun _ _ _ => False) p).suite p.1 [p]) [] (start N xs) H s1 := by
      have e2 : (L2H.cxH (L2N.CX P wd) P wd K mg base N ql sc fa cd A out s H (fun _ _ _ => False) p).suite p.1 [p] = (L2H.cxH (L2N.CX P wd) P wd K mg base N ql sc fa cd A out s H (fun _ _ _ => False) p).wish fun _ _ => False := by
        show ({ L2H.cxH (L2N.CX P wd) P wd K mg base N ql sc fa cd A out s H (fun _ _ _ => False) p with A := (A.deeper (envOfC ql sc s.heap.objs.size fa cd)).mark (some (.ref p.1)), calm := false, pn := [p], xe := fun _ _ => False } : Cx) = _
        rw [em]
        rfl
      rw [e2]
      exact I1
    have run := ht.run [] s1 (start N xs) H _ I2 tq
    have run : wpAny (model P wd) (A.deeper (envOfC ql sc s.heap.objs.size fa cd)) (execs bd (envOfC ql sc s.heap.objs.size fa cd)) (SP ((L2H.cxH (L2N.CX P wd) P wd K mg base N ql sc fa cd A out s H (fun _ _ _ => False) p).suite p.1 [p]) [] { nx := fun _ H2 => Q .non H2, rt := Q }) (fun _ _ => False) s1 := by
      rw [← em]
      exact run
    refine wpAny_mono run (fun fl s2 hs => ?_) fun _ _ hs => hs.elim
    cases fl with
    | ret u => exact let ⟨v, _, H2, J, rv, q⟩ := hs; ⟨v, H2, J.os, J.bare, J.base, J.hok, rv, q⟩
    | next => exact let ⟨_, H2, J, q⟩ := hs; ⟨V.non, H2, J.os, J.bare, J.base, J.hok, rfl, q⟩
    | brk => exact let ⟨_, _, _, q⟩ := hs; q.elim
    | cont => exact let ⟨_, _, _, q⟩ := hs; q.elim
/-- f(e) in an except suite -/
theorem pe_callHG {X : Cx} {k : Nat} {fa : Addr} {fdat : FuncData} {ps : List Str} {pr : SpH} {x : Str} {pos q : Pos} {e : Expr} {t : TE} {p : Addr × Obj} (F : FnHG X.prog X.w X.K X.mg X.base k fa fdat ps pr) (room : L2H.RoomH k X.A) (ng : NoG X.A) (hot : L2H.Hot1 X.A p) (hp : p ∈ X.pn) (gl : Gl X x) (mgx : X.mg x = some (.ref fa)) (kp : PySem.W.keepIn X.K (.ref fa) = true) (bd : Binds X.K fdat ps [])
    (he : PE X e t) (nd : (x == ("__debug__" : Str)) = false) (st : starEach [e] X.env = (false, eval e X.env) :: starEach [] X.env) :
    PE X (.Call (.Name x q) [e] [] pos) (fun σ H Q => t σ H fun y H1 => pr p [y] H1 Q) := ⟨fun pins s σ H Q I h => by
  refine wpAny_Call_Name_kw (ld_glob I gl mgx (PySem.W.callWith_K (h₀ := X.base) I.ok.mod.kin kp (thn ((pa_cons he pa_nil st).run pos pins s σ H (fun xs H1 => pr p xs H1 Q) I h) fun us s1 ⟨xs, H1, I1, rel, q⟩ => ⟨I1.kIn, ?_⟩) st (by rfl)) nd)
  have leq : us.length = ps.length := by rw [← rel.length]; exact F.len _ _ _ _ q
  have bnd := bd s1 us I1.kIn (by rw [List.append_nil]; exact leq)
  rw [List.append_nil] at bnd
  obtain ⟨P1, P2, P3, P4, P5⟩ := I1.pin p (List.mem_append_left _ hp)
  refine wpAny_call (codeAny_mono (F.run X.A X.stack s1 H1 ⟨us, []⟩ us xs Q p room ng hot ⟨P1, P2, fun z => (List.mem_cons.mp (I1.stkSub p.1 z)).elim P3 P4, P5⟩ I1.env0 bnd rel q) fun r s2 hq => ?_)
  match r, hq with
  | .error e, ⟨_, _, _, _, _, _, _, _, _, _, _, _, f⟩ => exact f.elim
  | .ok (.ret u), hq => exact I1.after hq
  | .ok .next, hq => exact hq.elim
  | .ok .brk, hq => exact hq.elim
  | .ok .cont, hq => exact hq.elim⟩
section
variable {P : Program} {wd : World} {K : PySem.W.Frag} {mg mb : Str → Option Value} {C : CXT}
/-- the script, as it is handed in -/
def scrH (a : Addr) (o : Obj) (ns : List Int) : Hp := fun b => if b = a then some (.frz o (.lst (ns.map V.int))) else none
/-- the law's own call -/
theorem law_callG {k : Nat} {fa a : Addr} {fdat : FuncData} {x : Str} {pr : Sp} {s₁ : Shared} {vs : List Value} {ns : List Int}
    (kin : K.In s₁.heap) (gns : s₁.heap.Ns mainGlobals mg) (bns : s₁.heap.Ns builtinsNs mb) (bbt : ∀ x : Str, x ≠ "__name__" → mb x = bootBuiltins x) (lim : s₁.heap.NoLimit) (gens : s₁.gens = #[])
    (obj : s₁.heap.get? a = some { cls := .type "list", data := .seq vs.toArray }) (intsA : IntsAre vs ns) (small : ns.length ≤ sizeLine) (room : Room k callerA)
    (F : ∀ base : Heap, K.In base → base.Ns mainGlobals mg → FnG P wd K mg base C k fa fdat [x] pr) (bnd : ∀ (s : Shared) (u : Value), BindsTo s fdat ⟨[u], []⟩ [(x, u)])
    (hpr : ∀ H : Hp, Only H → SqL K H a (ns.map V.int) → pr [.ref a] H (fun v _ => v = .bl true) fun _ _ _ => False)
    (noC : ∀ H e s', C [] H s₁ (fun _ _ _ => False) e s' → False) :
    codeAny (model P wd) callerA (.call (.ref fa) ⟨[.ref a], []⟩) (fun r s' => r = .ok (.ret (.bool true)) ∧ OldK s₁.heap s'.heap ∧ s'.os = s₁.os ∧ AllBare s'.gens) s₁ := by
  have rel := vals_ints intsA
  have lenV := intsA.length
  have main : ∀ H : Hp, Only H → SqL K H a (ns.map V.int) → HOk P wd H s₁.heap → (∀ b, H b ≠ none → b = a ∧ K.lookup a = none) →
      codeAny (model P wd) callerA (.call (.ref fa) ⟨[.ref a], []⟩) (fun r s' => r = .ok (.ret (.bool true)) ∧ OldK s₁.heap s'.heap ∧ s'.os = s₁.os ∧ AllBare s'.gens) s₁ := fun H only sq hok just => by
    have stay : ∀ {b : Addr} {o : Obj}, s₁.heap.get? b = some o → b ≠ a → (hidT s₁.heap H).get? b = some o := fun {b o} q nb => hidT_get q (by
      cases z : H b with
      | none => rfl
      | some u => exact absurd (just b (by rw [z]; simp)).1 nb)
    have nsS : ∀ {b : Addr} {m : Str → Option Value}, s₁.heap.Ns b m → (hidT s₁.heap H).Ns b m := fun {b m} ⟨o, es, ep, q, d, r⟩ => ⟨o, es, ep, stay q (fun z => by
      subst z
      rw [obj] at q; cases q
      cases (show Data.seq vs.toArray _ = Data.dict es ep from d)), d, r⟩
    have kinS : K.In (hidT s₁.heap H) := fun b o q => hidT_get (kin b o q) (by
      cases z : H b with
      | none => rfl
      | some u =>
        obtain ⟨e1, e2⟩ := just b (by rw [z]; simp)
        subst e1
        rw [e2] at q; cases q)
    have md : Mod K mg (hidT s₁.heap H) := ⟨kinS, nsS gns, ⟨mb, nsS bns, bbt⟩, let ⟨mc, q1, q2⟩ := lim; ⟨mc, nsS q1, q2⟩⟩
    have en0 : Env0 P wd K mg (hidT s₁.heap H) callerA [] s₁ H := ⟨rfl, md, fun b o q => of_hidT q, Nat.le_of_eq (hidT_size _ _), trivial, fun b hb => (nomatch (show b ∈ ([] : List Addr) from hb)), hok, .of_eq gens⟩
    refine codeAny_mono ((F _ kinS (nsS gns)).run callerA [] s₁ H ⟨[.ref a], []⟩ [.ref a] [.ref a] _ _ room rfl en0 (bnd s₁ (.ref a)) (.cons rfl .nil) (hpr H only sq)) fun r s' h => ?_
    match r, h with
    | .error e, h => exact (noC H e s' h).elim
    | .ok .next, h => exact h.elim
    | .ok .brk, h => exact h.elim
    | .ok .cont, h => exact h.elim
    | .ok (.ret u), h =>
      obtain ⟨v, H', os, bare, un, hok', rv, q⟩ := h
      cases (show v = .bl true from q)
      cases (show u = Value.bool true from rv)
      refine ⟨rfl, OldK.of_keep fun b o e => ?_, os, bare⟩
      have nob : b ∉ ([] : List Addr) := fun z => nomatch z
      rcases only b with z | ⟨ob, ys, z⟩
      · exact un.keep b o e z nob nob
      · have e1 := (hok b _ z).1
        rw [e] at e1
        cases e1
        exact (hok' b _ (un.frzs b _ _ z)).1
  cases hk : K.lookup a with
  | some o =>
    have q := kin a o hk
    rw [obj] at q
    cases q
    exact main (fun _ => none) (fun _ => .inl rfl) (.inr ⟨_, vs.toArray, _, hk, rfl, rfl, rfl, by rw [List.size_toArray, lenV]; exact small, by simpa using rel⟩) (fun b u z => nomatch (show (none : Option HO) = some u from z)) fun b z => (z rfl).elim
  | none =>
    have at_ : scrH a { cls := .type "list", data := .seq vs.toArray } ns a = some (.frz { cls := .type "list", data := .seq vs.toArray } (.lst (ns.map V.int))) := if_pos rfl
    have off : ∀ b, b ≠ a → scrH a { cls := .type "list", data := .seq vs.toArray } ns b = none := fun b nb => if_neg nb
    refine main (scrH a { cls := .type "list", data := .seq vs.toArray } ns) (fun b => ?_) (.inl (.inr ⟨_, at_⟩)) (fun b u z => ?_) fun b z => ⟨Classical.byContradiction fun nb => z (off b nb), hk⟩
    · by_cases nb : b = a
      · subst nb; exact .inr ⟨_, _, at_⟩
      · exact .inl (off b nb)
    · by_cases nb : b = a
      · subst nb
        rw [at_] at z
        cases z
        exact ⟨obj, by rw [List.length_map]; exact small, vs, _, rel, obj⟩
      · rw [off b nb] at z; cases z
/-- the law's walk -/
theorem walk_ofG {l : PySem.W.OpenLaw} {n k : Nat} {q : Program} {loose : List Str} {XP : (Str → Option Value) → Heap → Prop} {YP : World → Heap → Prop} {d : DefRec} {C : CXT} {x : Str}
    (most : l.most = some n) (small : n ≤ sizeLine) (nodf : d.params.defaults = []) (room : Room k callerA)
    (F : ∀ (wd : World) (mg : Str → Option Value) (fa : Addr) (h : Heap), YP wd h → h.Ns mainGlobals mg → mg d.name = some (.ref fa) →
      ∃ (K : PySem.W.Frag) (fdat : FuncData) (pr : Sp), K.In h ∧ (∀ (s : Shared) (u : Value), BindsTo s fdat ⟨[u], []⟩ [(x, u)]) ∧
        (∀ (H : Hp) (a : Addr) (ns : List Int), ns.length ≤ n → Only H → SqL K H a (ns.map V.int) → pr [.ref a] H (fun v _ => v = .bl true) fun _ _ _ => False) ∧
        ∀ base : Heap, K.In base → base.Ns mainGlobals mg → FnG l.prog wd K mg base C k fa fdat [x] pr)
    (noC : ∀ (H : Hp) (s : Shared) (e : Value) (s' : Shared), C [] H s (fun _ _ _ => False) e s' → False) :
    PySem.W.WalkO q loose XP YP l.row.toRowW d [] (fun f vs => PySem.call f vs) := by
  refine Att.attach_call most nodf fun wd s₀ s₁ mg mb fa o pm cd doc a vs ns Gr Y _ _ _ mgd obj intsA len gens => ?_
  obtain ⟨K, fdat, pr, kin, bnd, hpr, hF⟩ := F wd mg fa _ Y Gr.T.g mgd
  exact law_callG kin Gr.T.g Gr.T.b Gr.T.builtins Gr.T.nolimit gens obj intsA (Nat.le_trans len small) room hF bnd (fun H only sq => hpr H a ns len only sq) fun H e s' => noC H s₁ e s'
end
end S2

set_option maxHeartbeats 4000000
/-! S2b: what of the model's heap a datum is. -/
namespace S2
open PySem PySem.Spec PyProof.Rows L2

def KL (K : PySem.W.Frag) (a : Addr) (xs : List V) : Prop :=
  ∃ (o : Obj) (its : Array Value) (n : Nat), K.lookup a = some o ∧ o.cls = .type "list" ∧ o.dict = none ∧ o.data = .seq its n ∧ its.size ≤ sizeLine ∧ Vals xs its.toList
def keyD : Key → D
  | .inl i => .int i
  | .inr x => .str x
/-- the exception that an except suite holds -/
structure XI where
  a : Addr
  cls : Value
  dd : Option Addr
structure Wr where
  K : PySem.W.Frag
  ca : Str → Addr
  cl : Str → Bool
  xi : XI := ⟨0, .none, none⟩
/-- with that exception held -/
def Wr.at_ (w : Wr) (z : XI) : Wr := ⟨w.K, w.ca, w.cl, z⟩
mutual
/-- v stands for the datum; no list, dict or instance of it is one of O's -/
def Rep (w : Wr) (H : Hp) (O : Addr → Prop) : D → V → Prop
  | .non, v => v = .non
  | .bl b, v => v = .bl b
  | .int i, v => v = .int i
  | .str s, v => v = .str s
  | .scr is, v => ∃ a, v = .ref a ∧ ((∃ o, H a = some (.frz o (.lst (is.map V.int)))) ∨ KL w.K a (is.map V.int))
  | .tup l, v => ∃ a vs, v = .ref a ∧ SqT w.K H a vs ∧ Reps w H O l vs
  | .lst l, v => ∃ a vs, v = .ref a ∧ H a = some (.lst vs) ∧ ¬ O a ∧ Reps w H O l vs
  | .dct ks ds, v => ∃ a, v = .ref a ∧ ¬ O a ∧
      ((∃ kvs : List (Key × V), H a = some (.dK kvs) ∧ ks = kvs.map (fun p => keyD p.1) ∧ Reps w H O ds (kvs.map (·.2))) ∨
       (∃ kvs : List (List Key × V), H a = some (.dT kvs) ∧ ks = kvs.map (fun p => .tup (p.1.map keyD)) ∧ Reps w H O ds (kvs.map (·.2))))
  | .ob c ns ds, v => ∃ a dx fs, v = .ref a ∧ H a = some (.ins (w.ca c) dx fs) ∧ ¬ O a ∧ (w.cl c = true ∧ fs.map (·.1) = ns) ∧ Reps w H O ds (fs.map (·.2))
def Reps (w : Wr) (H : Hp) (O : Addr → Prop) : List D → List V → Prop
  | [], vs => vs = []
  | d :: l, vs => ∃ v r, vs = v :: r ∧ Rep w H O d v ∧ Reps w H O l r
end

/-- the same, the list or the dict itself left out of what is kept off -/
def RepK (w : Wr) (H : Hp) (O : Addr → Prop) : D → V → Prop
  | .lst l, v => ∃ a vs, v = .ref a ∧ H a = some (.lst vs) ∧ Reps w H O l vs
  | .dct ks ds, v => ∃ a, v = .ref a ∧
      ((∃ kvs : List (Key × V), H a = some (.dK kvs) ∧ ks = kvs.map (fun p => keyD p.1) ∧ Reps w H O ds (kvs.map (·.2))) ∨
       (∃ kvs : List (List Key × V), H a = some (.dT kvs) ∧ ks = kvs.map (fun p => .tup (p.1.map keyD)) ∧ Reps w H O ds (kvs.map (·.2))))
  | .ob c ns ds, v => ∃ a dx fs, v = .ref a ∧ H a = some (.ins (w.ca c) dx fs) ∧ (w.cl c = true ∧ fs.map (·.1) = ns) ∧ Reps w H O ds (fs.map (·.2))
  | d, v => Rep w H O d v
section
variable {w : Wr} {H H' : Hp} {O O' : Addr → Prop}
theorem Rep.k : ∀ {d : D} {v : V}, Rep w H O d v → RepK w H O d v
  | .non, _, h => h
  | .bl _, _, h => h
  | .int _, _, h => h
  | .str _, _, h => h
  | .scr _, _, h => h
  | .tup _, _, h => h
  | .lst _, _, ⟨a, vs, e, h, _, r⟩ => ⟨a, vs, e, h, r⟩
  | .dct _ _, _, ⟨a, e, _, h⟩ => ⟨a, e, h⟩
  | .ob _ _ _, _, ⟨a, dx, fs, e, h, _, k, r⟩ => ⟨a, dx, fs, e, h, k, r⟩
theorem Rd.same {a : Addr} {u : HO} (s : Same H H') (r : Rd H a u) : Rd H' a u := by
  rcases r with r | ⟨o, r⟩
  · exact .inl (s _ _ r)
  · exact .inr ⟨o, s _ _ r⟩
theorem SqT.same {K : PySem.W.Frag} {a : Addr} {xs : List V} (s : Same H H') (h : SqT K H a xs) : SqT K H' a xs := by
  rcases h with h | h
  · exact .inl (Rd.same s h)
  · exact .inr h
mutual
theorem Rep.same (s : Same H H') : ∀ (d : D) (v : V), Rep w H O d v → Rep w H' O d v
  | .non, _, h => h
  | .bl _, _, h => h
  | .int _, _, h => h
  | .str _, _, h => h
  | .scr _, _, ⟨a, e, h⟩ => ⟨a, e, h.imp (fun ⟨o, q⟩ => ⟨o, s _ _ q⟩) id⟩
  | .tup l, _, ⟨a, vs, e, h, r⟩ => ⟨a, vs, e, SqT.same s h, Reps.same s l vs r⟩
  | .lst l, _, ⟨a, vs, e, h, n, r⟩ => ⟨a, vs, e, s _ _ h, n, Reps.same s l vs r⟩
  | .dct _ ds, _, ⟨a, e, n, h⟩ => ⟨a, e, n, h.imp (fun ⟨kvs, q, k, r⟩ => ⟨kvs, s _ _ q, k, Reps.same s ds _ r⟩) (fun ⟨kvs, q, k, r⟩ => ⟨kvs, s _ _ q, k, Reps.same s ds _ r⟩)⟩
  | .ob _ _ ds, _, ⟨a, dx, fs, e, h, n, k, r⟩ => ⟨a, dx, fs, e, s _ _ h, n, k, Reps.same s ds _ r⟩
theorem Reps.same (s : Same H H') : ∀ (l : List D) (vs : List V), Reps w H O l vs → Reps w H' O l vs
  | [], _, h => h
  | d :: l, _, ⟨v, r, e, h, hr⟩ => ⟨v, r, e, Rep.same s d v h, Reps.same s l r hr⟩
end
theorem RepK.same (s : Same H H') : ∀ (d : D) (v : V), RepK w H O d v → RepK w H' O d v
  | .non, _, h => h
  | .bl _, _, h => h
  | .int _, _, h => h
  | .str _, _, h => h
  | .scr l, v, h => Rep.same (O := O) s (.scr l) v h
  | .tup l, v, h => Rep.same s (.tup l) v h
  | .lst l, _, ⟨a, vs, e, h, r⟩ => ⟨a, vs, e, s _ _ h, Reps.same s l vs r⟩
  | .dct _ ds, _, ⟨a, e, h⟩ => ⟨a, e, h.imp (fun ⟨kvs, q, k, r⟩ => ⟨kvs, s _ _ q, k, Reps.same s ds _ r⟩) (fun ⟨kvs, q, k, r⟩ => ⟨kvs, s _ _ q, k, Reps.same s ds _ r⟩)⟩
  | .ob _ _ ds, _, ⟨a, dx, fs, e, h, k, r⟩ => ⟨a, dx, fs, e, s _ _ h, k, Reps.same s ds _ r⟩
mutual
theorem Rep.mono (s : ∀ a, O' a → O a) : ∀ (d : D) (v : V), Rep w H O d v → Rep w H O' d v
  | .non, _, h => h
  | .bl _, _, h => h
  | .int _, _, h => h
  | .str _, _, h => h
  | .scr _, _, h => h
  | .tup l, _, ⟨a, vs, e, h, r⟩ => ⟨a, vs, e, h, Reps.mono s l vs r⟩
  | .lst l, _, ⟨a, vs, e, h, n, r⟩ => ⟨a, vs, e, h, fun z => n (s _ z), Reps.mono s l vs r⟩
  | .dct _ ds, _, ⟨a, e, n, h⟩ => ⟨a, e, fun z => n (s _ z), h.imp (fun ⟨kvs, q, k, r⟩ => ⟨kvs, q, k, Reps.mono s ds _ r⟩) (fun ⟨kvs, q, k, r⟩ => ⟨kvs, q, k, Reps.mono s ds _ r⟩)⟩
  | .ob _ _ ds, _, ⟨a, dx, fs, e, h, n, k, r⟩ => ⟨a, dx, fs, e, h, fun z => n (s _ z), k, Reps.mono s ds _ r⟩
theorem Reps.mono (s : ∀ a, O' a → O a) : ∀ (l : List D) (vs : List V), Reps w H O l vs → Reps w H O' l vs
  | [], _, h => h
  | d :: l, _, ⟨v, r, e, h, hr⟩ => ⟨v, r, e, Rep.mono s d v h, Reps.mono s l r hr⟩
end
/-- a list or a dict stands there -/
def IsLD : Option HO → Prop
  | some (.lst _) => True
  | some (.dK _) => True
  | some (.dT _) => True
  | _ => False
mutual
theorem Rep.up (s : ∀ a, O' a → O a ∨ IsLD (H a)) : ∀ (d : D) (v : V), hasL d = false → Rep w H O d v → Rep w H O' d v
  | .non, _, _, h => h
  | .bl _, _, _, h => h
  | .int _, _, _, h => h
  | .str _, _, _, h => h
  | .scr _, _, _, h => h
  | .tup l, _, z, ⟨a, vs, e, h, r⟩ => ⟨a, vs, e, h, Reps.up s l vs z r⟩
  | .lst l, _, z, _ => Bool.noConfusion z
  | .dct _ ds, _, z, _ => Bool.noConfusion z
  | .ob _ _ ds, _, z, ⟨a, dx, fs, e, h, n, k, r⟩ => ⟨a, dx, fs, e, h, fun q => (s _ q).elim n (fun y => by rw [h] at y; exact y), k, Reps.up s ds _ z r⟩
theorem Reps.up (s : ∀ a, O' a → O a ∨ IsLD (H a)) : ∀ (l : List D) (vs : List V), hasLs l = false → Reps w H O l vs → Reps w H O' l vs
  | [], _, _, h => h
  | d :: l, _, z, ⟨v, r, e, h, hr⟩ => by
    have z1 : hasL d = false ∧ hasLs l = false := by
      have z' : (hasL d || hasLs l) = false := z
      exact Bool.or_eq_false_iff.mp z'
    exact ⟨v, r, e, Rep.up s d v z1.1 h, Reps.up s l r z1.2 hr⟩
end
/-- an object of O's is written -/
theorem nep {α : Type} {f : Addr → α} {a p : Addr} {x : α} (hx : f a = x) (hp : f p ≠ x) : a ≠ p := fun e => hp (by rw [← e]; exact hx)
theorem neO {O : Addr → Prop} {a p : Addr} (n : ¬ O a) (op : O p) : a ≠ p := fun e => n (by rw [e]; exact op)
theorem Rd.write {a p : Addr} {u o : HO} (hp : H p ≠ some u) (hf : ∀ ob, H p ≠ some (.frz ob u)) (r : Rd H a u) : Rd (upd H p o) a u := by
  rcases r with r | ⟨ob, r⟩
  · exact .inl (by rw [upd_ne (nep r hp)]; exact r)
  · exact .inr ⟨ob, by rw [upd_ne (nep r (hf ob))]; exact r⟩
def Wrt (x : Option HO) : Prop := Mut x
theorem Mut.notTup {x : Option HO} (m : Mut x) (xs : List V) : x ≠ some (.tup xs) := by
  intro e; subst e; exact m
theorem Mut.notFrz {x : Option HO} (m : Mut x) (ob : Obj) (u : HO) : x ≠ some (.frz ob u) := by
  intro e; subst e; exact m
mutual
theorem Rep.write {p : Addr} {o : HO} (op : O p) (m : Mut (H p)) : ∀ (d : D) (v : V), Rep w H O d v → Rep w (upd H p o) O d v
  | .non, _, h => h
  | .bl _, _, h => h
  | .int _, _, h => h
  | .str _, _, h => h
  | .scr _, _, ⟨a, e, h⟩ => ⟨a, e, h.imp (fun ⟨ob, q⟩ => ⟨ob, by rw [upd_ne (nep q (Mut.notFrz m _ _))]; exact q⟩) id⟩
  | .tup l, _, ⟨a, vs, e, h, r⟩ => ⟨a, vs, e, h.imp (fun q => Rd.write (Mut.notTup m _) (fun ob => Mut.notFrz m ob _) q) id, Reps.write op m l vs r⟩
  | .lst l, _, ⟨a, vs, e, h, n, r⟩ => ⟨a, vs, e, by rw [upd_ne (neO n op)]; exact h, n, Reps.write op m l vs r⟩
  | .dct _ ds, _, ⟨a, e, n, h⟩ => ⟨a, e, n, h.imp (fun ⟨kvs, q, k, r⟩ => ⟨kvs, by rw [upd_ne (neO n op)]; exact q, k, Reps.write op m ds _ r⟩) (fun ⟨kvs, q, k, r⟩ => ⟨kvs, by rw [upd_ne (neO n op)]; exact q, k, Reps.write op m ds _ r⟩)⟩
  | .ob _ _ ds, _, ⟨a, dx, fs, e, h, n, k, r⟩ => ⟨a, dx, fs, e, by rw [upd_ne (neO n op)]; exact h, n, k, Reps.write op m ds _ r⟩
theorem Reps.write {p : Addr} {o : HO} (op : O p) (m : Mut (H p)) : ∀ (l : List D) (vs : List V), Reps w H O l vs → Reps w (upd H p o) O l vs
  | [], _, h => h
  | d :: l, _, ⟨v, r, e, h, hr⟩ => ⟨v, r, e, Rep.write op m d v h, Reps.write op m l r hr⟩
end

mutual
/-- more is kept off: what is not there yet -/
theorem Rep.wide (s : ∀ a, O' a → O a ∨ H a = none) : ∀ (d : D) (v : V), Rep w H O d v → Rep w H O' d v
  | .non, _, h => h
  | .bl _, _, h => h
  | .int _, _, h => h
  | .str _, _, h => h
  | .scr _, _, h => h
  | .tup l, _, ⟨a, vs, e, h, r⟩ => ⟨a, vs, e, h, Reps.wide s l vs r⟩
  | .lst l, _, ⟨a, vs, e, h, n, r⟩ => ⟨a, vs, e, h, fun z => (s _ z).elim n (fun y => by rw [h] at y; cases y), Reps.wide s l vs r⟩
  | .dct _ ds, _, ⟨a, e, n, h⟩ => ⟨a, e, fun z => (s _ z).elim n (fun y => by rcases h with ⟨_, q, _⟩ | ⟨_, q, _⟩ <;> (rw [q] at y; cases y)), h.imp (fun ⟨kvs, q, k, r⟩ => ⟨kvs, q, k, Reps.wide s ds _ r⟩) (fun ⟨kvs, q, k, r⟩ => ⟨kvs, q, k, Reps.wide s ds _ r⟩)⟩
  | .ob _ _ ds, _, ⟨a, dx, fs, e, h, n, k, r⟩ => ⟨a, dx, fs, e, h, fun z => (s _ z).elim n (fun y => by rw [h] at y; cases y), k, Reps.wide s ds _ r⟩
theorem Reps.wide (s : ∀ a, O' a → O a ∨ H a = none) : ∀ (l : List D) (vs : List V), Reps w H O l vs → Reps w H O' l vs
  | [], _, h => h
  | d :: l, _, ⟨v, r, e, h, hr⟩ => ⟨v, r, e, Rep.wide s d v h, Reps.wide s l r hr⟩
end
theorem RepK.wide (s : ∀ a, O' a → O a ∨ H a = none) : ∀ (d : D) (v : V), RepK w H O d v → RepK w H O' d v
  | .non, _, h => h
  | .bl _, _, h => h
  | .int _, _, h => h
  | .str _, _, h => h
  | .scr l, v, h => h
  | .tup l, v, h => Rep.wide s (.tup l) v h
  | .lst l, _, ⟨a, vs, e, h, r⟩ => ⟨a, vs, e, h, Reps.wide s l vs r⟩
  | .dct _ ds, _, ⟨a, e, h⟩ => ⟨a, e, h.imp (fun ⟨kvs, q, k, r⟩ => ⟨kvs, q, k, Reps.wide s ds _ r⟩) (fun ⟨kvs, q, k, r⟩ => ⟨kvs, q, k, Reps.wide s ds _ r⟩)⟩
  | .ob _ _ ds, _, ⟨a, dx, fs, e, h, k, r⟩ => ⟨a, dx, fs, e, h, k, Reps.wide s ds _ r⟩
def isLD : D → Bool
  | .lst _ => true
  | .dct _ _ => true
  | _ => false
/-- lists, at qs -/
def Kids (w : Wr) (H : Hp) (O : Addr → Prop) : List D → List Addr → Prop
  | [], qs => qs = []
  | d :: l, qs => ∃ m q r us, d = .lst m ∧ qs = q :: r ∧ H q = some (.lst us) ∧ Reps w H O m us ∧ Kids w H O l r
theorem Kids.same (s : Same H H') : ∀ {l : List D} {qs : List Addr}, Kids w H O l qs → Kids w H' O l qs
  | [], _, h => h
  | _ :: _, _, ⟨m, q, r, us, e, e2, h, hr, t⟩ => ⟨m, q, r, us, e, e2, s _ _ h, Reps.same s _ _ hr, Kids.same s t⟩
theorem Kids.wide (s : ∀ a, O' a → O a ∨ H a = none) : ∀ {l : List D} {qs : List Addr}, Kids w H O l qs → Kids w H O' l qs
  | [], _, h => h
  | _ :: _, _, ⟨m, q, r, us, e, e2, h, hr, t⟩ => ⟨m, q, r, us, e, e2, h, Reps.wide s _ _ hr, Kids.wide s t⟩
theorem Kids.write {p : Addr} {o : HO} (op : O p) (mu : Mut (H p)) : ∀ {l : List D} {qs : List Addr}, p ∉ qs → Kids w H O l qs → Kids w (upd H p o) O l qs
  | [], _, _, h => h
  | _ :: _, _, n, ⟨m, q, r, us, e, e2, h, hr, t⟩ => ⟨m, q, r, us, e, e2, by rw [upd_ne (fun z => n (by rw [e2, z]; exact List.mem_cons_self))]; exact h, Reps.write op mu _ _ hr, Kids.write op mu (fun z => n (by rw [e2]; exact List.mem_cons_of_mem _ z)) t⟩
theorem Kids.there : ∀ {l : List D} {qs : List Addr}, Kids w H O l qs → ∀ q ∈ qs, ∃ us, H q = some (.lst us)
  | [], _, h, q, m => by rw [show _ = [] from h] at m; simp at m
  | _ :: _, _, ⟨_, q, r, us, _, e2, h, _, t⟩, q', m => by
    rw [e2] at m
    rcases List.mem_cons.mp m with z | z
    · exact ⟨us, by rw [z]; exact h⟩
    · exact Kids.there t q' z
theorem Kids.reps (n : ∀ q, O' q → O q) : ∀ {l : List D} {qs : List Addr}, (∀ q ∈ qs, ¬ O' q) → Kids w H O l qs → Reps w H O' l (qs.map V.ref)
  | [], _, _, h => by rw [show _ = [] from h]; rfl
  | _ :: _, _, k, ⟨m, q, r, us, e, e2, h, hr, t⟩ => by
    subst e; subst e2
    exact ⟨.ref q, r.map V.ref, rfl, ⟨q, us, rfl, h, k q List.mem_cons_self, Reps.mono n _ _ hr⟩, Kids.reps n (fun x z => k x (List.mem_cons_of_mem _ z)) t⟩
theorem Kids.append : ∀ {l m : List D} {qs rs : List Addr}, Kids w H O l qs → Kids w H O m rs → Kids w H O (l ++ m) (qs ++ rs)
  | [], _, _, _, h, k => by rw [show _ = [] from h]; exact k
  | _ :: _, m', _, rs, ⟨m, q, r, us, e, e2, h, hr, t⟩, k => ⟨m, q, r ++ rs, us, e, by rw [e2]; rfl, h, hr, Kids.append t k⟩
theorem Reps.length : ∀ {l : List D} {vs : List V}, Reps w H O l vs → l.length = vs.length
  | [], _, h => by rw [show _ = [] from h]; rfl
  | _ :: _, _, ⟨_, _, e, _, hr⟩ => by rw [e, List.length_cons, List.length_cons, Reps.length hr]
theorem Reps.get : ∀ {l : List D} {vs : List V} {i : Nat} {d : D}, Reps w H O l vs → l[i]? = some d → ∃ v, vs[i]? = some v ∧ Rep w H O d v
  | [], _, _, _, _, h => by simp at h
  | d :: l, _, 0, _, ⟨v, r, e, h, _⟩, q => by
    have : d = _ := Option.some.inj q
    subst this; subst e
    exact ⟨v, rfl, h⟩
  | _ :: l, _, i + 1, d, ⟨v, r, e, _, hr⟩, q => by
    subst e
    exact Reps.get (i := i) hr q
theorem Reps.get' : ∀ {l : List D} {vs : List V} {i : Nat} {v : V}, Reps w H O l vs → vs[i]? = some v → ∃ d, l[i]? = some d ∧ Rep w H O d v
  | [], _, _, _, h, q => by rw [show _ = [] from h] at q; simp at q
  | d :: l, _, 0, _, ⟨v, r, e, h, _⟩, q => by
    subst e
    have : v = _ := Option.some.inj q
    subst this
    exact ⟨d, rfl, h⟩
  | _ :: l, _, i + 1, v, ⟨_, r, e, _, hr⟩, q => by
    subst e
    exact Reps.get' (i := i) hr q
theorem Reps.append : ∀ {l m : List D} {vs us : List V}, Reps w H O l vs → Reps w H O m us → Reps w H O (l ++ m) (vs ++ us)
  | [], _, _, _, h, k => by rw [show _ = [] from h]; exact k
  | d :: l, m, _, us, ⟨v, r, e, h, hr⟩, k => ⟨v, r ++ us, by rw [e]; rfl, h, Reps.append hr k⟩
theorem Reps.one {d : D} {v : V} (h : Rep w H O d v) : Reps w H O [d] [v] := ⟨v, [], rfl, h, rfl⟩
theorem Reps.take : ∀ {l : List D} {vs : List V} (n : Nat), Reps w H O l vs → Reps w H O (l.take n) (vs.take n)
  | _, _, 0, _ => by simp [Reps]
  | [], _, n + 1, h => by rw [show _ = [] from h]; simp [Reps]
  | d :: l, _, n + 1, ⟨v, r, e, h, hr⟩ => by subst e; exact ⟨v, r.take n, rfl, h, Reps.take n hr⟩
theorem Reps.drop : ∀ {l : List D} {vs : List V} (n : Nat), Reps w H O l vs → Reps w H O (l.drop n) (vs.drop n)
  | _, _, 0, h => h
  | [], _, n + 1, h => by rw [show _ = [] from h]; simp [Reps]
  | d :: l, _, n + 1, ⟨v, r, e, h, hr⟩ => by subst e; exact Reps.drop n hr
theorem Reps.set : ∀ {l : List D} {vs : List V} (n : Nat) {d : D} {v : V}, Reps w H O l vs → Rep w H O d v → Reps w H O (l.set n d) (vs.set n v)
  | [], _, n, _, _, h, _ => by rw [show _ = [] from h]; simp [Reps]
  | _ :: l, _, 0, d, v, ⟨_, r, e, _, hr⟩, k => by subst e; exact ⟨v, r, rfl, k, hr⟩
  | _ :: l, _, n + 1, d, v, ⟨_, r, e, h, hr⟩, k => by subst e; exact ⟨_, _, rfl, h, Reps.set n hr k⟩
theorem Reps.reverse : ∀ {l : List D} {vs : List V}, Reps w H O l vs → Reps w H O l.reverse vs.reverse
  | [], _, h => by rw [show _ = [] from h]; simp [Reps]
  | d :: l, _, ⟨v, r, e, h, hr⟩ => by
    subst e
    rw [List.reverse_cons, List.reverse_cons]
    exact Reps.append (Reps.reverse hr) (Reps.one h)
theorem Reps.erase : ∀ {l : List D} {vs : List V} (n : Nat), Reps w H O l vs → Reps w H O (l.eraseIdx n) (vs.eraseIdx n)
  | [], _, n, h => by rw [show _ = [] from h]; simp [Reps]
  | _ :: l, _, 0, ⟨_, r, e, _, hr⟩ => by subst e; exact hr
  | _ :: l, _, n + 1, ⟨_, r, e, h, hr⟩ => by subst e; exact ⟨_, _, rfl, h, Reps.erase n hr⟩
theorem Reps.flat : ∀ (k : Nat) {l : List D} {vs : List V}, Reps w H O l vs → Reps w H O (List.replicate k l).flatten (List.replicate k vs).flatten
  | 0, _, _, _ => by simp [Reps]
  | k + 1, _, _, h => by
    rw [List.replicate_succ, List.replicate_succ, List.flatten_cons, List.flatten_cons]
    exact Reps.append h (Reps.flat k h)
theorem Reps.ints : ∀ {is : List Int} {vs : List V}, Reps w H O (is.map D.int) vs → vs = is.map V.int
  | [], _, h => h
  | i :: is, _, ⟨v, r, e, h, hr⟩ => by
    subst e
    rw [show v = V.int i from h, Reps.ints hr, List.map_cons]
theorem Reps.strs : ∀ {is : List Str} {vs : List V}, Reps w H O (is.map D.str) vs → vs = is.map V.str
  | [], _, h => h
  | i :: is, _, ⟨v, r, e, h, hr⟩ => by
    subst e
    rw [show v = V.str i from h, Reps.strs hr, List.map_cons]
theorem Reps.bls : ∀ {is : List Bool} {vs : List V}, Reps w H O (is.map D.bl) vs → vs = is.map V.bl
  | [], _, h => h
  | i :: is, _, ⟨v, r, e, h, hr⟩ => by
    subst e
    rw [show v = V.bl i from h, Reps.bls hr, List.map_cons]
theorem Reps.of_ints : ∀ (is : List Int), Reps w H O (is.map D.int) (is.map V.int)
  | [] => rfl
  | i :: is => ⟨.int i, _, rfl, rfl, Reps.of_ints is⟩
theorem Reps.of_strs : ∀ (is : List Str), Reps w H O (is.map D.str) (is.map V.str)
  | [] => rfl
  | i :: is => ⟨.str i, _, rfl, rfl, Reps.of_strs is⟩
theorem intsOf_eq : ∀ {l : List D} {is : List Int}, intsOf l = some is → l = is.map D.int
  | [], is, h => by cases h; rfl
  | .int i :: l, is, h => by
    cases e : intsOf l with
    | none => simp [intsOf, e] at h
    | some js =>
      simp [intsOf, e] at h
      subst h
      rw [intsOf_eq e]; rfl
  | .non :: _, _, h => by simp [intsOf] at h
  | .bl _ :: _, _, h => by simp [intsOf] at h
  | .str _ :: _, _, h => by simp [intsOf] at h
  | .tup _ :: _, _, h => by simp [intsOf] at h
  | .lst _ :: _, _, h => by simp [intsOf] at h
  | .dct _ _ :: _, _, h => by simp [intsOf] at h
  | .scr _ :: _, _, h => by simp [intsOf] at h
  | .ob _ _ _ :: _, _, h => by simp [intsOf] at h
theorem strsOf_eq : ∀ {l : List D} {is : List Str}, strsOf l = some is → l = is.map D.str
  | [], is, h => by cases h; rfl
  | .str i :: l, is, h => by
    cases e : strsOf l with
    | none => simp [strsOf, e] at h
    | some js =>
      simp [strsOf, e] at h
      subst h
      rw [strsOf_eq e]; rfl
  | .non :: _, _, h => by simp [strsOf] at h
  | .bl _ :: _, _, h => by simp [strsOf] at h
  | .int _ :: _, _, h => by simp [strsOf] at h
  | .tup _ :: _, _, h => by simp [strsOf] at h
  | .lst _ :: _, _, h => by simp [strsOf] at h
  | .dct _ _ :: _, _, h => by simp [strsOf] at h
  | .scr _ :: _, _, h => by simp [strsOf] at h
  | .ob _ _ _ :: _, _, h => by simp [strsOf] at h
theorem blsOf_eq : ∀ {l : List D} {is : List Bool}, blsOf l = some is → l = is.map D.bl
  | [], is, h => by cases h; rfl
  | .bl i :: l, is, h => by
    cases e : blsOf l with
    | none => simp [blsOf, e] at h
    | some js =>
      simp [blsOf, e] at h
      subst h
      rw [blsOf_eq e]; rfl
  | .non :: _, _, h => by simp [blsOf] at h
  | .str _ :: _, _, h => by simp [blsOf] at h
  | .int _ :: _, _, h => by simp [blsOf] at h
  | .tup _ :: _, _, h => by simp [blsOf] at h
  | .lst _ :: _, _, h => by simp [blsOf] at h
  | .dct _ _ :: _, _, h => by simp [blsOf] at h
  | .scr _ :: _, _, h => by simp [blsOf] at h
  | .ob _ _ _ :: _, _, h => by simp [blsOf] at h

mutual
theorem Rep.xi (z : XI) : ∀ (d : D) (v : V), Rep w H O d v → Rep (w.at_ z) H O d v
  | .non, _, h => h
  | .bl _, _, h => h
  | .int _, _, h => h
  | .str _, _, h => h
  | .scr _, _, h => h
  | .tup l, _, ⟨a, vs, e, h, r⟩ => ⟨a, vs, e, h, Reps.xi z l vs r⟩
  | .lst l, _, ⟨a, vs, e, h, n, r⟩ => ⟨a, vs, e, h, n, Reps.xi z l vs r⟩
  | .dct _ ds, _, ⟨a, e, n, h⟩ => ⟨a, e, n, h.imp (fun ⟨kvs, q, k, r⟩ => ⟨kvs, q, k, Reps.xi z ds _ r⟩) (fun ⟨kvs, q, k, r⟩ => ⟨kvs, q, k, Reps.xi z ds _ r⟩)⟩
  | .ob _ _ ds, _, ⟨a, dx, fs, e, h, n, k, r⟩ => ⟨a, dx, fs, e, h, n, k, Reps.xi z ds _ r⟩
theorem Reps.xi (z : XI) : ∀ (l : List D) (vs : List V), Reps w H O l vs → Reps (w.at_ z) H O l vs
  | [], _, h => h
  | d :: l, _, ⟨v, r, e, h, hr⟩ => ⟨v, r, e, Rep.xi z d v h, Reps.xi z l r hr⟩
end
theorem RepK.xi (z : XI) : ∀ (d : D) (v : V), RepK w H O d v → RepK (w.at_ z) H O d v
  | .non, _, h => h
  | .bl _, _, h => h
  | .int _, _, h => h
  | .str _, _, h => h
  | .scr _, _, h => h
  | .tup l, v, h => Rep.xi z (.tup l) v h
  | .lst l, _, ⟨a, vs, e, h, r⟩ => ⟨a, vs, e, h, Reps.xi z l vs r⟩
  | .dct _ ds, _, ⟨a, e, h⟩ => ⟨a, e, h.imp (fun ⟨kvs, q, k, r⟩ => ⟨kvs, q, k, Reps.xi z ds _ r⟩) (fun ⟨kvs, q, k, r⟩ => ⟨kvs, q, k, Reps.xi z ds _ r⟩)⟩
  | .ob _ _ ds, _, ⟨a, dx, fs, e, h, k, r⟩ => ⟨a, dx, fs, e, h, k, Reps.xi z ds _ r⟩
theorem Kids.xi (z : XI) : ∀ {l : List D} {qs : List Addr}, Kids w H O l qs → Kids (w.at_ z) H O l qs
  | [], _, h => h
  | _ :: _, _, ⟨m, q, r, us, e, e2, h, hr, t⟩ => ⟨m, q, r, us, e, e2, h, Reps.xi z _ _ hr, Kids.xi z t⟩

/-! ### data in the library's sense -/
mutual
theorem Rep.dp : ∀ (d : D) (v : V), (py d).plain = true → Rep w H O d v → Dp w.K H v (py d)
  | .non, _, _, h => by rw [show _ = V.non from h]; exact .non
  | .bl b, _, _, h => by rw [show _ = V.bl b from h]; exact .bl b
  | .int b, _, _, h => by rw [show _ = V.int b from h]; exact .int b
  | .str b, _, _, h => by rw [show _ = V.str b from h]; exact .str b
  | .scr _, _, z, _ => Bool.noConfusion z
  | .dct _ _, _, z, _ => Bool.noConfusion z
  | .ob _ _ _, _, z, _ => Bool.noConfusion z
  | .tup l, _, z, ⟨a, vs, e, h, r⟩ => by
    subst e
    exact .tup h (Reps.dp l vs z r)
  | .lst l, _, z, ⟨a, vs, e, h, _, r⟩ => by
    subst e
    exact .lst (SqL.of h) (Reps.dp l vs z r)
theorem Reps.dp : ∀ (l : List D) (vs : List V), PyData.plainAll (pys l) = true → Reps w H O l vs → DpAll w.K H vs (pys l)
  | [], _, _, h => by rw [show _ = [] from h]; exact .nil
  | d :: l, _, z, ⟨v, r, e, h, hr⟩ => by
    subst e
    have z' : ((py d).plain && PyData.plainAll (pys l)) = true := z
    rw [Bool.and_eq_true] at z'
    exact .cons (Rep.dp d v z'.1 h) (Reps.dp l r z'.2 hr)
end
end
end S2

set_option maxHeartbeats 4000000
/-! S2c: the operations by values. -/
namespace S2
open PySem PySem.Spec PyProof.Rows L2

/-- how new a value is -/
def Frs (w : Wr) (H H' : Hp) (O : Addr → Prop) : OD → V → Prop
  | (.sh, _), _ => True
  | (.o1, d), x => ∃ p, x = .ref p ∧ H p = none ∧ isLD d = true ∧ RepK w H' (fun a => O a ∨ a = p) d x
  | (.o2, d), x => ∃ p qs l, d = .lst l ∧ x = .ref p ∧ H p = none ∧ H' p = some (.lst (qs.map V.ref)) ∧ (p :: qs).Nodup ∧ (∀ q ∈ qs, H q = none) ∧ Kids w H' (fun a => O a ∨ a ∈ p :: qs) l qs
  | (.oi, _), _ => False
  | (.ex, _), _ => False
/-- a value of an expression: from H to H' -/
def VR (w : Wr) (H H' : Hp) (O : Addr → Prop) (v : OD) (x : V) : Prop := Rep w H' O v.2 x ∧ Frs w H H' O v x
def Dom (O : Addr → Prop) (H : Hp) : Prop := ∀ p, O p → H p ≠ none
theorem same_new {H : Hp} {p : Addr} {o : HO} (h : H p = none) : Same H (upd H p o) := fun b x e => by
  rw [upd_ne (ne_of_none e h)]; exact e
theorem Dom.same {O : Addr → Prop} {H H' : Hp} (d : Dom O H) (s : Same H H') : Dom O H' := fun p o => by
  cases e : H p with
  | none => exact absurd e (d p o)
  | some x => rw [s _ _ e]; exact fun z => by cases z
theorem Dom.free {O : Addr → Prop} {H : Hp} (d : Dom O H) {p : Addr} (h : H p = none) : ¬ O p := fun o => d p o h
theorem szL_eq : szL = sizeLine := by rw [sizeLine_eq]; rfl
/-- what is handed out by an operation: a new list is this value's alone -/
def HO1 (w : Wr) (H : Hp) (O : Addr → Prop) (d : D) (Q : VK) : Prop := ∀ z H', Same H H' → VR w H H' O (if isLst d then .o1 else .sh, d) z → Q z H'
section
variable {w : Wr} {H : Hp} {O : Addr → Prop} {Q : VK}
theorem HO1.sc {d : D} {z : V} (q : HO1 w H O d Q) (hl : isLst d = false) (h : Rep w H O d z) : Q z H := q z H (Same.refl H) ⟨h, by rw [hl]; exact True.intro⟩
theorem HO1.lst {l : List D} {vs : List V} (q : HO1 w H O (.lst l) Q) (dom : Dom O H) (h : Reps w H O l vs) : ∀ p, H p = none → Q (.ref p) (upd H p (.lst vs)) := fun p hp =>
  q _ _ (same_new hp) ⟨⟨p, vs, rfl, upd_same, dom.free hp, Reps.same (same_new hp) _ _ h⟩, p, rfl, hp, rfl, p, vs, rfl, upd_same, Reps.same (same_new hp) _ _ (Reps.wide (fun a z => z.imp id fun z => by rw [z]; exact hp) _ _ h)⟩
theorem HO1.tup {l : List D} {vs : List V} (q : HO1 w H O (.tup l) Q) (h : Reps w H O l vs) : ∀ p, H p = none → Q (.ref p) (upd H p (.tup vs)) := fun p hp =>
  q _ _ (same_new hp) ⟨⟨p, vs, rfl, .inl (.inl upd_same), Reps.same (same_new hp) _ _ h⟩, True.intro⟩
end

theorem pys_any (f : PyData → Bool) : ∀ l : List D, (pys l).any f = l.any fun z => f (py z)
  | [] => rfl
  | d :: l => by
    show (py d :: pys l).any f = _
    rw [List.any_cons, List.any_cons, pys_any f l]
def RB (w : Wr) (f : D → D → R D) : R2 := fun x y H Q => ∃ a b O, Dom O H ∧ Rep w H O a x ∧ Rep w H O b y ∧ ∃ d, f a b = .ok d ∧ HO1 w H O d Q
def RC (w : Wr) (f : D → D → R Bool) : R2 := fun x y H Q => ∃ a b O, Dom O H ∧ Rep w H O a x ∧ Rep w H O b y ∧ ∃ d, f a b = .ok d ∧ Q (.bl d) H

def opOf : Bop → Operator
  | .add => .Add | .sub => .Sub | .mul => .Mult | .fdiv => .FloorDiv | .mod => .Mod | .pow => .Pow | .xor => .BitXor
def cmpOf : Cop → CmpOp
  | .eq => .Eq | .ne => .NotEq | .lt => .Lt | .le => .LtE | .gt => .Gt | .ge => .GtE | .is_ => .Is | .isnot => .IsNot | .in_ => .In | .notin => .NotIn
section
variable {X : Cx} {w : Wr} (hw : w.K = X.K)
include hw
theorem op_add' : OpR X (binaryOp .Add) (RB w addD) := by
  intro pins s σ H x y v u Q I rx ry ⟨a, b, O, dom, ra, rb, d, e, q⟩
  cases a with
  | int i =>
    cases b with
    | int j =>
      cases e
      exact op_add pins s σ H x y v u Q I rx ry ⟨i, j, ra, rb, HO1.sc q rfl rfl⟩
    | _ => simp [addD] at e
  | str i =>
    cases b with
    | str j =>
      simp only [addD] at e
      split at e
      · rename_i hz
        cases e
        rw [szL_eq] at hz
        exact op_add_str pins s σ H x y v u Q I rx ry ⟨i, j, ra, rb, hz, HO1.sc q rfl rfl⟩
      · cases e
    | _ => simp [addD] at e
  | tup i =>
    cases b with
    | tup j =>
      simp only [addD] at e
      split at e
      · rename_i hz
        cases e
        rw [szL_eq] at hz
        obtain ⟨p, xs, rfl, hp, r1⟩ := ra
        obtain ⟨p', ys, rfl, hp', r2⟩ := rb
        rw [hw] at hp hp'
        have h1 := Reps.length r1
        have h2 := Reps.length r2
        refine op_catA pins s σ H _ _ v u Q I rx ry ⟨p, p', xs, ys, rfl, rfl, hp, hp', by omega, fun z => ?_, fun _ z => ?_, fun _ _ => HO1.tup q (Reps.append r1 r2)⟩
        · subst z
          have z' : i = [] := List.eq_nil_of_length_eq_zero (by simpa using h1)
          subst z'
          exact HO1.sc q rfl ⟨p', ys, rfl, by rw [hw]; exact hp', r2⟩
        · subst z
          have z' : j = [] := List.eq_nil_of_length_eq_zero (by simpa using h2)
          subst z'
          refine HO1.sc q rfl ⟨p, xs, rfl, by rw [hw]; exact hp, by rw [List.append_nil]; exact r1⟩
      · cases e
    | _ => simp [addD] at e
  | lst i =>
    cases b with
    | lst j =>
      simp only [addD] at e
      split at e
      · rename_i hz
        cases e
        rw [szL_eq] at hz
        obtain ⟨p, xs, rfl, hp, _, r1⟩ := ra
        obtain ⟨p', ys, rfl, hp', _, r2⟩ := rb
        have h1 := Reps.length r1
        have h2 := Reps.length r2
        exact op_cat pins s σ H _ _ v u Q I rx ry ⟨p, p', xs, ys, rfl, rfl, hp, hp', by omega, HO1.lst q dom (Reps.append r1 r2)⟩
      · cases e
    | _ => simp [addD] at e
  | _ => simp [addD] at e
omit hw in
theorem mulOk_ok {i j : Int} (h : mulOk i j = true) : CMul i j := by
  unfold mulOk at h
  rw [Bool.or_eq_true] at h
  rcases h with h | h
  · have := absLe_ok h
    exact .inl ⟨by omega, by omega⟩
  · have := absLe_ok h
    exact .inr ⟨by omega, by omega⟩
theorem op_mul' : OpR X (binaryOp .Mult) (RB w mulD) := by
  intro pins s σ H x y v u Q I rx ry ⟨a, b, O, dom, ra, rb, d, e, q⟩
  cases a with
  | int i =>
    cases b with
    | int j =>
      simp only [mulD] at e
      split at e
      · rename_i hz
        cases e
        exact op_mul pins s σ H x y v u Q I rx ry ⟨i, j, ra, rb, mulOk_ok hz, HO1.sc q rfl rfl⟩
      · cases e
    | _ => exact nomatch (show (R.no : R D) = R.ok d from e)
  | lst i =>
    cases b with
    | int j =>
      simp only [mulD] at e
      split at e
      · rename_i hz
        cases e
        simp only [Bool.and_eq_true, decide_eq_true_eq] at hz
        obtain ⟨p, xs, rfl, hp, _, r1⟩ := ra
        have h1 := Reps.length r1
        have hz2 := hz.2
        rw [szL_eq, h1] at hz2
        have hz3 := absLe_ok hz.1
        exact op_rep pins s σ H _ _ v u Q I rx ry ⟨p, j, xs, rfl, rb, hp, by omega, by omega, hz2, HO1.lst q dom (Reps.flat _ r1)⟩
      · cases e
    | _ => exact nomatch (show (R.no : R D) = R.ok d from e)
  | tup i =>
    cases b with
    | int j =>
      simp only [mulD] at e
      split at e
      · rename_i hz
        cases e
        simp only [Bool.and_eq_true, decide_eq_true_eq, Bool.not_eq_true'] at hz
        obtain ⟨⟨⟨z1, z2⟩, z3⟩, z4⟩ := hz
        obtain ⟨p, xs, rfl, hp, r1⟩ := ra
        rw [hw] at hp
        have h1 := Reps.length r1
        have hz3 := absLe_ok z2
        refine op_repT pins s σ H _ _ v u Q I rx ry ⟨p, j, xs, rfl, rb, hp, fun z => ?_, z1, by omega, by omega, HO1.tup q (Reps.flat _ r1)⟩
        rw [z] at h1
        have : i = [] := List.eq_nil_of_length_eq_zero h1
        rw [this] at z3
        cases z3
      · cases e
    | _ => exact nomatch (show (R.no : R D) = R.ok d from e)
  | _ => cases b <;> exact nomatch (show (R.no : R D) = R.ok d from e)
omit hw in
theorem op_ints {o : Bop} {C : Int → Int → Prop} {f : Int → Int → Int} (rule : OpR X (binaryOp (opOf o)) (rI C fun i j => .int (f i j)))
    (h : ∀ a b d, binD o a b = .ok d → ∃ i j, a = .int i ∧ b = .int j ∧ C i j ∧ d = .int (f i j)) : OpR X (binaryOp (opOf o)) (RB w (binD o)) := by
  intro pins s σ H x y v u Q I rx ry ⟨a, b, O, dom, ra, rb, d, e, q⟩
  obtain ⟨i, j, rfl, rfl, hc, rfl⟩ := h a b d e
  exact rule pins s σ H x y v u Q I rx ry ⟨i, j, ra, rb, hc, HO1.sc q rfl rfl⟩
omit hw in
theorem opI0' {f : Value → Value → Sem Value} {g : Int → Int → V} (h : OpR X f (rI0 g)) : OpR X f (rI (fun _ _ => True) g) := fun pins s σ H x y v u Q I rx ry ⟨i, j, e1, e2, _, q⟩ => h pins s σ H x y v u Q I rx ry ⟨i, j, e1, e2, q⟩
theorem op_bin (o : Bop) : OpR X (binaryOp (opOf o)) (RB w (binD o)) := by
  cases o with
  | add => exact op_add' hw
  | mul => exact op_mul' hw
  | sub =>
    refine op_ints (o := .sub) (opI0' op_sub) fun a b d e => ?_
    cases a <;> cases b <;> simp only [binD, reduceCtorEq, R.ok.injEq] at e
    exact ⟨_, _, rfl, rfl, trivial, e.symm⟩
  | xor =>
    refine op_ints (o := .xor) (opI0' op_xor) fun a b d e => ?_
    cases a <;> cases b <;> simp only [binD, reduceCtorEq, R.ok.injEq] at e
    exact ⟨_, _, rfl, rfl, trivial, e.symm⟩
  | fdiv =>
    refine op_ints (o := .fdiv) op_fdiv fun a b d e => ?_
    cases a <;> cases b <;> simp only [binD, reduceCtorEq] at e
    split at e
    · rename_i hz
      simp only [Bool.and_eq_true, decide_eq_true_eq] at hz
      injection e with e
      have hz2 := absLe_ok hz.2
      exact ⟨_, _, rfl, rfl, ⟨hz.1, by omega⟩, e.symm⟩
    · cases e
  | mod =>
    refine op_ints (o := .mod) op_mod fun a b d e => ?_
    cases a <;> cases b <;> simp only [binD, reduceCtorEq] at e
    split at e
    · rename_i hz
      simp only [decide_eq_true_eq] at hz
      injection e with e
      exact ⟨_, _, rfl, rfl, hz, e.symm⟩
    · cases e
  | pow =>
    refine op_ints (o := .pow) op_pow fun a b d e => ?_
    cases a <;> cases b <;> simp only [binD, reduceCtorEq] at e
    split at e
    · rename_i hz
      simp only [Bool.and_eq_true, decide_eq_true_eq] at hz
      injection e with e
      have hz2 := absLe_ok hz.1.2
      have hz3 := absLe_ok hz.2
      exact ⟨_, _, rfl, rfl, ⟨hz.1.1, by omega, by omega⟩, e.symm⟩
    · cases e

/-! ### comparisons -/
omit hw in
theorem bind_not {r : R Bool} {d : Bool} (h : (r.bind fun c => .ok (!c)) = .ok d) : r = .ok (!d) := by
  cases r with
  | ok c =>
    have : (!c) = d := R.ok.inj h
    rw [← this, Bool.not_not]
  | exc _ => cases h
  | no => cases h
omit hw in
theorem RC.neg {f : D → D → R Bool} {x y : V} {H : Hp} {Q : VK} (h : RC w (fun a b => (f a b).bind fun c => .ok (!c)) x y H Q) : RC w f x y H fun z H' => ∃ c, z = .bl c ∧ Q (.bl (!c)) H' := by
  obtain ⟨a, b, O, dom, ra, rb, d, e, q⟩ := h
  exact ⟨a, b, O, dom, ra, rb, !d, bind_not e, _, rfl, by rw [Bool.not_not]; exact q⟩
omit hw in
theorem scV_ok {H : Hp} {O : Addr → Prop} {a : D} {x v : V} (h : scV a = some v) (r : Rep w H O a x) : x = v := by
  cases a <;> simp only [scV, reduceCtorEq, Option.some.injEq] at h <;> (subst h; exact r)
theorem reads_of {pins : List (Addr × Obj)} {s : Shared} {σ : L2.St} {H : Hp} {O : Addr → Prop} {a : D} {x : V} {v : Value} (I : Inv X pins σ H s) (rx : RelV x v) (h : plainB a = true) (r : Rep w H O a x) : ∃ as, Reads s.heap v (py a) as ∧ (py a).plain = true ∧ (py a).depth ≤ 64 := by
  unfold plainB at h
  rw [Bool.and_eq_true] at h
  obtain ⟨as, q⟩ := Dp.reads I _ x v (by rw [← hw]; exact Rep.dp a x h.1 r) rx
  exact ⟨as, q, h.1, of_decide_eq_true h.2⟩
theorem op_eqP (hu : X.A.units + 64 < cLine) : OpR X (compareOp .Eq) (RC w eqP) := by
  intro pins s σ H x y v u Q I rx ry ⟨a, b, O, dom, ra, rb, d, e, q⟩
  unfold eqP at e
  split at e
  · rename_i hz
    rw [Bool.and_eq_true] at hz
    obtain ⟨as, r1, p1, d1⟩ := reads_of hw I rx hz.1 ra
    obtain ⟨bs, r2, p2, d2⟩ := reads_of hw I ry hz.2 rb
    cases e
    exact PySem.SeqAt.eq_plain r1 r2 p1 p2 (by have := Nat.min_le_left (py a).depth (py b).depth; omega) ⟨.bl _, H, I, rfl, q⟩
  · cases e
theorem op_neP (hu : X.A.units + 64 < cLine) : OpR X (compareOp .NotEq) (RC w fun a b => (eqP a b).bind fun c => .ok (!c)) := by
  intro pins s σ H x y v u Q I rx ry h
  obtain ⟨a, b, O, dom, ra, rb, d, e, c, ec, q⟩ := RC.neg h
  cases ec
  unfold eqP at e
  split at e
  · rename_i hz
    rw [Bool.and_eq_true] at hz
    obtain ⟨as, r1, p1, d1⟩ := reads_of hw I rx hz.1 ra
    obtain ⟨bs, r2, p2, d2⟩ := reads_of hw I ry hz.2 rb
    cases e
    exact PySem.SeqAt.ne_plain r1 r2 p1 p2 (by have := Nat.min_le_left (py a).depth (py b).depth; omega) ⟨.bl _, H, I, rfl, q⟩
  · cases e
theorem op_eq' (hu : X.A.units + 64 < cLine) : OpR X (compareOp .Eq) (RC w eqD) := by
  intro pins s σ H x y v u Q I rx ry ⟨a, b, O, dom, ra, rb, d, e, q⟩
  unfold eqD at e
  split at e
  · rename_i x' y' h1 h2
    have e1 := scV_ok h1 ra
    have e2 := scV_ok h2 rb
    subst e1; subst e2
    split at e
    · rename_i hs
      cases e
      exact op_eq pins s σ H x y v u Q I rx ry ⟨hs, q⟩
    · exact op_eqP hw hu pins s σ H x y v u Q I rx ry ⟨a, b, O, dom, ra, rb, d, e, q⟩
  · exact op_eqP hw hu pins s σ H x y v u Q I rx ry ⟨a, b, O, dom, ra, rb, d, e, q⟩
theorem op_ne' (hu : X.A.units + 64 < cLine) : OpR X (compareOp .NotEq) (RC w fun a b => (eqD a b).bind fun c => .ok (!c)) := by
  intro pins s σ H x y v u Q I rx ry h
  obtain ⟨a, b, O, dom, ra, rb, d, e, c, ec, q⟩ := RC.neg h
  cases ec
  unfold eqD at e
  split at e
  · rename_i x' y' h1 h2
    have e1 := scV_ok h1 ra
    have e2 := scV_ok h2 rb
    subst e1; subst e2
    split at e
    · rename_i hs
      cases e
      exact op_ne pins s σ H x y v u Q I rx ry ⟨hs, q⟩
    · exact op_neP hw hu pins s σ H _ _ v u Q I rx ry ⟨a, b, O, dom, ra, rb, _, by show (eqP a b).bind _ = _; rw [e]; rfl, q⟩
  · exact op_neP hw hu pins s σ H x y v u Q I rx ry ⟨a, b, O, dom, ra, rb, _, by show (eqP a b).bind _ = _; rw [e]; rfl, q⟩
/-! ### order, in -/
omit hw in
theorem isNon_py {a : D} (h : (!isNonD a) = true) : py a ≠ .none := by
  cases a <;> first | (exact fun z => PyData.noConfusion z) | (exact absurd h Bool.false_ne_true)
theorem ord_run {pins : List (Addr × Obj)} {s : Shared} {σ : L2.St} {H : Hp} {O : Addr → Prop} {a b : D} {x y : V} {v u : Value} (I : Inv X pins σ H s) (rx : RelV x v) (ry : RelV y u) (ra : Rep w H O a x) (rb : Rep w H O b y) (hu : X.A.units + 64 < cLine)
    (h : (PySem.W.alike (py a) (py b) && plainB a && plainB b && !isNonD a) = true) : ∃ as bs, Reads s.heap v (py a) as ∧ Reads s.heap u (py b) bs ∧ PySem.W.alike (py a) (py b) = true ∧ py a ≠ .none ∧ X.A.units + min (py a).depth (py b).depth < cLine := by
  simp only [Bool.and_eq_true] at h
  obtain ⟨as, r1, p1, d1⟩ := reads_of hw I rx h.1.1.2 ra
  obtain ⟨bs, r2, p2, d2⟩ := reads_of hw I ry h.1.2 rb
  exact ⟨as, bs, r1, r2, h.1.1.1, isNon_py h.2, by have := Nat.min_le_left (py a).depth (py b).depth; omega⟩
theorem op_cmp (hu : X.A.units + 66 < cLine) (o : Cop) : OpR X (compareOp (cmpOf o)) (RC w (cmpD o)) := by
  have hu' : X.A.units + 64 < cLine := by omega
  cases o with
  | eq => exact op_eq' hw hu'
  | ne => exact op_ne' hw hu'
  | lt =>
    intro pins s σ H x y v u Q I rx ry ⟨a, b, O, dom, ra, rb, d, e, q⟩
    simp only [cmpD, ltD] at e
    split at e
    · rename_i hz
      obtain ⟨as, bs, r1, r2, h1, h2, h3⟩ := ord_run hw I rx ry ra rb hu' hz
      cases e
      exact PySem.W.lt_data r1 r2 h1 h2 h3 ⟨.bl _, H, I, rfl, q⟩
    · cases e
  | gt =>
    intro pins s σ H x y v u Q I rx ry ⟨a, b, O, dom, ra, rb, d, e, q⟩
    simp only [cmpD] at e
    split at e
    · rename_i hz
      obtain ⟨as, bs, r1, r2, h1, h2, h3⟩ := ord_run hw I rx ry ra rb hu' hz
      cases e
      exact PySem.W.gt_data r1 r2 h1 h2 h3 ⟨.bl _, H, I, rfl, q⟩
    · cases e
  | le =>
    intro pins s σ H x y v u Q I rx ry ⟨a, b, O, dom, ra, rb, d, e, q⟩
    simp only [cmpD, nltD] at e
    split at e
    · rename_i hz
      obtain ⟨as, bs, r1, r2, h1, h2, h3⟩ := ord_run hw I rx ry ra rb hu' (by simp only [Bool.and_eq_true] at hz ⊢; exact ⟨⟨⟨hz.1.1.1, hz.1.2⟩, hz.1.1.2⟩, hz.2⟩)
      cases e
      exact PySem.W.le_data r1 r2 h1 h2 h3 ⟨.bl _, H, I, rfl, q⟩
    · cases e
  | ge =>
    intro pins s σ H x y v u Q I rx ry ⟨a, b, O, dom, ra, rb, d, e, q⟩
    simp only [cmpD] at e
    split at e
    · rename_i hz
      obtain ⟨as, bs, r1, r2, h1, h2, h3⟩ := ord_run hw I rx ry ra rb hu' hz
      cases e
      exact PySem.W.ge_data r1 r2 h1 h2 h3 ⟨.bl _, H, I, rfl, q⟩
    · cases e
  | is_ =>
    intro pins s σ H x y v u Q I rx ry ⟨a, b, O, dom, ra, rb, d, e, q⟩
    cases b <;> simp only [cmpD, reduceCtorEq, R.ok.injEq] at e
    subst e
    refine op_isN pins s σ H x y v u Q I rx ry ⟨rb, ?_⟩
    have : decide (x = V.non) = isNonD a := by
      cases a <;> first
        | (rw [show x = _ from ra]; rfl)
        | (obtain ⟨p, r⟩ := ra; first | rw [r.1] | (obtain ⟨_, r⟩ := r; first | rw [r.1] | (obtain ⟨_, r⟩ := r; rw [r.1]))); rfl
    rw [this]; exact q
  | isnot =>
    intro pins s σ H x y v u Q I rx ry ⟨a, b, O, dom, ra, rb, d, e, q⟩
    cases b <;> simp only [cmpD, reduceCtorEq, R.ok.injEq] at e
    subst e
    refine op_notN pins s σ H x y v u Q I rx ry ⟨rb, ?_⟩
    have : decide (x = V.non) = isNonD a := by
      cases a <;> first
        | (rw [show x = _ from ra]; rfl)
        | (obtain ⟨p, r⟩ := ra; first | rw [r.1] | (obtain ⟨_, r⟩ := r; first | rw [r.1] | (obtain ⟨_, r⟩ := r; rw [r.1]))); rfl
    rw [this]; exact q
  | in_ =>
    intro pins s σ H x y v u Q I rx ry ⟨a, b, O, dom, ra, rb, d, e, q⟩
    cases b <;> simp only [cmpD, inD, reduceCtorEq] at e
    · rename_i j
      cases a <;> simp only [reduceCtorEq, R.ok.injEq] at e
      rename_i i
      subst e
      exact op_in_str pins s σ H x y v u Q I rx ry ⟨i, j, ra, rb, q⟩
    · rename_i l
      split at e
      · rename_i hz
        rw [Bool.and_eq_true] at hz
        obtain ⟨as, r1, p1, d1⟩ := reads_of hw I rx hz.1 ra
        obtain ⟨bs, r2, p2, d2⟩ := reads_of hw I ry hz.2 rb
        cases e
        refine PySem.SeqAt.in_tuple_data r2 r1 p2 p1 ?_ ⟨.bl _, H, I, rfl, ?_⟩
        · have := Nat.min_le_right (PyData.depthAll (pys l)) (py a).depth; omega
        · rw [pys_any]; exact q
      · cases e
    · rename_i l
      split at e
      · rename_i hz
        rw [Bool.and_eq_true] at hz
        obtain ⟨as, r1, p1, d1⟩ := reads_of hw I rx hz.1 ra
        obtain ⟨bs, r2, p2, d2⟩ := reads_of hw I ry hz.2 rb
        cases e
        refine PySem.SeqAt.in_list_data r2 r1 p2 p1 ?_ ⟨.bl _, H, I, rfl, ?_⟩
        · have := Nat.min_le_right (PyData.depthAll (pys l)) (py a).depth; omega
        · rw [pys_any]; exact q
      · cases e
  | notin =>
    intro pins s σ H x y v u Q I rx ry h
    have h' : RC w (fun a b => (inD a b).bind fun c => .ok (!c)) x y H Q := h
    obtain ⟨a, b, O, dom, ra, rb, d, e, c, ec, q⟩ := RC.neg h'
    cases ec
    cases b <;> simp only [inD, reduceCtorEq] at e
    · rename_i j
      cases a <;> simp only [reduceCtorEq, R.ok.injEq] at e
      rename_i i
      subst e
      exact op_notin_str pins s σ H x y v u Q I rx ry ⟨i, j, ra, rb, q⟩
    · rename_i l
      split at e
      · rename_i hz
        rw [Bool.and_eq_true] at hz
        obtain ⟨as, r1, p1, d1⟩ := reads_of hw I rx hz.1 ra
        obtain ⟨bs, r2, p2, d2⟩ := reads_of hw I ry hz.2 rb
        cases e
        refine PySem.SeqAt.notIn_tuple_data r2 r1 p2 p1 ?_ ⟨.bl _, H, I, rfl, ?_⟩
        · have := Nat.min_le_right (PyData.depthAll (pys l)) (py a).depth; omega
        · rw [pys_any]; exact q
      · cases e
    · rename_i l
      split at e
      · rename_i hz
        rw [Bool.and_eq_true] at hz
        obtain ⟨as, r1, p1, d1⟩ := reads_of hw I rx hz.1 ra
        obtain ⟨bs, r2, p2, d2⟩ := reads_of hw I ry hz.2 rb
        cases e
        refine PySem.SeqAt.notIn_list_data r2 r1 p2 p1 ?_ ⟨.bl _, H, I, rfl, ?_⟩
        · have := Nat.min_le_right (PyData.depthAll (pys l)) (py a).depth; omega
        · rw [pys_any]; exact q
      · cases e
end
end S2

set_option maxHeartbeats 4000000
/-! S2d: truth, items, slices, built-in functions by values. -/
namespace S2
open PySem PySem.Spec PyProof.Rows L2

def RX (w : Wr) : R2 := fun x y H Q => ∃ a b O, RepK w H O a x ∧ Rep w H O b y ∧ ∃ d, ixD a b = .ok d ∧ ∀ z, Rep w H O d z → Q z H
mutual
theorem py_inj : ∀ (a b : D), (py a).plain = true → (py b).plain = true → py a = py b → a = b
  | .non, b, _, hb, e => by cases b <;> first | rfl | (exact PyData.noConfusion e) | (exact nomatch (show false = true from hb))
  | .bl x, b, _, hb, e => by cases b <;> first | (injection e with e; rw [e]) | (exact PyData.noConfusion e) | (exact nomatch (show false = true from hb))
  | .int x, b, _, hb, e => by cases b <;> first | (injection e with e; rw [e]) | (exact PyData.noConfusion e) | (exact nomatch (show false = true from hb))
  | .str x, b, _, hb, e => by cases b <;> first | (injection e with e; rw [e]) | (exact PyData.noConfusion e) | (exact nomatch (show false = true from hb))
  | .tup l, b, ha, hb, e => by
    cases b with
    | tup m =>
      injection e with e
      rw [pys_inj l m ha hb e]
    | _ => first | (exact PyData.noConfusion e) | (exact nomatch (show false = true from hb))
  | .lst l, b, ha, hb, e => by
    cases b with
    | lst m =>
      injection e with e
      rw [pys_inj l m ha hb e]
    | _ => first | (exact PyData.noConfusion e) | (exact nomatch (show false = true from hb))
  | .dct _ _, _, ha, _, _ => nomatch (show false = true from ha)
  | .scr _, _, ha, _, _ => nomatch (show false = true from ha)
  | .ob _ _ _, _, ha, _, _ => nomatch (show false = true from ha)
theorem pys_inj : ∀ (l m : List D), PyData.plainAll (pys l) = true → PyData.plainAll (pys m) = true → pys l = pys m → l = m
  | [], [], _, _, _ => rfl
  | [], _ :: _, _, _, e => by cases e
  | _ :: _, [], _, _, e => by cases e
  | a :: l, b :: m, ha, hb, e => by
    injection e with e1 e2
    have ha : ((py a).plain && PyData.plainAll (pys l)) = true := ha
    have hb : ((py b).plain && PyData.plainAll (pys m)) = true := hb
    rw [Bool.and_eq_true] at ha hb
    rw [py_inj a b ha.1 hb.1 e1, pys_inj l m ha.2 hb.2 e2]
end
mutual
theorem plain_noDict : ∀ {a : D}, (py a).plain = true → (py a).hasDict = false
  | .non, _ => rfl
  | .bl _, _ => rfl
  | .int _, _ => rfl
  | .str _, _ => rfl
  | .tup l, h => plain_noDicts (l := l) h
  | .lst l, h => plain_noDicts (l := l) h
  | .dct _ _, h => nomatch (show false = true from h)
  | .scr _, h => nomatch (show false = true from h)
  | .ob _ _ _, h => nomatch (show false = true from h)
theorem plain_noDicts : ∀ {l : List D}, PyData.plainAll (pys l) = true → PyData.hasDictAll (pys l) = false
  | [], _ => rfl
  | a :: l, h => by
    have h : ((py a).plain && PyData.plainAll (pys l)) = true := h
    rw [Bool.and_eq_true] at h
    show ((py a).hasDict || PyData.hasDictAll (pys l)) = false
    rw [plain_noDict h.1, plain_noDicts h.2]
    rfl
end
section
variable {X : Cx} {w : Wr} (hw : w.K = X.K)
include hw
/-- a datum's truth in the layer's words -/
theorem tru_of {H : Hp} {O : Addr → Prop} {d : D} {x : V} {k : Bool} (r : Rep w H O d x) (e : truthD d = .ok k) : TruV X.K x H k := by
  cases d with
  | non => cases e; rw [show x = _ from r]; exact rfl
  | bl b => cases e; rw [show x = _ from r]; exact rfl
  | int i => cases e; rw [show x = _ from r]; exact rfl
  | str s =>
    simp only [truthD] at e
    split at e
    · rename_i hz
      cases e
      rw [show x = _ from r]
      rw [szL_eq] at hz
      exact ⟨hz, rfl⟩
    · cases e
  | tup l =>
    cases e
    obtain ⟨p, xs, rfl, hp, r1⟩ := r
    refine .inr (.inl ⟨xs, hw ▸ hp, ?_⟩)
    have := Reps.length r1
    cases l <;> cases xs <;> first | rfl | (simp at this)
  | lst l =>
    cases e
    obtain ⟨p, xs, rfl, hp, _, r1⟩ := r
    refine .inl ⟨xs, SqL.of hp, ?_⟩
    have := Reps.length r1
    cases l <;> cases xs <;> first | rfl | (simp at this)
  | _ => cases e
omit hw in
theorem atI_map {α β : Type} (f : α → β) (l : List α) (i : Int) : atI (l.map f) i = (atI l i).map f := by
  unfold atI
  rw [List.length_map]
  cases ixN l.length i with
  | none => rfl
  | some j => simp [List.getElem?_map]
omit hw in
theorem Reps.atI {H : Hp} {O : Addr → Prop} {l : List D} {vs : List V} {i : Int} {d : D} (r : Reps w H O l vs) (h : L2.atI l i = some d) : ∃ v, L2.atI vs i = some v ∧ Rep w H O d v := by
  unfold L2.atI at h ⊢
  rw [← Reps.length r]
  cases e : ixN l.length i with
  | none => rw [e] at h; cases h
  | some j =>
    rw [e] at h
    exact Reps.get r h
/-- a[b] -/
theorem ix_any : IxR X (RX w) := by
  intro value slice pins s σ H x y v u Q I rx ry ⟨a, b, O, ra, rb, d, e, fin⟩ hs
  · cases a with
    | lst l =>
      cases b <;> simp only [ixD, reduceCtorEq] at e
      rename_i i
      split at e
      · rename_i d' hd
        cases e
        obtain ⟨p, xs, rfl, hp, r1⟩ := ra
        obtain ⟨z, hz, rz⟩ := Reps.atI r1 hd
        exact ix_list value slice pins s σ H _ y v u Q I rx ry ⟨p, xs, i, z, rfl, rb, SqL.of hp, hz, fin _ rz⟩ hs
      · cases e
    | tup l =>
      cases b <;> simp only [ixD, reduceCtorEq] at e
      rename_i i
      split at e
      · rename_i d' hd
        cases e
        obtain ⟨p, xs, rfl, hp, r1⟩ := ra
        obtain ⟨z, hz, rz⟩ := Reps.atI r1 hd
        exact ix_tup value slice pins s σ H _ y v u Q I rx ry ⟨p, xs, i, z, rfl, rb, hw ▸ hp, hz, fin _ rz⟩ hs
      · cases e
    | scr l =>
      cases b <;> simp only [ixD, reduceCtorEq] at e
      rename_i i
      split at e
      · rename_i d' hd
        cases e
        obtain ⟨p, rfl, hp⟩ := ra
        refine ix_list value slice pins s σ H _ y v u Q I rx ry ⟨p, l.map V.int, i, .int d', rfl, rb, ?_, by rw [atI_map, hd]; rfl, fin _ rfl⟩ hs
        rcases hp with ⟨o, hp⟩ | hp
        · exact .inl (.inr ⟨o, hp⟩)
        · exact .inr (hw ▸ hp)
      · cases e
    | str z =>
      cases b <;> simp only [ixD, reduceCtorEq] at e
      rename_i i
      split at e
      · rename_i hz
        split at e
        · rename_i c hc
          cases e
          rw [szL_eq] at hz
          exact ix_str value slice pins s σ H _ y v u Q I rx ry ⟨z, i, c, ra, rb, hz, hc, fin _ rfl⟩ hs
        · cases e
      · cases e
    | _ => cases b <;> simp only [ixD, reduceCtorEq] at e

/-! ### slices -/
omit hw in
theorem cut_map {H : Hp} {O : Addr → Prop} {l : List D} {vs : List V} (lo hi : Option Int) (r : Reps w H O l vs) : Reps w H O (cut l lo hi) (cutV vs lo hi) := by
  unfold cut cutV
  rw [← Reps.length r]
  exact Reps.take _ (Reps.drop _ r)
def RS (w : Wr) : V → Option Int → Option Int → Hp → VK → Prop := fun x lo hi H Q => ∃ a O, Dom O H ∧ Rep w H O a x ∧ ∃ d, slD a lo hi = .ok d ∧ HO1 w H O d Q
omit hw in
theorem cut_whole {α : Type} {l : List α} {lo hi : Option Int} (h : HT.sIx l.length 0 lo = 0 ∧ HT.sIx l.length l.length hi = l.length) : cut l lo hi = l := by
  unfold cut
  rw [h.1, h.2]
  simp
theorem sl_any : SlR X (RS w) := by
  intro pins s σ H x v vl vu lo hi sl Q I rx hs pl pu ⟨a, O, dom, ra, d, e, q⟩
  cases a with
  | lst l =>
    cases e
    obtain ⟨p, xs, rfl, hp, _, r1⟩ := ra
    exact sl_list pins s σ H _ v vl vu lo hi sl Q I rx hs pl pu ⟨p, xs, rfl, SqL.of hp, HO1.lst q dom (cut_map lo hi r1)⟩
  | tup l =>
    cases e
    obtain ⟨p, xs, rfl, hp, r1⟩ := ra
    have hl := Reps.length r1
    refine sl_tupA pins s σ H _ v vl vu lo hi sl Q I rx hs pl pu ⟨p, xs, rfl, hw ▸ hp, fun z => ?_, fun _ => HO1.tup q (cut_map lo hi r1)⟩
    rw [← hl] at z
    refine HO1.sc q rfl ⟨p, xs, rfl, hp, ?_⟩
    rw [cut_whole z]; exact r1
  | str z =>
    simp only [slD] at e
    split at e
    · rename_i hz
      cases e
      rw [szL_eq] at hz
      refine sl_str pins s σ H _ v vl vu lo hi sl Q I rx hs pl pu ⟨z, ra, hz, HO1.sc q rfl ?_⟩
      show V.str _ = V.str _
      first | rfl | (congr 1; unfold cutS cut; simp [Str.length])
    · cases e
  | _ => cases e

/-! ### built-in functions -/
def idOf : Bi → Value
  | .len => .builtin "len" | .int => .type "int" | .str => .type "str" | .abs => .builtin "abs" | .tuple => .type "tuple" | .list => .type "list" | .sum => .builtin "sum" | .max => .builtin "max"
  | .min => .builtin "min" | .repr => .builtin "repr" | .sorted => .builtin "sorted" | .all => .builtin "all" | .any => .builtin "any" | _ => .none
def RL (w : Wr) (f : List D → R D) : List V → Hp → VK → Prop := fun xs H Q => ∃ ds O, Dom O H ∧ Reps w H O ds xs ∧ ∃ d, f ds = .ok d ∧ HO1 w H O d Q
omit hw in
theorem seqOf_ok {d : D} {l : List D} (h : seqOf d = some l) : d = .tup l ∨ d = .lst l := by
  cases d <;> simp only [seqOf, reduceCtorEq, Option.some.injEq] at h
  · exact .inl (by rw [h])
  · exact .inr (by rw [h])
omit hw in
theorem Reps.one_of {H : Hp} {O : Addr → Prop} {d : D} {xs : List V} (r : Reps w H O [d] xs) : ∃ x, xs = [x] ∧ Rep w H O d x := by
  obtain ⟨x, r', e, h, e'⟩ := r
  cases (show r' = [] from e')
  exact ⟨x, e, h⟩
omit hw in
theorem Reps.two_of {H : Hp} {O : Addr → Prop} {d d' : D} {xs : List V} (r : Reps w H O [d, d'] xs) : ∃ x y, xs = [x, y] ∧ Rep w H O d x ∧ Rep w H O d' y := by
  obtain ⟨x, r', e, h, r2⟩ := r
  obtain ⟨y, e2, h2⟩ := Reps.one_of r2
  exact ⟨x, y, by rw [e, e2], h, h2⟩
theorem bi_len : CallR X (idOf .len) (RL w (biD .len)) := by
  intro pins s σ H xs us Q I r ⟨ds, O, dom, rr, d, e, q⟩
  match ds, e with
  | [.tup l], e =>
    cases e
    obtain ⟨x, rfl, p, vs, rfl, hp, r1⟩ := Reps.one_of rr
    refine call_len pins s σ H _ us Q I r ⟨_, _, rfl, .inr ⟨vs, hw ▸ hp, rfl⟩, ?_⟩
    rw [← Reps.length r1]; exact HO1.sc q rfl rfl
  | [.lst l], e =>
    cases e
    obtain ⟨x, rfl, p, vs, rfl, hp, _, r1⟩ := Reps.one_of rr
    refine call_len pins s σ H _ us Q I r ⟨_, _, rfl, .inl ⟨vs, SqL.of hp, rfl⟩, ?_⟩
    rw [← Reps.length r1]; exact HO1.sc q rfl rfl
  | [.scr l], e =>
    cases e
    obtain ⟨x, rfl, p, rfl, hp⟩ := Reps.one_of rr
    refine call_len pins s σ H _ us Q I r ⟨_, l.length, rfl, .inl ⟨l.map V.int, ?_, by rw [List.length_map]⟩, HO1.sc q rfl rfl⟩
    rcases hp with ⟨o, hp⟩ | hp
    · exact .inl (.inr ⟨o, hp⟩)
    · exact .inr (hw ▸ hp)
  | [.str z], e =>
    obtain ⟨x, rfl, r1⟩ := Reps.one_of rr
    simp only [biD] at e
    split at e
    · rename_i hz
      cases e
      rw [szL_eq] at hz
      rw [show x = _ from r1] at r
      exact call_len pins s σ H [.str z] us Q I r ⟨.str z, z.length, rfl, ⟨hz, rfl⟩, HO1.sc q rfl rfl⟩
    · cases e
theorem bi_int : CallR X (idOf .int) (RL w (biD .int)) := by
  intro pins s σ H xs us Q I r ⟨ds, O, dom, rr, d, e, q⟩
  match ds, e with
  | [.int i], e =>
    cases e
    obtain ⟨x, rfl, r1⟩ := Reps.one_of rr
    exact call_int1 pins s σ H _ us Q I r (.inl ⟨i, by rw [show x = _ from r1], HO1.sc q rfl rfl⟩)
  | [.bl i], e =>
    cases e
    obtain ⟨x, rfl, r1⟩ := Reps.one_of rr
    exact call_int1 pins s σ H _ us Q I r (.inr ⟨i, by rw [show x = _ from r1], HO1.sc q rfl rfl⟩)
theorem bi_str : CallR X (idOf .str) (RL w (biD .str)) := by
  intro pins s σ H xs us Q I r ⟨ds, O, dom, rr, d, e, q⟩
  match ds, e with
  | [.int i], e =>
    obtain ⟨x, rfl, r1⟩ := Reps.one_of rr
    simp only [biD] at e
    split at e
    · rename_i hz
      cases e
      exact call_str_int pins s σ H _ us Q I r ⟨i, by rw [show x = _ from r1], of_decide_eq_true hz, HO1.sc q rfl rfl⟩
    · cases e
theorem bi_abs : CallR X (idOf .abs) (RL w (biD .abs)) := by
  intro pins s σ H xs us Q I r ⟨ds, O, dom, rr, d, e, q⟩
  match ds, e with
  | [.int i], e =>
    cases e
    obtain ⟨x, rfl, r1⟩ := Reps.one_of rr
    exact call_abs pins s σ H _ us Q I r ⟨i, by rw [show x = _ from r1], HO1.sc q rfl rfl⟩
theorem bi_tuple : CallR X (idOf .tuple) (RL w (biD .tuple)) := by
  intro pins s σ H xs us Q I r ⟨ds, O, dom, rr, d, e, q⟩
  match ds, e with
  | [a], e =>
    obtain ⟨x, rfl, r1⟩ := Reps.one_of rr
    simp only [biD] at e
    split at e
    · rename_i l hl
      cases e
      rcases seqOf_ok hl with rfl | rfl
      · obtain ⟨p, vs, rfl, hp, r2⟩ := r1
        exact call_tuple_of pins s σ H _ us Q I r ⟨p, vs, rfl, .inr ⟨hw ▸ hp, HO1.sc q rfl ⟨p, vs, rfl, hp, r2⟩⟩⟩
      · obtain ⟨p, vs, rfl, hp, _, r2⟩ := r1
        exact call_tuple_of pins s σ H _ us Q I r ⟨p, vs, rfl, .inl ⟨SqL.of hp, HO1.tup q r2⟩⟩
    · cases e
theorem bi_list : CallR X (idOf .list) (RL w (biD .list)) := by
  intro pins s σ H xs us Q I r ⟨ds, O, dom, rr, d, e, q⟩
  match ds, e with
  | [a], e =>
    obtain ⟨x, rfl, r1⟩ := Reps.one_of rr
    simp only [biD] at e
    split at e
    · rename_i l hl
      cases e
      rcases seqOf_ok hl with rfl | rfl
      · obtain ⟨p, vs, rfl, hp, r2⟩ := r1
        exact call_list_of pins s σ H _ us Q I r ⟨p, vs, rfl, .inr (hw ▸ hp), HO1.lst q dom r2⟩
      · obtain ⟨p, vs, rfl, hp, _, r2⟩ := r1
        exact call_list_of pins s σ H _ us Q I r ⟨p, vs, rfl, .inl (SqL.of hp), HO1.lst q dom r2⟩
    · cases e
omit hw in
theorem bi_sum (hc : X.calm = true) : CallR X (idOf .sum) (RL w (biD .sum)) := by
  intro pins s σ H xs us Q I r ⟨ds, O, dom, rr, d, e, q⟩
  match ds, e with
  | [.lst l], e =>
    obtain ⟨x, rfl, p, vs, rfl, hp, _, r1⟩ := Reps.one_of rr
    simp only [biD] at e
    split at e
    · rename_i is hi
      cases e
      have el := intsOf_eq hi
      subst el
      cases Reps.ints r1
      exact cr_sum hc pins s σ H _ us Q I r ⟨p, is, rfl, SqL.of hp, HO1.sc q rfl rfl⟩
    · cases e
omit hw in
theorem bi_all (hc : X.calm = true) : CallR X (idOf .all) (RL w (biD .all)) := by
  intro pins s σ H xs us Q I r ⟨ds, O, dom, rr, d, e, q⟩
  match ds, e with
  | [.lst l], e =>
    obtain ⟨x, rfl, p, vs, rfl, hp, _, r1⟩ := Reps.one_of rr
    simp only [biD] at e
    split at e
    · rename_i is hi
      cases e
      have el := blsOf_eq hi
      subst el
      cases Reps.bls r1
      exact cr_all hc pins s σ H _ us Q I r ⟨p, is, rfl, SqL.of hp, HO1.sc q rfl rfl⟩
    · cases e
omit hw in
theorem bi_any (hc : X.calm = true) : CallR X (idOf .any) (RL w (biD .any)) := by
  intro pins s σ H xs us Q I r ⟨ds, O, dom, rr, d, e, q⟩
  match ds, e with
  | [.lst l], e =>
    obtain ⟨x, rfl, p, vs, rfl, hp, _, r1⟩ := Reps.one_of rr
    simp only [biD] at e
    split at e
    · rename_i is hi
      cases e
      have el := blsOf_eq hi
      subst el
      cases Reps.bls r1
      exact cr_any hc pins s σ H _ us Q I r ⟨p, is, rfl, SqL.of hp, HO1.sc q rfl rfl⟩
    · cases e
omit hw in
theorem readsAll_ints {h : Heap} : ∀ {vs : List Value} {ns : List Int}, IntsAre vs ns → ReadsAll h vs (ns.map PyData.int) []
  | _, _, .nil => .nil
  | _, _, .cons n t r => .cons (.int n t) (readsAll_ints r)
omit hw in
theorem alike_ints (ns : List Int) : PySem.W.AlikeAll (ns.map PyData.int) := by
  refine ⟨fun x hx y hy => ?_, fun x hx => ?_⟩
  · obtain ⟨i, _, rfl⟩ := List.mem_map.mp hx
    obtain ⟨j, _, rfl⟩ := List.mem_map.mp hy
    rfl
  · obtain ⟨i, _, rfl⟩ := List.mem_map.mp hx
    intro h; cases h
omit hw in
theorem depth_ints : ∀ ns : List Int, PyData.depthAll (ns.map PyData.int) = 0
  | [] => rfl
  | n :: ns => by rw [List.map_cons, PyData.depthAll, depth_ints ns]; rfl
omit hw in
theorem isNonD_py {a : D} (h : isNonD a = false) : py a ≠ .none := by
  cases a <;> first | (exact absurd h (by decide)) | (intro z; exact PyData.noConfusion z)
omit hw in
theorem minF_py (x : D) (l : List D) : py (minF x l) = PySem.W.minD (py x) (pys l) := by
  unfold minF PySem.W.minD
  induction l generalizing x with
  | nil => rfl
  | cons y l ih =>
    rw [List.foldl_cons, ih]
    show _ = List.foldl _ _ (py y :: pys l)
    rw [List.foldl_cons]
    split <;> rfl
omit hw in
theorem maxF_py (x : D) (l : List D) : py (maxF x l) = PySem.W.maxD (py x) (pys l) := by
  unfold maxF PySem.W.maxD
  induction l generalizing x with
  | nil => rfl
  | cons y l ih =>
    rw [List.foldl_cons, ih]
    show _ = List.foldl _ _ (py y :: pys l)
    rw [List.foldl_cons]
    split <;> rfl
omit hw in
theorem minF_mem (x : D) (l : List D) : minF x l ∈ x :: l := by
  unfold minF
  induction l generalizing x with
  | nil => exact List.mem_cons_self
  | cons y l ih =>
    rw [List.foldl_cons]
    rcases List.mem_cons.mp (ih (if PySem.W.dataLt (py y) (py x) then y else x)) with h | h
    · rw [h]; split
      · exact List.mem_cons_of_mem _ List.mem_cons_self
      · exact List.mem_cons_self
    · exact List.mem_cons_of_mem _ (List.mem_cons_of_mem _ h)
omit hw in
theorem maxF_mem (x : D) (l : List D) : maxF x l ∈ x :: l := by
  unfold maxF
  induction l generalizing x with
  | nil => exact List.mem_cons_self
  | cons y l ih =>
    rw [List.foldl_cons]
    rcases List.mem_cons.mp (ih (if PySem.W.dataLt (py x) (py y) then y else x)) with h | h
    · rw [h]; split
      · exact List.mem_cons_of_mem _ List.mem_cons_self
      · exact List.mem_cons_self
    · exact List.mem_cons_of_mem _ (List.mem_cons_of_mem _ h)
omit hw in
theorem alikeOk_at {l : List D} (h : alikeOk l = true) : ∀ a ∈ l, plainB a = true ∧ isNonD a = false ∧ isLst a = false ∧ ∀ b ∈ l, PySem.W.alike (py a) (py b) = true := fun a m => by
  unfold alikeOk at h
  rw [List.all_eq_true] at h
  have q := h a m
  simp only [Bool.and_eq_true, Bool.not_eq_true', List.all_eq_true] at q
  exact ⟨q.1.1.1, q.1.1.2, q.1.2, q.2⟩
omit hw in
theorem pys_mem : ∀ {l : List D} {x : PyData}, x ∈ pys l → ∃ a ∈ l, py a = x
  | a :: l, x, h => by
    have h : x ∈ py a :: pys l := h
    rcases List.mem_cons.mp h with e | e
    · exact ⟨a, List.mem_cons_self, e.symm⟩
    · obtain ⟨b, m, q⟩ := pys_mem e
      exact ⟨b, List.mem_cons_of_mem _ m, q⟩
omit hw in
theorem alikeOk_data {l : List D} (h : alikeOk l = true) : PySem.W.AlikeAll (pys l) := by
  refine ⟨fun x hx y hy => ?_, fun x hx => ?_⟩
  · obtain ⟨a, ma, rfl⟩ := pys_mem hx
    obtain ⟨b, mb, rfl⟩ := pys_mem hy
    exact (alikeOk_at h a ma).2.2.2 b mb
  · obtain ⟨a, ma, rfl⟩ := pys_mem hx
    exact isNonD_py (alikeOk_at h a ma).2.1
omit hw in
theorem depth_pys : ∀ {l : List D}, (∀ a ∈ l, plainB a = true) → PyData.depthAll (pys l) ≤ 64
  | [], _ => Nat.zero_le _
  | a :: l, h => by
    have h1 := h a List.mem_cons_self
    unfold plainB depth64 at h1
    rw [Bool.and_eq_true, decide_eq_true_eq] at h1
    exact Nat.max_le.mpr ⟨h1.2, depth_pys fun b m => h b (List.mem_cons_of_mem _ m)⟩
theorem reads_pys {pins : List (Addr × Obj)} {s : Shared} {σ : L2.St} {H : Hp} {O : Addr → Prop} (I : Inv X pins σ H s) : ∀ {l : List D} {vs : List V} {its : List Value}, (∀ a ∈ l, plainB a = true) → Reps w H O l vs → Vals vs its → ∃ as, ReadsAll s.heap its (pys l) as
  | [], _, _, _, r, rv => by
    cases (show _ = [] from r)
    cases rv
    exact ⟨_, .nil⟩
  | a :: l, _, _, h, ⟨v, r', e, r1, r2⟩, rv => by
    subst e
    cases rv with
    | cons q t =>
      obtain ⟨as, k, _⟩ := reads_of hw I q (h a List.mem_cons_self) r1
      obtain ⟨bs, k2⟩ := reads_pys I (fun b m => h b (List.mem_cons_of_mem _ m)) r2 t
      exact ⟨_, .cons k k2⟩
/-- the value that was read is the datum's -/
theorem mm_back {pins : List (Addr × Obj)} {s : Shared} {σ : L2.St} {H : Hp} {O : Addr → Prop} (I : Inv X pins σ H s) {l : List D} {vs : List V} {its : List Value} {d : D} {i : Nat} {v : Value} {h' : Heap} {bs : List Addr} (hp : ∀ a ∈ l, plainB a = true) (r : Reps w H O l vs) (rv : Vals vs its) (hd : d ∈ l)
    (hi : its[i]? = some v) (rd : Reads h' v (py d) bs) (hk : ∀ b o, s.heap.get? b = some o → h'.get? b = some o) : ∃ z, RelV z v ∧ Rep w H O d z := by
  have hl := rv.length
  have hil := (List.getElem?_eq_some_iff.mp hi).1
  have hvi : vs[i]? = some vs[i] := List.getElem?_eq_getElem (by omega)
  obtain ⟨u, hu, ru⟩ := rv.get hvi
  rw [hi] at hu
  cases hu
  obtain ⟨d', hd', rd'⟩ := Reps.get' r hvi
  have m' : d' ∈ l := List.mem_of_getElem? hd'
  obtain ⟨as, k, p1, _⟩ := reads_of hw I ru (hp d' m') rd'
  have e := (PySem.Reads.unique (PyProof.Rows.Reads.keeps hk k) _ _ rd).1
  have p2 : (py d).plain = true := by
    have := hp d hd
    unfold plainB at this
    rw [Bool.and_eq_true] at this
    exact this.1
  have e2 := py_inj d' d p1 p2 e
  subst e2
  exact ⟨_, ru, rd'⟩
theorem mm_seq {id : String} (F : D → List D → D) (G : PyData → List PyData → PyData) (hFG : ∀ x l, py (F x l) = G (py x) (pys l)) (hmem : ∀ x l, F x l ∈ x :: l)
    {pins : List (Addr × Obj)} {s : Shared} {σ : L2.St} {H : Hp} {O : Addr → Prop} {l : List D} {vs : List V} {its : List Value} {p : Addr} {d : D} {Q : VK} (I : Inv X pins σ H s) (r : Reps w H O l vs) (rv : Vals vs its)
    (e : (match l with | x :: l => if alikeOk (x :: l) then R.ok (F x l) else .no | [] => .no) = .ok d) (q : HO1 w H O d Q) (hu : X.A.units + 66 < cLine)
    (rule : ∀ (x : PyData) (xs : List PyData) (as : List Addr), ReadsAll s.heap its (x :: xs) as → PySem.W.AlikeAll (x :: xs) → X.A.units + 1 + PyData.depthAll (x :: xs) < cLine →
      (∀ (i : Nat) v h' tk bs, its.toArray[i]? = some v → Reads h' v (G x xs) bs → (∀ b o, s.heap.get? b = some o → h'.get? b = some o) → (EP X pins σ Q) v { s with heap := h', toks := tk }) → wpAny (model X.prog X.w) X.A (call (.builtin id) [.ref p]) (EP X pins σ Q) X.xe s) :
    wpAny (model X.prog X.w) X.A (call (.builtin id) [.ref p]) (EP X pins σ Q) X.xe s := by
  cases l with
  | nil => cases e
  | cons x l =>
    have e : (if alikeOk (x :: l) = true then R.ok (F x l) else .no) = .ok d := e
    split at e
    case isFalse => cases e
    rename_i ho
    cases e
    have hp : ∀ a ∈ x :: l, plainB a = true := fun a m => (alikeOk_at ho a m).1
    obtain ⟨as, ra⟩ := reads_pys hw I hp r rv
    have hd := depth_pys hp
    refine rule (py x) (pys l) as ra (alikeOk_data ho) (by show X.A.units + 1 + PyData.depthAll (pys (x :: l)) < cLine; omega) fun i v h' tk bs hi rd hk => ?_
    obtain ⟨z, rz, rz2⟩ := mm_back hw I hp r rv (hmem x l) (by simpa using hi) (by rw [hFG]; exact rd) hk
    exact ⟨z, H, I.kept hk, rz, HO1.sc q (alikeOk_at ho _ (hmem x l)).2.2.1 rz2⟩
omit hw in
theorem ints_case {l : List D} : (∃ x is, intsOf l = some (x :: is)) ∨ intsOf l = some [] ∨ intsOf l = none := by
  cases h : intsOf l with
  | none => exact .inr (.inr rfl)
  | some is => cases is with
    | nil => exact .inr (.inl rfl)
    | cons x is => exact .inl ⟨x, is, rfl⟩
theorem bi_max (hc : X.calm = true) (hu : X.A.units + 66 < cLine) : CallR X (idOf .max) (RL w (biD .max)) := by
  intro pins s σ H xs us Q I r ⟨ds, O, dom, rr, d, e, q⟩
  match ds, e with
  | [.int i, .int j], e =>
    cases e
    obtain ⟨x, y, rfl, r1, r2⟩ := Reps.two_of rr
    exact call_max2 hc pins s σ H _ us Q I r ⟨i, j, by rw [show x = _ from r1, show y = _ from r2], HO1.sc q rfl rfl⟩
  | [.lst l], e =>
    obtain ⟨x, rfl, p, vs, rfl, hp, _, r1⟩ := Reps.one_of rr
    simp only [biD] at e
    split at e
    · rename_i y is hi
      cases e
      have el := intsOf_eq hi
      subst el
      cases Reps.ints r1
      obtain ⟨its, rv, hl, _⟩ := I.list (SqL.of hp)
      rw [Vals.ref1 r]
      refine PySem.W.max_list_data (I.ok.hd hc) hl.isList (readsAll_ints rv.ints) (alike_ints (y :: is)) (by rw [show PyData.int y :: is.map PyData.int = (y :: is).map PyData.int from rfl, depth_ints]; omega) fun i v h' tk bs _ rd hk => ?_
      rw [PySem.W.maxD_ints] at rd
      cases rd
      exact ⟨.int _, H, I.kept hk, ⟨_, rfl⟩, HO1.sc q rfl rfl⟩
    · obtain ⟨its, rv, hl, _⟩ := I.list (SqL.of hp)
      rw [Vals.ref1 r]
      exact mm_seq hw maxF PySem.W.maxD maxF_py maxF_mem I r1 rv e q hu fun x xs as h1 h2 h3 h4 => PySem.W.max_list_data (I.ok.hd hc) hl.isList h1 h2 h3 h4
  | [.tup l], e =>
    obtain ⟨x, rfl, p, vs, rfl, hp, r1⟩ := Reps.one_of rr
    obtain ⟨its, rv, hl, _⟩ := I.tuple (hw ▸ hp)
    rw [Vals.ref1 r]
    simp only [biD] at e
    split at e
    · rename_i y is hi
      cases e
      have el := intsOf_eq hi
      subst el
      cases Reps.ints r1
      refine PySem.W.max_tuple_data (I.ok.hd hc) hl (readsAll_ints rv.ints) (alike_ints (y :: is)) (by rw [show PyData.int y :: is.map PyData.int = (y :: is).map PyData.int from rfl, depth_ints]; omega) fun i v h' tk bs _ rd hk => ?_
      rw [PySem.W.maxD_ints] at rd
      cases rd
      exact ⟨.int _, H, I.kept hk, ⟨_, rfl⟩, HO1.sc q rfl rfl⟩
    · exact mm_seq hw maxF PySem.W.maxD maxF_py maxF_mem I r1 rv e q hu fun x xs as h1 h2 h3 h4 => PySem.W.max_tuple_data (I.ok.hd hc) hl h1 h2 h3 h4
theorem bi_min (hc : X.calm = true) (hu : X.A.units + 66 < cLine) : CallR X (idOf .min) (RL w (biD .min)) := by
  intro pins s σ H xs us Q I r ⟨ds, O, dom, rr, d, e, q⟩
  match ds, e with
  | [.int i, .int j], e =>
    cases e
    obtain ⟨x, y, rfl, r1, r2⟩ := Reps.two_of rr
    exact call_min2 hc pins s σ H _ us Q I r ⟨i, j, by rw [show x = _ from r1, show y = _ from r2], HO1.sc q rfl rfl⟩
  | [.lst l], e =>
    obtain ⟨x, rfl, p, vs, rfl, hp, _, r1⟩ := Reps.one_of rr
    simp only [biD] at e
    split at e
    · rename_i y is hi
      cases e
      have el := intsOf_eq hi
      subst el
      cases Reps.ints r1
      obtain ⟨its, rv, hl, _⟩ := I.list (SqL.of hp)
      rw [Vals.ref1 r]
      refine PySem.W.min_list_data (I.ok.hd hc) hl.isList (readsAll_ints rv.ints) (alike_ints (y :: is)) (by rw [show PyData.int y :: is.map PyData.int = (y :: is).map PyData.int from rfl, depth_ints]; omega) fun i v h' tk bs _ rd hk => ?_
      rw [PySem.W.minD_ints] at rd
      cases rd
      exact ⟨.int _, H, I.kept hk, ⟨_, rfl⟩, HO1.sc q rfl rfl⟩
    · obtain ⟨its, rv, hl, _⟩ := I.list (SqL.of hp)
      rw [Vals.ref1 r]
      exact mm_seq hw minF PySem.W.minD minF_py minF_mem I r1 rv e q hu fun x xs as h1 h2 h3 h4 => PySem.W.min_list_data (I.ok.hd hc) hl.isList h1 h2 h3 h4
  | [.tup l], e =>
    obtain ⟨x, rfl, p, vs, rfl, hp, r1⟩ := Reps.one_of rr
    obtain ⟨its, rv, hl, _⟩ := I.tuple (hw ▸ hp)
    rw [Vals.ref1 r]
    simp only [biD] at e
    split at e
    · rename_i y is hi
      cases e
      have el := intsOf_eq hi
      subst el
      cases Reps.ints r1
      refine PySem.W.min_tuple_data (I.ok.hd hc) hl (readsAll_ints rv.ints) (alike_ints (y :: is)) (by rw [show PyData.int y :: is.map PyData.int = (y :: is).map PyData.int from rfl, depth_ints]; omega) fun i v h' tk bs _ rd hk => ?_
      rw [PySem.W.minD_ints] at rd
      cases rd
      exact ⟨.int _, H, I.kept hk, ⟨_, rfl⟩, HO1.sc q rfl rfl⟩
    · exact mm_seq hw minF PySem.W.minD minF_py minF_mem I r1 rv e q hu fun x xs as h1 h2 h3 h4 => PySem.W.min_tuple_data (I.ok.hd hc) hl h1 h2 h3 h4
/-- max(xs, default=d), min(xs, default=d) -/
def RK (w : Wr) (f : List D → R D) : List V → List V → Hp → VK → Prop := fun xs zs H Q => ∃ a b O, Dom O H ∧ Reps w H O [a] xs ∧ Reps w H O [b] zs ∧ ∃ d, f [a, b] = .ok d ∧ HO1 w H O d Q
omit hw in
theorem lit_rel {b : D} {z : V} {wv : Value} {H : Hp} {O : Addr → Prop} {Q : VK} (hb : litD b = true) (r : Rep w H O b z) (rv : RelV z wv) (q : HO1 w H O b Q) : Q z H := by
  cases b with
  | int i => rw [show z = _ from r]; exact HO1.sc q rfl rfl
  | non => rw [show z = _ from r]; exact HO1.sc q rfl rfl
  | _ => cases hb
omit hw in
theorem vals_one {z : V} {ws : List Value} (r : Vals [z] ws) : ∃ wv, ws = [wv] ∧ RelV z wv := by
  cases r with
  | cons r t => cases t; exact ⟨_, rfl, r⟩
theorem bi_maxd (hc : X.calm = true) (hu : X.A.units + 66 < cLine) : CallRK X (.builtin "max") [Str.ofString "default"] (RK w (biD .maxd)) := by
  intro pins s σ H xs zs us ws Q I r rz ⟨a, b, O, dom, ra, rb, d, e, q⟩
  match a, e with
  | .lst l, e =>
    obtain ⟨x, rfl, p, vs, rfl, hp, _, r1⟩ := Reps.one_of ra
    obtain ⟨z, rfl, rb2⟩ := Reps.one_of rb
    obtain ⟨wv, rfl, rw_⟩ := vals_one rz
    simp only [biD] at e
    split at e
    · rename_i hb
      cases hn : intsOf l with
      | none =>
        rw [hn] at e
        have e : maxR l = .ok d := e
        obtain ⟨its, rv, hl, _⟩ := I.list (SqL.of hp)
        rw [Vals.ref1 r]
        cases l with
        | nil => cases hn
        | cons x l =>
          have e : (if alikeOk (x :: l) = true then R.ok (maxF x l) else .no) = .ok d := e
          split at e
          case isFalse => cases e
          rename_i ho
          cases e
          have hpl : ∀ a ∈ x :: l, plainB a = true := fun a m => (alikeOk_at ho a m).1
          obtain ⟨as, ra⟩ := reads_pys hw I hpl r1 rv
          have hd := depth_pys hpl
          refine PySem.W.max_list_default (d := wv) (I.ok.hd hc) hl.isList ra (alikeOk_data ho) (by omega) (fun h0 => by cases h0) fun y ys i v h' tk bs h1 hi rd hk => ?_
          have h1 : py x :: pys l = y :: ys := h1
          injection h1 with h1 h2
          subst h1 h2
          obtain ⟨z, rz, rz2⟩ := mm_back hw I hpl r1 rv (maxF_mem x l) (by simpa using hi) (by rw [maxF_py]; exact rd) hk
          exact ⟨z, H, I.kept hk, rz, HO1.sc q (alikeOk_at ho _ (maxF_mem x l)).2.2.1 rz2⟩
      | some ns =>
      rw [hn] at e
      have el := intsOf_eq hn
      subst el
      cases Reps.ints r1
      obtain ⟨its, rv, hl, _⟩ := I.list (SqL.of hp)
      rw [Vals.ref1 r]
      refine PySem.W.max_list_default (d := wv) (I.ok.hd hc) hl.isList (readsAll_ints rv.ints) (alike_ints ns) (by rw [depth_ints]; omega) (fun h0 h' tk hk => ?_) fun y ys i v h' tk bs h1 _ rd hk => ?_
      · cases ns with
        | nil => cases e; exact ⟨z, H, I.kept hk, rw_, lit_rel hb rb2 rw_ q⟩
        | cons n ns => cases h0
      · cases ns with
        | nil => cases h1
        | cons n ns =>
          rw [List.map_cons] at h1
          injection h1 with h1 h2
          subst h1 h2
          cases e
          rw [PySem.W.maxD_ints] at rd
          cases rd
          exact ⟨.int _, H, I.kept hk, ⟨_, rfl⟩, HO1.sc q rfl rfl⟩
    · cases e
theorem bi_mind (hc : X.calm = true) (hu : X.A.units + 66 < cLine) : CallRK X (.builtin "min") [Str.ofString "default"] (RK w (biD .mind)) := by
  intro pins s σ H xs zs us ws Q I r rz ⟨a, b, O, dom, ra, rb, d, e, q⟩
  match a, e with
  | .lst l, e =>
    obtain ⟨x, rfl, p, vs, rfl, hp, _, r1⟩ := Reps.one_of ra
    obtain ⟨z, rfl, rb2⟩ := Reps.one_of rb
    obtain ⟨wv, rfl, rw_⟩ := vals_one rz
    simp only [biD] at e
    split at e
    · rename_i hb
      cases hn : intsOf l with
      | none =>
        rw [hn] at e
        have e : minR l = .ok d := e
        obtain ⟨its, rv, hl, _⟩ := I.list (SqL.of hp)
        rw [Vals.ref1 r]
        cases l with
        | nil => cases hn
        | cons x l =>
          have e : (if alikeOk (x :: l) = true then R.ok (minF x l) else .no) = .ok d := e
          split at e
          case isFalse => cases e
          rename_i ho
          cases e
          have hpl : ∀ a ∈ x :: l, plainB a = true := fun a m => (alikeOk_at ho a m).1
          obtain ⟨as, ra⟩ := reads_pys hw I hpl r1 rv
          have hd := depth_pys hpl
          refine PySem.W.min_list_default (d := wv) (I.ok.hd hc) hl.isList ra (alikeOk_data ho) (by omega) (fun h0 => by cases h0) fun y ys i v h' tk bs h1 hi rd hk => ?_
          have h1 : py x :: pys l = y :: ys := h1
          injection h1 with h1 h2
          subst h1 h2
          obtain ⟨z, rz, rz2⟩ := mm_back hw I hpl r1 rv (minF_mem x l) (by simpa using hi) (by rw [minF_py]; exact rd) hk
          exact ⟨z, H, I.kept hk, rz, HO1.sc q (alikeOk_at ho _ (minF_mem x l)).2.2.1 rz2⟩
      | some ns =>
      rw [hn] at e
      have el := intsOf_eq hn
      subst el
      cases Reps.ints r1
      obtain ⟨its, rv, hl, _⟩ := I.list (SqL.of hp)
      rw [Vals.ref1 r]
      refine PySem.W.min_list_default (d := wv) (I.ok.hd hc) hl.isList (readsAll_ints rv.ints) (alike_ints ns) (by rw [depth_ints]; omega) (fun h0 h' tk hk => ?_) fun y ys i v h' tk bs h1 _ rd hk => ?_
      · cases ns with
        | nil => cases e; exact ⟨z, H, I.kept hk, rw_, lit_rel hb rb2 rw_ q⟩
        | cons n ns => cases h0
      · cases ns with
        | nil => cases h1
        | cons n ns =>
          rw [List.map_cons] at h1
          injection h1 with h1 h2
          subst h1 h2
          cases e
          rw [PySem.W.minD_ints] at rd
          cases rd
          exact ⟨.int _, H, I.kept hk, ⟨_, rfl⟩, HO1.sc q rfl rfl⟩
    · cases e
omit hw in
theorem idxS_ok {z : Str} : ∀ {ys : List Str} {k j : Nat}, idxS z ys k = some j → ∃ i, j = k + i ∧ ys[i]? = some z ∧ ∀ m y, m < i → ys[m]? = some y → y ≠ z
  | [], _, _, h => by cases h
  | y :: ys, k, j, h => by
    have h : (if y = z then some k else idxS z ys (k + 1)) = some j := h
    split at h
    · rename_i e
      cases h
      exact ⟨0, rfl, by rw [e]; rfl, fun m y hm => absurd hm (Nat.not_lt_zero _)⟩
    · rename_i e
      obtain ⟨i, e1, e2, e3⟩ := idxS_ok h
      refine ⟨i + 1, by omega, e2, fun m u hm hu => ?_⟩
      cases m with
      | zero => cases hu; exact e
      | succ m => exact e3 m u (by omega) hu
theorem bi_repr (ng : NoG X.A) (hu : X.A.units + 66 < cLine) : CallR X (idOf .repr) (RL w (biD .repr)) := by
  intro pins s σ H xs us Q I r ⟨ds, O, dom, rr, d, e, q⟩
  match ds, e with
  | [a], e =>
    obtain ⟨x, rfl, r1⟩ := Reps.one_of rr
    obtain ⟨u, rfl, ru⟩ := vals1 r
    simp only [biD] at e
    split at e
    case isFalse => cases e
    rename_i hz
    cases e
    unfold shB0 at hz
    simp only [Bool.and_eq_true, decide_eq_true_eq] at hz
    obtain ⟨⟨h1, h2⟩, h3⟩ := hz
    rw [szL_eq] at h3
    obtain ⟨as, k, p1, p2⟩ := reads_of hw I ru h1 r1
    have fin : ∀ (h' : Heap) (t : Tok) (tk : Nat), (∀ b o, s.heap.get? b = some o → h'.get? b = some o) → (EP X pins σ Q) (.str (py a).shown t) { s with heap := h', toks := tk } := fun h' t tk hk => ⟨.str _, H, I.kept hk, ⟨t, rfl⟩, HO1.sc q rfl rfl⟩
    cases a with
    | tup l =>
      obtain ⟨p, vs, rfl, _⟩ := r1
      cases (show u = Value.ref p from ru)
      exact repr_of_reads' k h2 (fun e => by rw [plain_noDict p1] at e; cases e) ng (by omega) (fun _ _ e => e) (fun h' t tk hk => fin h' t tk hk) h3
    | lst l =>
      obtain ⟨p, vs, rfl, _⟩ := r1
      cases (show u = Value.ref p from ru)
      exact repr_of_reads' k h2 (fun e => by rw [plain_noDict p1] at e; cases e) ng (by omega) (fun _ _ e => e) (fun h' t tk hk => fin h' t tk hk) h3
    | non =>
      cases (show x = V.non from r1)
      cases (show u = Value.none from ru)
      exact PySem.P.repr_of_none (fin _ _ _ fun _ _ e => e)
    | bl b =>
      cases (show x = V.bl b from r1)
      cases (show u = Value.bool b from ru)
      exact PySem.P.repr_of_bool (fin _ _ _ fun _ _ e => e)
    | int i =>
      cases (show x = V.int i from r1)
      obtain ⟨t, rfl⟩ := ru
      exact PySem.P.repr_of_int (by simpa [py, PyData.showable] using h2) (fin _ _ _ fun _ _ e => e)
    | str z =>
      cases (show x = V.str z from r1)
      obtain ⟨t, rfl⟩ := ru
      exact PySem.P.repr_of_str (fin _ _ _ fun _ _ e => e) h3
    | _ => exact nomatch (show false = true from p1)
def RM (w : Wr) (f : D → List D → R D) : V → List V → Hp → VK → Prop := fun x xs H Q => ∃ a ds O, Dom O H ∧ Rep w H O a x ∧ Reps w H O ds xs ∧ ∃ d, f a ds = .ok d ∧ HO1 w H O d Q
theorem bm_join : MtR X "str.join" (RM w (bmD .join)) := by
  intro pins s σ H x xs v us Q I rx r ⟨a, ds, O, dom, ra, rr, d, e, q⟩
  match a, ds, e with
  | .str z, [b], e =>
    obtain ⟨y, rfl, r1⟩ := Reps.one_of rr
    simp only [bmD] at e
    split at e
    · rename_i l hl
      split at e
      · rename_i ss hs
        split at e
        · rename_i hz
          cases e
          have el := strsOf_eq hs
          subst el
          have hz := of_decide_eq_true hz
          rcases seqOf_ok hl with rfl | rfl
          · obtain ⟨p, vs, rfl, hp, r2⟩ := r1
            cases Reps.strs r2
            exact mt_join pins s σ H x _ v us Q I rx r ⟨z, p, ss, ra, rfl, .inr (hw ▸ hp), hz, HO1.sc q rfl rfl⟩
          · obtain ⟨p, vs, rfl, hp, _, r2⟩ := r1
            cases Reps.strs r2
            exact mt_join pins s σ H x _ v us Q I rx r ⟨z, p, ss, ra, rfl, .inl (SqL.of hp), hz, HO1.sc q rfl rfl⟩
        · cases e
      · cases e
    · cases e
omit hw in
theorem bm_upper : MtR X "str.upper" (RM w (bmD .upper)) := by
  intro pins s σ H x xs v us Q I rx r ⟨a, ds, O, dom, ra, rr, d, e, q⟩
  match a, ds, e with
  | .str z, [], e =>
    simp only [bmD] at e
    split at e
    · rename_i hz
      cases e
      exact mt_upper pins s σ H x xs v us Q I rx r ⟨z, ra, rr, of_decide_eq_true hz, HO1.sc q rfl rfl⟩
    · cases e
omit hw in
theorem bm_six : MtR X "str.index" (RM w (bmD .six)) := by
  intro pins s σ H x xs v us Q I rx r ⟨a, ds, O, dom, ra, rr, d, e, q⟩
  match a, ds, e with
  | .str z, [.str y], e =>
    obtain ⟨u, rfl, r1⟩ := Reps.one_of rr
    simp only [bmD] at e
    split at e
    · rename_i i rest hz
      cases e
      exact mt_sindex pins s σ H x _ v us Q I rx r ⟨z, y, i, rest, ra, by rw [show u = _ from r1], hz, HO1.sc q rfl rfl⟩
    · cases e
omit hw in
theorem bm_split : MtR X "str.split" (RM w (bmD .split)) := by
  intro pins s σ H x xs v us Q I rx r ⟨a, ds, O, dom, ra, rr, d, e, q⟩
  match a, ds, e with
  | .str z, [.str y], e =>
    obtain ⟨u, rfl, r1⟩ := Reps.one_of rr
    simp only [bmD] at e
    split at e
    · rename_i hz
      cases e
      rw [szL_eq] at hz
      exact mt_split pins s σ H x _ v us Q I rx r ⟨z, y, ra, by rw [show u = _ from r1], hz.1, hz.2, HO1.lst q dom (Reps.of_strs _)⟩
    · cases e
omit hw in
theorem bm_index : MtR X "list.index" (RM w (bmD .index)) := by
  intro pins s σ H x xs v us Q I rx r ⟨a, ds, O, dom, ra, rr, d, e, q⟩
  match a, ds, e with
  | .lst l, [.str z], e =>
    obtain ⟨y, rfl, r1⟩ := Reps.one_of rr
    simp only [bmD] at e
    split at e
    · rename_i ss hs
      split at e
      · rename_i k hk
        cases e
        have el := strsOf_eq hs
        subst el
        obtain ⟨p, vs, rfl, hp, _, r2⟩ := ra
        cases Reps.strs r2
        obtain ⟨i, e1, e2, e3⟩ := idxS_ok hk
        have e1 : k = i := by omega
        subst e1
        refine mt_index pins s σ H _ _ v us Q I rx r ⟨p, ss.map V.str, y, k, .str z, rfl, rfl, SqL.of hp, by rw [show y = _ from r1]; rfl, ?_, by rw [List.getElem?_map, e2]; rfl, by rw [show y = V.str z from r1]; simp [eqV], fun m z' hm hz' => ?_, HO1.sc q rfl rfl⟩
        · rw [List.all_map]; exact List.all_eq_true.mpr fun _ _ => rfl
        · rw [List.getElem?_map] at hz'
          cases hq : ss[m]? with
          | none => rw [hq] at hz'; cases hz'
          | some u =>
            rw [hq] at hz'
            cases hz'
            rw [show y = V.str z from r1]
            have := e3 m u hm hq
            simp [eqV, this]
      · cases e
    · cases e
end
end S2

set_option maxHeartbeats 4000000
/-! S2e: readings of expressions by the evaluator. -/
namespace S2
open PySem PySem.Spec PyProof.Rows L2

section
variable {w : Wr} {H H1 H' H2 : Hp} {O : Addr → Prop}
theorem Frs.post (s : Same H' H2) : ∀ {v : OD} {x : V}, Frs w H H' O v x → Frs w H H2 O v x
  | (.sh, _), _, _ => True.intro
  | (.o1, _), _, ⟨p, e, n, l, r⟩ => ⟨p, e, n, l, RepK.same s _ _ r⟩
  | (.o2, _), _, ⟨p, qs, l, e0, e, n, k, nd, q, t⟩ => ⟨p, qs, l, e0, e, n, s _ _ k, nd, q, t.same s⟩
  | (.oi, _), _, h => h
  | (.ex, _), _, h => h
theorem Frs.pre (s : Same H H1) : ∀ {v : OD} {x : V}, Frs w H1 H' O v x → Frs w H H' O v x
  | (.sh, _), _, _ => True.intro
  | (.o1, _), _, ⟨p, e, n, r⟩ => ⟨p, e, s.free n, r⟩
  | (.o2, _), _, ⟨p, qs, l, e0, e, n, k, nd, q, t⟩ => ⟨p, qs, l, e0, e, s.free n, k, nd, fun x m => s.free (q x m), t⟩
  | (.oi, _), _, h => h
  | (.ex, _), _, h => h
theorem VR.post (s : Same H' H2) {v : OD} {x : V} (h : VR w H H' O v x) : VR w H H2 O v x := ⟨Rep.same s _ _ h.1, h.2.post s⟩
theorem VR.pre (s : Same H H1) {v : OD} {x : V} (h : VR w H1 H' O v x) : VR w H H' O v x := ⟨h.1, h.2.pre s⟩
/-- what is kept off once the value is there -/
def grow (O : Addr → Prop) (v : OD) (x : V) : Addr → Prop := fun a => O a ∨ (v.1 = .o1 ∧ x = .ref a)
theorem grow_new {v : OD} {x : V} (h : VR w H H1 O v x) : ∀ a, grow O v x a → O a ∨ H a = none := fun a z => z.imp id fun ⟨e, ex⟩ => by
  obtain ⟨o, d⟩ := v
  cases (show o = .o1 from e)
  obtain ⟨_, p, e2, n, _⟩ := h
  rw [ex] at e2
  cases e2
  exact n
theorem grow_dom {v : OD} {x : V} (dom : Dom O H) (s : Same H H1) (h : VR w H H1 O v x) : Dom (grow O v x) H1 := fun a z => by
  rcases z with z | ⟨e, ex⟩
  · exact dom.same s a z
  · obtain ⟨o, d⟩ := v
    cases (show o = .o1 from e)
    obtain ⟨_, p, e2, n, l, r⟩ := h
    rw [ex] at e2
    cases e2
    cases d <;> simp only [isLD, Bool.false_eq_true] at l
    · obtain ⟨_, vs, e3, hp, _⟩ := r
      rw [ex] at e3; cases e3
      rw [hp]; exact fun z => by cases z
    · obtain ⟨_, e3, hp⟩ := r
      rw [ex] at e3; cases e3
      rcases hp with ⟨_, hp, _⟩ | ⟨_, hp, _⟩ <;> (rw [hp]; exact fun z => by cases z)
def VRs (w : Wr) : (Addr → Prop) → Hp → Hp → List OD → List V → Prop
  | _, _, _, [], xs => xs = []
  | O, H, H', v :: l, xs => ∃ x r H1, xs = x :: r ∧ Same H H1 ∧ Same H1 H' ∧ VR w H H1 O v x ∧ VRs w (grow O v x) H1 H' l r
theorem VRs.reps : ∀ {l : List OD} {O : Addr → Prop} {H : Hp} {xs : List V}, VRs w O H H' l xs → Reps w H' O (l.map (·.2)) xs
  | [], _, _, _, h => h
  | _ :: _, _, _, _, ⟨x, r, H1, e, _, s2, v, t⟩ => ⟨x, r, e, Rep.same s2 _ _ v.1, Reps.mono (fun a z => .inl z) _ _ (VRs.reps t)⟩
theorem VRs.pre : ∀ {l : List OD} {O : Addr → Prop} {H H1 : Hp} {xs : List V}, Same H H1 → VRs w O H1 H' l xs → VRs w O H H' l xs
  | [], _, _, _, _, _, h => h
  | _ :: _, _, _, _, _, s, ⟨x, r, H2, e, s1, s2, v, t⟩ => ⟨x, r, H2, e, s.trans s1, s2, v.pre s, t⟩
theorem VRs.length {l : List OD} {xs : List V} (h : VRs w O H H' l xs) : l.length = xs.length := by
  have := h.reps.length
  rwa [List.length_map] at this
/-- all are lists of their own: where they stand -/
theorem VRs.own : ∀ {l : List OD} {O : Addr → Prop} {H : Hp} {xs : List V}, VRs w O H H' l xs → l.all (fun p => decide (p.1 = .o1) && isLst p.2) = true →
    ∃ qs : List Addr, xs = qs.map V.ref ∧ qs.Nodup ∧ (∀ q ∈ qs, H q = none) ∧ Kids w H' (fun a => O a ∨ a ∈ qs) (l.map (·.2)) qs
  | [], _, _, _, h, _ => ⟨[], h, .nil, fun _ z => absurd z (by simp), rfl⟩
  | (o, d) :: l, O, H, _, ⟨x, r, H1, e, s1, s2, v, t⟩, a => by
    rw [List.all_cons, Bool.and_eq_true, Bool.and_eq_true, decide_eq_true_eq] at a
    obtain ⟨⟨a1, a2⟩, a3⟩ := a
    obtain ⟨qs, e2, nd, q, ks⟩ := VRs.own t a3
    obtain ⟨r1, f⟩ := v
    have a1 : o = .o1 := a1
    subst a1
    obtain ⟨p, e3, n, _, rk⟩ := f
    have a2 : isLst d = true := a2
    cases d <;> simp only [isLst, Bool.false_eq_true] at a2
    obtain ⟨p', vs, e4, hp, rr⟩ := rk
    have e5 : p = p' := by rw [e3] at e4; injection e4
    subst e5
    subst e3
    refine ⟨p :: qs, by rw [e, e2]; rfl, List.nodup_cons.mpr ⟨fun z => ?_, nd⟩, fun q' z => ?_, _, p, qs, vs, rfl, rfl, s2 _ _ hp, ?_, ?_⟩
    · have := q p z
      rw [hp] at this; cases this
    · rcases List.mem_cons.mp z with z | z
      · subst z; exact n
      · exact s1.free (q q' z)
    · refine Reps.same s2 _ _ (Reps.wide (fun b z => ?_) _ _ rr)
      rcases z with z | z
      · exact .inl (.inl z)
      · rcases List.mem_cons.mp z with z | z
        · exact .inl (.inr z)
        · exact .inr (q b z)
    · refine Kids.wide (fun b z => .inl ?_) ks
      rcases z with z | z
      · exact .inl (.inl z)
      · rcases List.mem_cons.mp z with z | z
        · subst z; exact .inl (.inr ⟨rfl, rfl⟩)
        · exact .inr z

/-- an exception that is of the datum's making -/
def XR (w : Wr) (H : Hp) (O : Addr → Prop) (cls : Value) (dd : Option Addr) : D → Prop
  | .ob c ns vs => cls = .ref (w.ca c) ∧ ((ns = [] ∧ vs = [] ∧ dd = none) ∨ ∃ a fs, dd = some a ∧ H a = some (.xd fs) ∧ fs.map (·.1) = ns ∧ Reps w H O vs (fs.map (·.2)))
  | _ => False
theorem XR.mono {O' : Addr → Prop} (s : ∀ a, O' a → O a) {cls : Value} {dd : Option Addr} : ∀ {d : D}, XR w H O cls dd d → XR w H O' cls dd d
  | .ob _ _ _, ⟨e, h⟩ => ⟨e, h.imp id fun ⟨a, fs, h1, h2, h3, h4⟩ => ⟨a, fs, h1, h2, h3, Reps.mono s _ _ h4⟩⟩

theorem XR.same (s : Same H H') {cls : Value} {dd : Option Addr} : ∀ {d : D}, XR w H O cls dd d → XR w H' O cls dd d
  | .ob _ _ _, ⟨e, h⟩ => ⟨e, h.imp id fun ⟨a, fs, h1, h2, h3, h4⟩ => ⟨a, fs, h1, s _ _ h2, h3, Reps.same s _ _ h4⟩⟩
theorem XR.wide {O' : Addr → Prop} (s : ∀ a, O' a → O a ∨ H a = none) {cls : Value} {dd : Option Addr} : ∀ {d : D}, XR w H O cls dd d → XR w H O' cls dd d
  | .ob _ _ _, ⟨e, h⟩ => ⟨e, h.imp id fun ⟨a, fs, h1, h2, h3, h4⟩ => ⟨a, fs, h1, h2, h3, Reps.wide s _ _ h4⟩⟩
theorem XR.write {p : Addr} {u : HO} (op : O p) (m : Mut (H p)) {cls : Value} {dd : Option Addr} : ∀ {d : D}, XR w H O cls dd d → XR w (upd H p u) O cls dd d
  | .ob _ _ _, ⟨e, h⟩ => ⟨e, h.imp id fun ⟨a, fs, h1, h2, h3, h4⟩ => ⟨a, fs, h1, by rw [upd_ne (fun z => by subst z; rw [h2] at m; exact m)]; exact h2, h3, Reps.write op m _ _ h4⟩⟩
/-- the slots: what each that is read holds -/
def EnvX (w : Wr) (H : Hp) (O : Addr → Prop) (σ : L2.St) (env : Env) (is : List (Nat × Bool)) : Prop := ∀ i ∈ is, ∀ d, env[i.1]? = some (some (.ex, d)) → σ[i.1]? = some (some (.ref w.xi.a)) ∧ XR w H O w.xi.cls w.xi.dd d
def EnvE (w : Wr) (H : Hp) (O : Addr → Prop) (σ : L2.St) (env : Env) (is : List (Nat × Bool)) : Prop := (env.length = σ.length ∧ EnvX w H O σ env is) ∧ ∀ i ∈ is, ∀ o d, env[i.1]? = some (some (o, d)) → o ≠ .ex → (i.2 = true → o ≠ .oi) → ∃ v, σ[i.1]? = some (some v) ∧ if i.2 = true then Rep w H O d v else RepK w H O d v
variable {σ : L2.St} {env : Env} {is js : List (Nat × Bool)}
theorem EnvE.same (s : Same H H') (h : EnvE w H O σ env is) : EnvE w H' O σ env is := ⟨⟨h.1.1, fun i m d e => ⟨(h.1.2 i m d e).1, (h.1.2 i m d e).2.same s⟩⟩, fun i m o d e x y => (h.2 i m o d e x y).imp fun _ z => ⟨z.1, by
  have z2 := z.2
  split
  · rename_i hi
    rw [if_pos hi] at z2
    exact Rep.same s _ _ z2
  · rename_i hi
    rw [if_neg hi] at z2
    exact RepK.same s _ _ z2⟩⟩
theorem EnvE.sub (h : EnvE w H O σ env is) (s : ∀ i ∈ js, i ∈ is) : EnvE w H O σ env js := ⟨⟨h.1.1, fun i m => h.1.2 i (s i m)⟩, fun i m => h.2 i (s i m)⟩
theorem EnvE.wide {O' : Addr → Prop} (s : ∀ a, O' a → O a ∨ H a = none) (h : EnvE w H O σ env is) : EnvE w H O' σ env is := ⟨⟨h.1.1, fun i m d e => ⟨(h.1.2 i m d e).1, (h.1.2 i m d e).2.wide s⟩⟩, fun i m o d e x y => (h.2 i m o d e x y).imp fun _ z => ⟨z.1, by
  have z2 := z.2
  split
  · rename_i hi
    rw [if_pos hi] at z2
    exact Rep.wide s _ _ z2
  · rename_i hi
    rw [if_neg hi] at z2
    exact RepK.wide s _ _ z2⟩⟩
theorem EnvE.l (h : EnvE w H O σ env (is ++ js)) : EnvE w H O σ env is := h.sub fun _ m => List.mem_append_left _ m
theorem EnvE.r (h : EnvE w H O σ env (is ++ js)) : EnvE w H O σ env js := h.sub fun _ m => List.mem_append_right _ m
theorem EnvE.get (h : EnvE w H O σ env is) {i : Nat} {o : Own} {d : D} (m : (i, true) ∈ is) (e : env[i]? = some (some (o, d))) (x : o ≠ .ex) (y : o ≠ .oi) : ∃ v, σ[i]? = some (some v) ∧ Rep w H O d v := by simpa using h.2 (i, true) m o d e x fun _ => y
theorem EnvE.getK (h : EnvE w H O σ env is) {i : Nat} {o : Own} {d : D} (m : (i, false) ∈ is) (e : env[i]? = some (some (o, d))) (x : o ≠ .ex) : ∃ v, σ[i]? = some (some v) ∧ RepK w H O d v := by simpa using h.2 (i, false) m o d e x fun z => by cases z

/-- a result, and what is wanted of it -/
def fR {α β : Type} (w : Wr) (W : WX) (σ : L2.St) (O : Addr → Prop) (rel : Hp → Hp → α → β → Prop) (H : Hp) (r : R α) (Q : β → Hp → Prop) : Prop := match r with
  | .ok a => ∀ b H', Same H H' → rel H H' a b → Q b H'
  | .exc d => ∀ cls dd H', Same H H' → XR w H' O cls dd d → W cls dd σ H'
  | .no => False
structure RelOk {α β : Type} (rel : Hp → Hp → α → β → Prop) : Prop where
  up : ∀ {H H1 H' a b}, Same H H1 → rel H1 H' a b → rel H H' a b
variable {W : WX} {α β α' β' : Type} {rel : Hp → Hp → α → β → Prop} {rel' : Hp → Hp → α' → β' → Prop}
theorem fR.later (k : RelOk rel) (s : Same H H1) {r : R α} {Q : β → Hp → Prop} (h : fR w W σ O rel H r Q) : fR w W σ O rel H1 r Q := by
  cases r with
  | ok a => exact fun b H' s' q => h b H' (s.trans s') (k.up s q)
  | exc d => exact fun c dd H' s' q => h c dd H' (s.trans s') q
  | no => exact h
theorem fR.bind {r : R α'} {f : α' → R α} {Q : β → Hp → Prop} {Q' : β' → Hp → Prop} (h : fR w W σ O rel H (r.bind f) Q) (k : ∀ a b H1, Same H H1 → rel' H H1 a b → fR w W σ O rel H (f a) Q → Q' b H1) : fR w W σ O rel' H r Q' := by
  cases r with
  | ok a => exact fun b H1 s q => k a b H1 s q h
  | exc d => exact h
  | no => exact h
/-- a step that raises nothing -/
theorem fR.tame {r : R α'} {f : α' → R α} {Q : β → Hp → Prop} (h : fR w W σ O rel H (r.tame.bind f) Q) : ∃ a, r = .ok a ∧ fR w W σ O rel H (f a) Q := by
  cases r with
  | ok a => exact ⟨a, rfl, h⟩
  | exc d => exact h.elim
  | no => exact h.elim
theorem fR.ok {a : α} {b : β} {Q : β → Hp → Prop} (h : fR w W σ O rel H (.ok a) Q) (q : rel H H a b) : Q b H := h b H (Same.refl H) q
def rV (w : Wr) (O : Addr → Prop) : Hp → Hp → OD → V → Prop := fun H H' v x => VR w H H' O v x
def rVs (w : Wr) (O : Addr → Prop) : Hp → Hp → List OD → List V → Prop := fun H H' v x => VRs w O H H' v x
def rI (α : Type) (_ : Addr → Prop) : Hp → Hp → α → α → Prop := fun _ _ a b => b = a
theorem rV_ok : RelOk (rV w O) := ⟨fun s h => VR.pre s h⟩
theorem rVs_ok : RelOk (rVs w O) := ⟨fun s h => VRs.pre s h⟩
theorem rI_ok : RelOk (rI α O) := ⟨fun _ h => h⟩
end

/-- the reading: there are slots -/
def tF {α β : Type} (w : Wr) (W : WX) (rel : (Addr → Prop) → Hp → Hp → α → β → Prop) (r : Env → R α) (is : List (Nat × Bool)) : L2.St → Hp → (β → Hp → Prop) → Prop := fun σ H Q =>
  ∃ env O, Dom O H ∧ EnvE w H O σ env is ∧ fR w W σ O (rel O) H (r env) Q
abbrev tE (g : G) (C : Cal) (w : Wr) (W : WX) (e : E) : TE := tF w W (rV w) (ev g C e) (rd e)
abbrev tEs (g : G) (C : Cal) (w : Wr) (W : WX) (e : Es) : TA := tF w W (rVs w) (evs g C e) (rds e)
abbrev tT (g : G) (C : Cal) (w : Wr) (W : WX) (e : E) : TT := tF w W (rI Bool) (tst g C e) (rd e)
abbrev tO (g : G) (C : Cal) (w : Wr) (W : WX) (e : Eo) : TO := tF w W (rI (Option Int)) (evo g C e) (rdo e)

theorem PE.imp {X : Cx} {e : Expr} {t t' : TE} (h : PE X e t) (k : ∀ σ H Q, t' σ H Q → t σ H Q) : PE X e t' := ⟨fun pins s σ H Q I q => h.run pins s σ H Q I (k σ H Q q)⟩
theorem PT.imp {X : Cx} {e : Expr} {t t' : TT} (h : PT X e t) (k : ∀ σ H Q, t' σ H Q → t σ H Q) : PT X e t' := ⟨fun pins s σ H Q I q => h.run pins s σ H Q I (k σ H Q q)⟩
theorem PA.imp {X : Cx} {e : List Expr} {t t' : TA} (h : PA X e t) (k : ∀ σ H Q, t' σ H Q → t σ H Q) : PA X e t' := ⟨fun pos pins s σ H Q I q => h.run pos pins s σ H Q I (k σ H Q q)⟩
theorem PO.imp {X : Cx} {e : Option Expr} {t t' : TO} (h : PO X e t) (k : ∀ σ H Q, t' σ H Q → t σ H Q) : PO X e t' := ⟨fun pins s σ H Q I q => h.run pins s σ H Q I (k σ H Q q)⟩

/-! ### what the defs promise -/
/-- a def's promise: the evaluator's answer -/
def spF (g : G) (w : Wr) (n : Nat) (f : Str) : Sp := fun vs H Q E => ∃ ds O, Dom O H ∧ Reps w H O ds vs ∧ match callD g n f ds with
  | .ok v => ∀ x H', Same H H' → VR w H H' O v x → Q x H'
  | .exc d => ∀ cls dd H', Same H H' → XR w H' O cls dd d → E cls dd H'
  | .no => False
/-- an __init__'s: n levels below -/
def spI (g : G) (w : Wr) (n : Nat) (c : Str) : Sp := fun vs H Q E => ∃ x dx us ds O, vs = V.ref x :: us ∧ H x = some (.ins (w.ca c) dx []) ∧ ¬ O x ∧ Dom O H ∧ Reps w H (fun a => O a ∨ a = x) ds us ∧ match makeD g (n + 1) c ds with
  | .ok d => ∀ H', (∀ b o, H b = some o → b ≠ x → H' b = some o) → Rep w H' O d (.ref x) → Q .non H'
  | .exc d => ∀ cls dd H', (∀ b o, H b = some o → b ≠ x → H' b = some o) → XR w H' O cls dd d → E cls dd H'
  | .no => False
/-- the promise of a def that is called with the caught exception -/
def spH (g : G) (w : Wr) (f : Str) : SpH := fun p xs H Q => ∃ d O cls dd, xs = [V.ref p.1] ∧ L2N.Zn cls dd p.2 ∧ (∃ vs, p.2.data = .fields vs) ∧ Dom O H ∧ XR w H O cls dd d ∧ match hotR g f d with
  | .ok v => ∀ x H', Same H H' → VR w H H' O v x → Q x H'
  | _ => False
def HLv (P : Program) (wd : World) (K : PySem.W.Frag) (mg : Str → Option Value) (base : Heap) (g : G) (w : Wr) : Prop :=
  ∀ f, g.hf f = true → ∃ a fd ps, mg f = some (.ref a) ∧ PySem.W.keepIn K (.ref a) = true ∧ Binds K fd ps [] ∧ FnHG P wd K mg base 1 a fd ps (spH g w f)
structure Lv (P : Program) (wd : World) (K : PySem.W.Frag) (mg : Str → Option Value) (base : Heap) (g : G) (w : Wr) (n : Nat) : Prop where
  fn : ∀ f, g.top f = true → ∃ a fd ps, mg f = some (.ref a) ∧ PySem.W.keepIn K (.ref a) = true ∧ Binds K fd ps [] ∧ FnG P wd K mg base (L2N.CX P wd) n a fd ps (spF g w n f)
  mt : ∀ c m f, g.mth c m = some f → ∃ a fd ps, Cls K (w.ca c) ∧ Meth K (w.ca c) m a ∧ Binds K fd ps [] ∧ FnG P wd K mg base (L2N.CX P wd) n a fd ps (spF g w n f)
  mkr : ∀ c k, g.cl c = true → n = k + 1 → ∃ a fd ps, mg c = some (.ref (w.ca c)) ∧ Mk K (w.ca c) a ∧ Binds K fd ps [] ∧ FnG P wd K mg base (L2N.CX P wd) k a fd ps (spI g w k c)
/-- what is known of the module -/
structure Fx (K : PySem.W.Frag) (mg : Str → Option Value) (g : G) (w : Wr) : Prop where
  hK : w.K = K
  free : ∀ x, g.fr x = true → mg x = none
  con : ∀ x d, g.con x = some d → ∃ v u, mg x = some u ∧ RelV v u ∧ ∀ H O, Rep w H O d v
  cls : ∀ c, w.cl c = true → Cls K (w.ca c)
  nf : ∀ c f, w.cl c = true → g.nf f = true → NoAttr K (w.ca c) f
/-- what an except suite may ask of its exception -/
structure Sx (X : Cx) (g : G) (w : Wr) : Prop where
  isx : ∀ (C : Cal) (W : WX) (i : Nat) (x c : Str) (p p1 p2 pos : Pos), X.N[i]? = some x → Vis X.env.scope x → (x == ("__debug__" : Str)) = false → (x == ("__classdict__" : Str)) = false → Gl X "isinstance" → g.fr "isinstance" = true → Gl X c →
    (((g.exf c).isSome = true ∧ (c == ("__debug__" : Str)) = false) ∨ (c = Str.ofString "ValueError" ∧ g.fr (Str.ofString "ValueError") = true)) → PE X (.Call (.Name "isinstance" p) [.Name x p1, .Name c p2] [] pos) (tE g C w W (.isx i c))
  xfl : ∀ (C : Cal) (W : WX) (i : Nat) (x f : Str) (p1 pos : Pos), X.N[i]? = some x → Vis X.env.scope x → (x == ("__debug__" : Str)) = false → (x == ("__classdict__" : Str)) = false → g.nf f = true → PE X (.Attribute (.Name x p1) f pos) (tE g C w W (.xfl i f))
structure Gd (X : Cx) (W : WX) (g : G) (w : Wr) (n : Nat) (hot : Bool := false) : Prop where
  fx : Fx X.K X.mg g w
  nd : X.N.Nodup
  calm : hot = false → X.calm = true
  room : hot = false → Room n X.A
  takes : L2N.Takes X W
  ng : NoG X.A
  hc : hot = true → ∃ p, L2H.Hot1 X.A p ∧ p ∈ X.pn ∧ p.1 = w.xi.a ∧ L2N.Zn w.xi.cls w.xi.dd p.2 ∧ ∃ vs, p.2.data = .fields vs
  hl : n ≠ 0 → HLv X.prog X.w X.K X.mg X.base g w
  rmH : hot = true → n ≠ 0 → L2H.RoomH 1 X.A
  lv : hot = false → Lv X.prog X.w X.K X.mg X.base g w n
  sx : hot = true → Sx X g w
end S2

set_option maxHeartbeats 4000000
/-! S2f: one rule for each form of expression. -/
namespace S2
open PySem PySem.Spec PyProof.Rows L2

section
variable {X : Cx} {W : WX} {g : G} {w : Wr} {n : Nat} {C : Cal} {a b c : Expr} {ia ib ic : E} {pos : Pos}
theorem VR.sh {H H' : Hp} {O : Addr → Prop} {d : D} {x : V} (h : Rep w H' O d x) : VR w H H' O (.sh, d) x := ⟨h, True.intro⟩
/-- the value is known -/
theorem sE_val {e : Expr} {ir : E} {d : D} {v : V} (h : PE X e (tC v)) (he : ∀ env, ev g C ir env = .ok (.sh, d)) (r : ∀ H O, Rep w H O d v) : PE X e (tE g C w W ir) :=
  PE.imp h fun σ H Q ⟨env, O, dom, en, f⟩ => by
    rw [he] at f
    exact f.ok (VR.sh (r H O))
theorem look_ok {env : Env} {i : Nat} {v : OD} (h : look env i = .ok v) : ∃ o d, env[i]? = some (some (o, d)) ∧ v = (.sh, d) ∧ o ≠ .ex ∧ o ≠ .oi := by
  unfold look at h
  split at h
  · cases h
  · cases h
  · rename_i o d n1 n e
    cases h
    exact ⟨_, _, e, rfl, fun z => by subst z; exact n rfl, fun z => by subst z; exact n1 rfl⟩
  · cases h
theorem look_tame {env : Env} {i : Nat} : (∃ v, look env i = .ok v) ∨ look env i = .no := by
  unfold look
  split <;> simp
theorem sE_var {i : Nat} {x : Str} (hN : X.N[i]? = some x) (hv : Vis X.env.scope x) (hd : (x == ("__debug__" : Str)) = false) (hcd : (x == ("__classdict__" : Str)) = false) : PE X (.Name x pos) (tE g C w W (.var i)) :=
  PE.imp (pe_var hN hv hd hcd) fun σ H Q ⟨env, O, dom, en, f⟩ => by
    have f : fR w W σ O (rV w O) H (look env i) Q := f
    rcases look_tame (env := env) (i := i) with ⟨v, e⟩ | e
    · rw [e] at f
      obtain ⟨o, d, e1, rfl, ox, oy⟩ := look_ok e
      obtain ⟨v, hv, r⟩ := en.get (List.mem_singleton.mpr rfl) e1 ox oy
      exact ⟨v, hv, f.ok (VR.sh r)⟩
    · rw [e] at f; exact f.elim
theorem sE_g {x : Str} (fx : Fx X.K X.mg g w) (hg : Gl X x) (hd : (x == ("__debug__" : Str)) = false) (hc : (g.con x).isSome = true) : PE X (.Name x pos) (tE g C w W (.g x)) := by
  obtain ⟨d, e⟩ := Option.isSome_iff_exists.mp hc
  obtain ⟨v, u, h1, h2, h3⟩ := fx.con x d e
  exact sE_val (pe_glob hg h1 h2 hd) (fun env => by show (match g.con x with | some d => R.ok (Own.sh, d) | none => .no) = _; rw [e]) h3
theorem ownL_fin {σ : L2.St} {O : Addr → Prop} {H : Hp} {r : R D} {Q : VK} (h : fR w W σ O (rV w O) H (ownL r) Q) : ∃ d, r = .ok d ∧ HO1 w H O d Q := by
  unfold ownL at h
  obtain ⟨d, e, h⟩ := h.tame
  exact ⟨d, e, fun z H' s q => h z H' s q⟩
theorem asB_fin {σ : L2.St} {O : Addr → Prop} {H : Hp} {r : R Bool} {Q : VK} (h : fR w W σ O (rV w O) H (asB r) Q) : ∃ d, r = .ok d ∧ Q (.bl d) H := by
  unfold asB at h
  obtain ⟨d, e, h⟩ := h.tame
  exact ⟨d, e, h.ok (VR.sh rfl)⟩
theorem tame_fin {σ : L2.St} {O : Addr → Prop} {H : Hp} {r : R Bool} {Q : Bool → Hp → Prop} (h : fR w W σ O (rI Bool O) H r.tame Q) : ∃ d, r = .ok d ∧ Q d H := by
  cases r with
  | ok d => exact ⟨d, rfl, fR.ok (rel := rI Bool O) h rfl⟩
  | exc _ => exact h.elim
  | no => exact h.elim
/-- one value, then something -/
theorem one_in {σ : L2.St} {H : Hp} {α' β' : Type} {rel2 : Hp → Hp → α' → β' → Prop} {Q : β' → Hp → Prop} {env : Env} {O : Addr → Prop} {is : List (Nat × Bool)} {f : OD → R α'} {R1 : V → Hp → Prop}
    (ro : RelOk rel2) (dom : Dom O H) (en : EnvE w H O σ env (rd ia ++ is)) (h : fR w W σ O rel2 H ((ev g C ia env).bind f) Q)
    (k : ∀ v x H1, Dom O H1 → EnvE w H1 O σ env is → VR w H H1 O v x → Same H H1 → fR w W σ O rel2 H1 (f v) Q → R1 x H1) : tE g C w W ia σ H R1 :=
  ⟨env, O, dom, en.l, h.bind (rel' := rV w O) fun v x H1 s1 r1 h1 => k v x H1 (dom.same s1) (en.r.same s1) r1 s1 (h1.later ro s1)⟩
theorem two_in {σ : L2.St} {H : Hp} {α' β' : Type} {rel2 : Hp → Hp → α' → β' → Prop} {Q : β' → Hp → Prop} {env : Env} {O : Addr → Prop} {is : List (Nat × Bool)} {f : OD → OD → R α'} {R1 : V → V → Hp → Prop}
    (ro : RelOk rel2) (dom : Dom O H) (en : EnvE w H O σ env (rd ia ++ (rd ib ++ is))) (h : fR w W σ O rel2 H ((ev g C ia env).bind fun v => (ev g C ib env).bind fun u => f v u) Q)
    (k : ∀ v u x y H2, Dom O H2 → EnvE w H2 O σ env is → Rep w H2 O v.2 x → Rep w H2 O u.2 y → fR w W σ O rel2 H2 (f v u) Q → R1 x y H2) : tE g C w W ia σ H fun x H1 => tE g C w W ib σ H1 fun y H2 => R1 x y H2 :=
  one_in ro dom en h fun v x H1 d1 e1 r1 _ h1 => one_in ro d1 e1 h1 fun u y H2 d2 e2 r2 s2 h2 => k v u x y H2 d2 e2 (Rep.same s2 _ _ r1.1) r2.1 h2
theorem chain_in {β' : Type} {σ : L2.St} {H : Hp} {α' : Type} {rel2 : Hp → Hp → α' → β' → Prop} {Q : β' → Hp → Prop} {env : Env} {O : Addr → Prop} {o : Cop} {f : OD → OD → R α'} {z : R α'} {Q2 : VK} {r' : R2}
    (ro : RelOk rel2) (dom : Dom O H) (en : EnvE w H O σ env (rd ia ++ (rd ib ++ rd ic)))
    (h : fR w W σ O rel2 H ((ev g C ia env).bind fun x => (ev g C ib env).bind fun y => (cmpD o x.2 y.2).tame.bind fun k => if k = true then (ev g C ic env).bind fun z => f y z else z) Q)
    (k1 : ∀ v u x y H2, Dom O H2 → Rep w H2 O v.2 x → Rep w H2 O u.2 y → fR w W σ O rel2 H2 (f v u) Q → r' x y H2 Q2) (k2 : ∀ H2, fR w W σ O rel2 H2 z Q → Q2 (.bl false) H2) :
    tChain (RC w (cmpD o)) r' (tE g C w W ia) (tE g C w W ib) (tE g C w W ic) σ H Q2 := by
  refine one_in ro dom en h fun v x H1 d1 e1 r1 _ h1 => one_in ro d1 e1 h1 fun u y H2 d2 e2 r2 s2 h2 => ?_
  obtain ⟨k, e, h2⟩ := h2.tame
  refine ⟨_, _, O, d2, Rep.same s2 _ _ r1.1, r2.1, k, e, k, rfl, ?_⟩
  cases k with
  | false =>
    simp only [Bool.false_eq_true, if_false] at h2 ⊢
    exact k2 H2 h2
  | true =>
    simp only [if_true] at h2 ⊢
    exact one_in (is := []) ro d2 (by rw [List.append_nil]; exact e2) h2 fun z' z H3 d3 _ r3 s3 h3 => k1 u z' y z H3 d3 (Rep.same s3 _ _ r2.1) r3.1 h3
theorem sh_in {σ : L2.St} {H : Hp} {Q : VK} {env : Env} {O : Addr → Prop} (dom : Dom O H) (en : EnvE w H O σ env (rd ia)) (h : fR w W σ O (rV w O) H (shD (fst1 (ev g C ia env))) Q) : tE g C w W ia σ H Q := by
  refine ⟨env, O, dom, en, ?_⟩
  cases e : ev g C ia env with
  | ok v =>
    rw [e] at h
    exact fun x H' s q => h x H' s (VR.sh q.1)
  | exc d => rw [e] at h; exact h
  | no => rw [e] at h; exact h
theorem PW.imp {X : Cx} {e : Expr} {t t' : TT} (h : PW X e t) (k : ∀ σ H Q, t' σ H Q → t σ H Q) : PW X e t' := ⟨fun wh pins s σ H Q I q => h.run wh pins s σ H Q I (k σ H Q q)⟩
variable (ha : PE X a (tE g C w W ia)) (hb : PE X b (tE g C w W ib)) (hc : PE X c (tE g C w W ic))
include ha hb
theorem sE_bin (hw : w.K = X.K) (o : Bop) : PE X (.BinOp a (opOf o) b pos) (tE g C w W (.bin o ia ib)) :=
  PE.imp (pe_op (op_bin hw o) ha hb) fun σ H Q ⟨env, O, dom, en, f⟩ => by
    refine two_in (is := []) rV_ok dom (en.sub fun i m => by simpa [rd] using m) f fun v u x y H2 d2 e2 r1 r2 h2 => ?_
    obtain ⟨d, e, q⟩ := ownL_fin h2
    exact ⟨_, _, O, d2, r1, r2, d, e, q⟩
theorem sE_cmp (hw : w.K = X.K) (hu : X.A.units + 66 < cLine) (o : Cop) (hm : behindInMarks (cmpOf o) b = false) : PE X (.Compare a [cmpOf o] [b] pos) (tE g C w W (.cmp o ia ib)) :=
  PE.imp (pe_cmpR (op_cmp hw hu o) ha hb hm) fun σ H Q ⟨env, O, dom, en, f⟩ => by
    refine two_in (is := []) rV_ok dom (en.sub fun i m => by simpa [rd] using m) f fun v u x y H2 d2 e2 r1 r2 h2 => ?_
    obtain ⟨d, e, q⟩ := asB_fin h2
    exact ⟨_, _, O, d2, r1, r2, d, e, q⟩
theorem sT_cmp (hw : w.K = X.K) (hu : X.A.units + 66 < cLine) (o : Cop) (hm : behindInMarks (cmpOf o) b = false) : PT X (.Compare a [cmpOf o] [b] pos) (tT g C w W (.cmp o ia ib)) :=
  PT.imp (pt_cmpR (op_cmp hw hu o) ha hb hm) fun σ H Q ⟨env, O, dom, en, f⟩ => by
    refine two_in (is := []) rI_ok dom (en.sub fun i m => by simpa [rd] using m) f fun v u x y H2 d2 e2 r1 r2 h2 => ?_
    obtain ⟨d, e, q⟩ := tame_fin h2
    exact ⟨_, _, O, d2, r1, r2, d, e, d, rfl, q⟩
theorem sE_ix (hw : w.K = X.K) (hs : PlainIx b) (hv : ∀ i, ia ≠ .var i) : PE X (.Subscript a b pos) (tE g C w W (.ix ia ib)) :=
  PE.imp (pe_ix (ix_any hw) ha hb hs) fun σ H Q ⟨env, O, dom, en, f⟩ => by
    refine two_in (is := []) rV_ok dom (en.sub fun i m => ?_) f fun v u x y H2 d2 e2 r1 r2 h2 => ?_
    · rw [List.append_nil] at m
      cases ia <;> first | exact m | exact absurd rfl (hv _)
    · have h2 : fR w W σ O (rV w O) H2 ((ixD v.2 u.2).tame.bind fun d => .ok (.sh, d)) Q := h2
      obtain ⟨d, e, h2⟩ := h2.tame
      exact ⟨_, _, O, r1.k, r2, d, e, fun z r => h2.ok (VR.sh r)⟩
omit ha in
/-- x[b]: x's own list is only looked into -/
theorem sE_ixv {i : Nat} {x : Str} {p : Pos} (hw : w.K = X.K) (hN : X.N[i]? = some x) (hv : Vis X.env.scope x) (hd : (x == ("__debug__" : Str)) = false) (hcd : (x == ("__classdict__" : Str)) = false) (hs : PlainIx b) : PE X (.Subscript (.Name x p) b pos) (tE g C w W (.ix (.var i) ib)) :=
  PE.imp (pe_ix (ix_any hw) (pe_var hN hv hd hcd) hb hs) fun σ H Q ⟨env, O, dom, en, f⟩ => by
    have f : fR w W σ O (rV w O) H ((look env i).bind fun x => (ev g C ib env).bind fun y => shD (ixD x.2 y.2).tame) Q := f
    rcases look_tame (env := env) (i := i) with ⟨v, e⟩ | e
    · rw [e] at f
      obtain ⟨o, d, e1, rfl, ox, oy⟩ := look_ok e
      obtain ⟨v, hv, r⟩ := en.getK (List.mem_append_left _ (List.mem_singleton.mpr rfl)) e1 ox
      refine ⟨v, hv, one_in (is := []) rV_ok dom (by rw [List.append_nil]; exact en.r) f fun u y H2 d2 e2 r2 s2 h2 => ?_⟩
      have h2 : fR w W σ O (rV w O) H2 ((ixD d u.2).tame.bind fun d => .ok (.sh, d)) Q := h2
      obtain ⟨d', e', h2⟩ := h2.tame
      exact ⟨_, _, O, RepK.same s2 _ _ r, r2.1, d', e', fun z r => h2.ok (VR.sh r)⟩
    · rw [e] at f; exact f.elim
include hc
theorem sE_chain (hw : w.K = X.K) (hu : X.A.units + 66 < cLine) (o p : Cop) (hm : lastMarks [cmpOf o, cmpOf p] [b, c] = false) : PE X (.Compare a [cmpOf o, cmpOf p] [b, c] pos) (tE g C w W (.chain o p ia ib ic)) :=
  PE.imp (pe_chain (op_cmp hw hu o) (op_cmp hw hu p) ha hb hc hm) fun σ H Q ⟨env, O, dom, en, f⟩ => by
    refine chain_in (f := fun y z => asB (cmpD p y.2 z.2)) (z := .ok (.sh, .bl false)) rV_ok dom en f (fun v u x y H2 d2 r1 r2 h2 => ?_) fun H2 h2 => h2.ok (VR.sh rfl)
    obtain ⟨d, e, q⟩ := asB_fin h2
    exact ⟨_, _, O, d2, r1, r2, d, e, q⟩
theorem sT_chain (hw : w.K = X.K) (hu : X.A.units + 66 < cLine) (o p : Cop) (hm : lastMarks [cmpOf o, cmpOf p] [b, c] = false) : PT X (.Compare a [cmpOf o, cmpOf p] [b, c] pos) (tT g C w W (.chain o p ia ib ic)) :=
  PT.imp (pt_chain (op_cmp hw hu o) (op_cmp hw hu p) ha hb hc hm) fun σ H Q ⟨env, O, dom, en, f⟩ => by
    refine chain_in (f := fun y z => (cmpD p y.2 z.2).tame) (z := .ok false) rI_ok dom en f (fun v u x y H2 d2 r1 r2 h2 => ?_) fun H2 h2 => ⟨false, rfl, h2.ok rfl⟩
    obtain ⟨d, e, q⟩ := tame_fin h2
    exact ⟨_, _, O, d2, r1, r2, d, e, d, rfl, q⟩
omit hb hc
theorem sE_neg : PE X (.UnaryOp .USub a pos) (tE g C w W (.neg ia)) :=
  PE.imp (pe_un un_neg ha) fun σ H Q ⟨env, O, dom, en, f⟩ => by
    refine one_in (is := []) rV_ok dom (by rw [List.append_nil]; exact en) f fun v x H1 d1 e1 r1 _ h1 => ?_
    obtain ⟨o, d⟩ := v
    cases d with
    | int i => exact ⟨i, r1.1, h1.ok (VR.sh rfl)⟩
    | _ => exact h1.elim
theorem sE_not (hw : w.K = X.K) : PE X (.UnaryOp .Not a pos) (tE g C w W (.not ia)) :=
  PE.imp (pe_notT ha) fun σ H Q ⟨env, O, dom, en, f⟩ => by
    refine one_in (is := []) rV_ok dom (by rw [List.append_nil]; exact en) f fun v x H1 d1 e1 r1 _ h1 => ?_
    obtain ⟨d, e, q⟩ := asB_fin h1
    cases e2 : truthD v.2 with
    | ok k =>
      rw [e2] at e
      have e : R.ok (!k) = R.ok d := e
      cases e
      exact ⟨k, tru_of hw r1.1 e2, q⟩
    | exc _ => rw [e2] at e; cases e
    | no => rw [e2] at e; cases e
theorem sT_val (hw : w.K = X.K) (he : ∀ whole, isTrue a X.env whole = (do let v ← whole; standAt a.pos; holding [v] (truthy v))) (k : ∀ env, tst g C ia env = (ev g C ia env).bind fun x => (truthD x.2).tame) : PT X a (tT g C w W ia) :=
  PT.imp (pt_truth ha he) fun σ H Q ⟨env, O, dom, en, f⟩ => by
    rw [k] at f
    refine one_in (is := []) rI_ok dom (by rw [List.append_nil]; exact en) f fun v x H1 d1 e1 r1 _ h1 => ?_
    obtain ⟨d, e, q⟩ := tame_fin h1
    exact ⟨d, tru_of hw r1.1 e, q⟩
omit ha in
theorem sT_not (hp : PT X a (tT g C w W ia)) : PT X (.UnaryOp .Not a pos) (tT g C w W (.not ia)) :=
  PT.imp (pt_not hp) fun σ H Q ⟨env, O, dom, en, f⟩ => ⟨env, O, dom, en, f.bind fun v x H1 s1 r1 h1 => by
    have r1 : x = v := r1
    subst r1
    exact (h1.later rI_ok s1).ok rfl⟩

/-! ### and, or, if -/
omit ha in
theorem okB_split {σ : L2.St} {O : Addr → Prop} {H : Hp} {α' β' : Type} {rel2 : Hp → Hp → α' → β' → Prop} {Q : β' → Hp → Prop} {r : R Bool} {f : Bool → R α'} {Q' : Bool → Hp → Prop} (ro : RelOk rel2) (h : fR w W σ O rel2 H (r.bind f) Q)
    (k : ∀ v H1, Same H H1 → fR w W σ O rel2 H1 (f v) Q → Q' v H1) : fR w W σ O (rI Bool O) H r Q' := h.bind (rel' := rI Bool O) fun v x H1 s1 r1 h1 => by
  have r1 : x = v := r1
  subst r1
  exact k x H1 s1 (h1.later ro s1)
theorem sE_and {rest : List Expr} (hw : w.K = X.K) (hb : PE X (.BoolOp .And (b :: rest) pos) (tE g C w W ib)) : PE X (.BoolOp .And (a :: b :: rest) pos) (tE g C w W (.and ia ib)) :=
  PE.imp (pe_andT ha hb) fun σ H Q ⟨env, O, dom, en, f⟩ => by
    refine one_in rV_ok dom en f fun v x H1 d1 e1 r1 _ h1 => ?_
    obtain ⟨k, e, h1⟩ := h1.tame
    refine ⟨k, tru_of hw r1.1 e, ?_⟩
    cases k with
    | false =>
      simp only [Bool.false_eq_true, if_false] at h1 ⊢
      exact h1.ok (VR.sh r1.1)
    | true =>
      simp only [if_true] at h1 ⊢
      exact sh_in d1 e1 h1
theorem sE_or {rest : List Expr} (hw : w.K = X.K) (hb : PE X (.BoolOp .Or (b :: rest) pos) (tE g C w W ib)) : PE X (.BoolOp .Or (a :: b :: rest) pos) (tE g C w W (.or ia ib)) :=
  PE.imp (pe_orT ha hb) fun σ H Q ⟨env, O, dom, en, f⟩ => by
    refine one_in rV_ok dom en f fun v x H1 d1 e1 r1 _ h1 => ?_
    obtain ⟨k, e, h1⟩ := h1.tame
    refine ⟨k, tru_of hw r1.1 e, ?_⟩
    cases k with
    | false =>
      simp only [Bool.false_eq_true, if_false] at h1 ⊢
      exact sh_in d1 e1 h1
    | true =>
      simp only [if_true] at h1 ⊢
      exact h1.ok (VR.sh r1.1)
omit ha in
theorem sT_and {rest : List Expr} (hp : PT X a (tT g C w W ia)) (hq : PW X (.BoolOp .And (b :: rest) pos) (tT g C w W ib)) : PW X (.BoolOp .And (a :: b :: rest) pos) (tT g C w W (.and ia ib)) :=
  PW.imp (pw_and hp hq) fun σ H Q ⟨env, O, dom, en, f⟩ => ⟨env, O, dom, en.l, okB_split rI_ok f fun v H1 s1 h1 => by
    cases v with
    | false =>
      simp only [Bool.false_eq_true, if_false] at h1 ⊢
      exact h1.ok rfl
    | true =>
      simp only [if_true] at h1 ⊢
      exact ⟨env, O, dom.same s1, en.r.same s1, h1⟩⟩
omit ha in
theorem sT_or {rest : List Expr} (hp : PT X a (tT g C w W ia)) (hq : PW X (.BoolOp .Or (b :: rest) pos) (tT g C w W ib)) : PW X (.BoolOp .Or (a :: b :: rest) pos) (tT g C w W (.or ia ib)) :=
  PW.imp (pw_or hp hq) fun σ H Q ⟨env, O, dom, en, f⟩ => ⟨env, O, dom, en.l, okB_split rI_ok f fun v H1 s1 h1 => by
    cases v with
    | false =>
      simp only [Bool.false_eq_true, if_false] at h1 ⊢
      exact ⟨env, O, dom.same s1, en.r.same s1, h1⟩
    | true =>
      simp only [if_true] at h1 ⊢
      exact h1.ok rfl⟩
include hb
omit ha in
theorem sE_ife (hp : PT X c (tT g C w W ic)) (ha : PE X a (tE g C w W ia)) : PE X (.IfExp c a b pos) (tE g C w W (.ife ic ia ib)) :=
  PE.imp (pe_ifExp hp ha hb) fun σ H Q ⟨env, O, dom, en, f⟩ => ⟨env, O, dom, en.l, okB_split rV_ok f fun v H1 s1 h1 => by
    cases v with
    | false =>
      simp only [Bool.false_eq_true, if_false] at h1 ⊢
      exact ⟨env, O, dom.same s1, en.r.r.same s1, h1⟩
    | true =>
      simp only [if_true] at h1 ⊢
      exact ⟨env, O, dom.same s1, en.r.l.same s1, h1⟩⟩
end
section
variable {X : Cx} {W : WX} {g : G} {w : Wr} {n : Nat} {C : Cal} {a : Expr} {ia : E} {es : List Expr} {is : Es} {pos : Pos}
/-! ### lists of values -/
theorem sA_nil : PA X [] (tEs g C w W .nil) := PA.imp pa_nil fun σ H Q ⟨env, O, dom, en, f⟩ => fR.ok (rel := rVs w O) (a := []) (b := []) f rfl
theorem sA_cons (ha : PE X a (tE g C w W ia)) (hs : PA X es (tEs g C w W is)) (h : starEach (a :: es) X.env = (false, eval a X.env) :: starEach es X.env) : PA X (a :: es) (tEs g C w W (.cons ia is)) :=
  PA.imp (pa_cons ha hs h) fun σ H Q ⟨env, O, dom, en, f⟩ => by
    have f : fR w W σ O (rVs w O) H ((ev g C ia env).bind fun x => (evs g C is env).bind fun l => .ok (x :: l)) Q := f
    refine ⟨env, O, dom, en.l, f.bind (rel' := rV w O) fun v x H1 s1 r1 h1 => ⟨env, grow O v x, grow_dom dom s1 r1, (en.r.wide (grow_new r1)).same s1, ?_⟩⟩
    cases e : evs g C is env with
    | ok vs =>
      rw [e] at h1
      exact fun xs H2 s2 r2 => h1 (x :: xs) H2 (s1.trans s2) ⟨x, xs, H1, rfl, s1, s2, r1, r2⟩
    | exc d => rw [e] at h1; exact fun c dd H' s' q => h1 c dd H' (s1.trans s') (q.mono fun a z => .inl z)
    | no => rw [e] at h1; exact h1
theorem es_in {σ : L2.St} {H : Hp} {α' β' : Type} {rel2 : Hp → Hp → α' → β' → Prop} {Q : β' → Hp → Prop} {env : Env} {O : Addr → Prop} {js : List (Nat × Bool)} {f : List OD → R α'} {R1 : List V → Hp → Prop}
    (ro : RelOk rel2) (dom : Dom O H) (en : EnvE w H O σ env (rds is ++ js)) (h : fR w W σ O rel2 H ((evs g C is env).bind f) Q)
    (k : ∀ v x H1, Dom O H1 → EnvE w H1 O σ env js → VRs w O H H1 v x → Same H H1 → fR w W σ O rel2 H (f v) Q → R1 x H1) : tEs g C w W is σ H R1 :=
  ⟨env, O, dom, en.l, h.bind (rel' := rVs w O) fun v x H1 s1 r1 h1 => k v x H1 (dom.same s1) (en.r.same s1) r1 s1 h1⟩
theorem sE_tup (hs : PA X es (tEs g C w W is)) {x1 : Nat} : PE X (.Tuple es x1 pos) (tE g C w W (.tup is)) :=
  PE.imp (pe_tup hs) fun σ H Q ⟨env, O, dom, en, f⟩ => by
    refine es_in (js := []) rV_ok dom (by rw [List.append_nil]; exact en) f fun v x H1 d1 e1 r1 s1 h1 => ?_
    split at h1
    · rename_i hz
      have hz := of_decide_eq_true hz
      rw [szL_eq, r1.length] at hz
      refine ⟨hz, fun p hp => ?_⟩
      refine (h1.later rV_ok s1) _ _ (same_new hp) (VR.sh ⟨p, _, rfl, .inl (.inl upd_same), Reps.same (same_new hp) _ _ r1.reps⟩)
    · exact h1.elim
theorem sE_lst (hs : PA X es (tEs g C w W is)) : PE X (.List es pos) (tE g C w W (.lst is)) :=
  PE.imp (pe_lst hs) fun σ H Q ⟨env, O, dom, en, f⟩ => by
    refine es_in (js := []) rV_ok dom (by rw [List.append_nil]; exact en) f fun v x H1 d1 e1 r1 s1 h1 => ?_
    split at h1
    · rename_i hz
      have hz := of_decide_eq_true hz
      rw [szL_eq, r1.length] at hz
      refine ⟨hz, fun p hp => ?_⟩
      have wid : ∀ a, (O a ∨ a = p) → O a ∨ H1 a = none := fun a z => z.imp id fun z => by rw [z]; exact hp
      refine h1 _ _ (s1.trans (same_new hp)) ⟨⟨p, _, rfl, upd_same, d1.free hp, Reps.same (same_new hp) _ _ r1.reps⟩, ?_⟩
      show Frs w H (upd H1 p (.lst x)) O (listOwn v, _) (.ref p)
      unfold listOwn
      split
      · rename_i hq
        rw [Bool.and_eq_true] at hq
        obtain ⟨qs, e, nd, q, ks⟩ := r1.own hq.2
        refine ⟨p, qs, _, rfl, rfl, s1.free hp, by rw [upd_same, e], List.nodup_cons.mpr ⟨fun z => ?_, nd⟩, q, Kids.same (same_new hp) (Kids.wide (fun b z => ?_) ks)⟩
        · obtain ⟨vs, y⟩ := ks.there p z
          rw [hp] at y; cases y
        · rcases z with z | z
          · exact .inl (.inl z)
          · rcases List.mem_cons.mp z with z | z
            · subst z; exact .inr hp
            · exact .inl (.inr z)
      · exact ⟨p, rfl, s1.free hp, rfl, p, _, rfl, upd_same, Reps.same (same_new hp) _ _ (Reps.wide wid _ _ r1.reps)⟩
    · exact h1.elim
end
end S2

set_option maxHeartbeats 4000000
/-! S2g: slices, fields, calls. -/
namespace S2
open PySem PySem.Spec PyProof.Rows L2

section
variable {w : Wr} {H H' : Hp} {O O' : Addr → Prop}
/-- a field -/
theorem fld_get {f : Str} : ∀ {ns : List Str} {ds : List D} {fs : List (Str × V)} {d : D}, fs.map (·.1) = ns → Reps w H O ds (fs.map (·.2)) → fldL f ns ds = some d → ∃ v, fs.lookup f = some v ∧ Rep w H O d v
  | [], ds, fs, d, _, _, h => by unfold fldL at h; cases h
  | n :: ns, [], fs, d, _, _, h => by unfold fldL at h; cases h
  | n :: ns, x :: ds, [], d, e, _, _ => by cases e
  | n :: ns, x :: ds, (m, v) :: fs, d, e, r, h => by
    obtain ⟨v', r', e2, h1, h2⟩ := r
    have e1 : m = n := (List.cons.inj e).1
    have e3 : fs.map (·.1) = ns := (List.cons.inj e).2
    have e4 := List.cons.inj e2
    subst e1
    unfold fldL at h
    by_cases z : m = f
    · subst z
      rw [if_pos rfl] at h
      cases h
      refine ⟨v, by simp [List.lookup_cons], ?_⟩
      rw [show v = v' from e4.1]; exact h1
    · rw [if_neg z] at h
      obtain ⟨u, h3, h4⟩ := fld_get e3 (by rw [show fs.map (·.2) = r' from e4.2]; exact h2) h
      refine ⟨u, ?_, h4⟩
      have : (f == m) = false := by simpa using fun q : f = m => z q.symm
      simp only [List.lookup_cons, this]
      exact h3
theorem fld_none {m : Str} {ns : List Str} {fs : List (Str × V)} (e : fs.map (·.1) = ns) (h : ns.contains m = false) : fs.lookup m = none := by
  subst e
  induction fs with
  | nil => rfl
  | cons p fs ih =>
    simp only [List.map_cons, List.contains_cons, Bool.or_eq_false_iff] at h
    obtain ⟨q, v⟩ := p
    have h1 : (m == q) = false := h.1
    rw [List.lookup_cons, h1]
    exact ih h.2
end

section
variable {X : Cx} {W : WX} {g : G} {w : Wr} {n : Nat} {C : Cal} {a : Expr} {ia : E} {lo hi : Option Expr} {il ih : Eo} {es : List Expr} {is : Es} {pos p2 : Pos}
theorem sO_none : PO X none (tO g C w W .none) := PO.imp po_none fun σ H Q ⟨env, O, dom, en, f⟩ => fR.ok (rel := rI (Option Int) O) (a := none) (b := none) f rfl
theorem sO_some (ha : PE X a (tE g C w W ia)) : PO X (some a) (tO g C w W (.some ia)) := PO.imp (po_some ha) fun σ H Q ⟨env, O, dom, en, f⟩ => by
  refine one_in (is := []) rI_ok dom (by rw [List.append_nil]; exact en) f fun v x H1 d1 e1 r1 _ h1 => ?_
  obtain ⟨o, d⟩ := v
  cases d with
  | int i => exact ⟨i, r1.1, h1.ok rfl⟩
  | _ => exact h1.elim
theorem sE_sl (hw : w.K = X.K) (ha : PE X a (tE g C w W ia)) (hl : PO X lo (tO g C w W il)) (hh : PO X hi (tO g C w W ih)) : PE X (.Subscript a (.Slice lo hi none p2) pos) (tE g C w W (.sl ia il ih)) :=
  PE.imp (pe_slice (sl_any hw) ha hl hh) fun σ H Q ⟨env, O, dom, en, f⟩ => by
    refine one_in rV_ok dom en f fun v x H1 d1 e1 r1 _ h1 => ⟨env, O, d1, e1.l, h1.bind (rel' := rI (Option Int) O) fun l l' H2 s2 z h2 => ⟨env, O, d1.same s2, e1.r.same s2, (h2.later rV_ok s2).bind (rel' := rI (Option Int) O) fun k k' H3 s3 z' h3 => ?_⟩⟩
    cases (show l' = l from z)
    cases (show k' = k from z')
    obtain ⟨d, e, q⟩ := ownL_fin (h3.later rV_ok s3)
    exact ⟨_, O, (d1.same s2).same s3, Rep.same (s2.trans s3) _ _ r1.1, d, e, q⟩
theorem fld_fin {f : Str} {σ : L2.St} {O : Addr → Prop} {H : Hp} {Q : VK} {d : D} {x : V} (fx : Fx X.K X.mg g w) (hf : g.nf f = true) (r : RepK w H O d x) (h : fR w W σ O (rV w O) H (shD (fldD f d).tame) Q) :
    ∃ a C dx fs v, x = .ref a ∧ H a = some (.ins C dx fs) ∧ Cls X.K C ∧ NoAttr X.K C f ∧ fs.lookup f = some v ∧ Q v H := by
  have h : fR w W σ O (rV w O) H ((fldD f d).tame.bind fun d => .ok (.sh, d)) Q := h
  obtain ⟨d', e, h2⟩ := h.tame
  clear h
  cases d with
  | ob c ns vs =>
    obtain ⟨p, dx, fs, rfl, hp, ⟨hc, k⟩, r1⟩ := r
    have e : (match fldL f ns vs with | some d => R.ok d | none => .no) = .ok d' := e
    split at e
    · rename_i d2 e2
      cases e
      obtain ⟨v, l, rv⟩ := fld_get k r1 e2
      exact ⟨p, _, dx, fs, v, rfl, hp, fx.cls c hc, fx.nf c f hc hf, l, fR.ok (rel := rV w O) h2 (VR.sh rv)⟩
    · cases e
  | _ => exact nomatch (show (R.no : R D) = R.ok d' from e)
theorem sE_fldv {f : Str} {i : Nat} {x : Str} {p : Pos} (fx : Fx X.K X.mg g w) (hf : g.nf f = true) (hN : X.N[i]? = some x) (hv : Vis X.env.scope x) (hd : (x == ("__debug__" : Str)) = false) (hcd : (x == ("__classdict__" : Str)) = false)
    (hb : attributeBase (.Name x p) f X.env (eval (.Name x p) X.env) = eval (.Name x p) X.env) : PE X (.Attribute (.Name x p) f pos) (tE g C w W (.fld (.var i) f)) :=
  PE.imp (pe_fld (pe_var hN hv hd hcd) hb) fun σ H Q ⟨env, O, dom, en, h⟩ => by
    have h : fR w W σ O (rV w O) H (match env[i]? with
      | some (some (.ex, d)) => .no
      | some (some (_, d)) => shD (fldD f d).tame
      | _ => .no) Q := h
    split at h
    · exact h.elim
    · rename_i o d ox e
      obtain ⟨v, hv, r⟩ := en.getK (List.mem_singleton.mpr rfl) e (fun z => by subst z; exact ox rfl)
      exact ⟨v, hv, fld_fin fx hf r h⟩
    · exact h.elim
/-! ### calls -/
variable {x : Str} {p : Pos} {e : Expr}
theorem pe_callSD0 {CX : CXT} {k : Nat} {f : Addr} {fd : FuncData} {ps : List Str} {sp : Sp} {E : L2.St → XK} (F : FnG X.prog X.w X.K X.mg X.base CX k f fd ps sp) (hr : Room k X.A) (ng : NoG X.A) (hg : Gl X x) (hm : X.mg x = some (.ref f)) (hk : PySem.W.keepIn X.K (.ref f) = true) (hb : Binds X.K fd ps []) (hx : ∀ σ, PassesAt CX X σ (E σ))
    (hdb : (x == ("__debug__" : Str)) = false) : PE X (.Call (.Name x p) [] [] pos) (tCallG sp E tNil) := by
  refine ⟨fun pins s σ H Q I h => ?_⟩
  refine wpAny_Call_Name_kw (ld_glob I hg hm ?_ hdb)
  exact PySem.W.callWith_K0 I.kIn hk (run_fnG (us := []) F hr ng hb (hx σ) I .nil h)
/-- no star among the arguments -/
def Plain (X : Cx) : List Expr → Prop
  | [] => True
  | e :: es => starEach (e :: es) X.env = (false, eval e X.env) :: starEach es X.env ∧ Plain X es
theorem starEach_nil {env : PySem.Env} : starEach [] env = [] := by rfl
theorem Plain.any : ∀ {es : List Expr} (pos : Pos), Plain X es → (backTo pos (starEach es X.env)).any (·.1) = false
  | [], _, _ => by rw [starEach_nil]; rfl
  | e :: es, pos, ⟨h, t⟩ => by
    have ih := Plain.any pos t
    rw [h]
    cases hs : starEach es X.env with
    | nil => rfl
    | cons q r =>
      rw [hs] at ih
      show (false || (backTo pos (q :: r)).any (·.1)) = false
      rw [ih]; rfl
theorem call_fin {m : Nat} {f : Str} {σ : L2.St} {O : Addr → Prop} {H H1 : Hp} {Q : VK} {l : List OD} {xs : List V} (dom : Dom O H1) (r : VRs w O H H1 l xs) (s1 : Same H H1) (h : fR w W σ O (rV w O) H (callD g m f (l.map (·.2))) Q) : spF g w m f xs H1 Q (WE W σ) := by
  refine ⟨_, O, dom, r.reps, ?_⟩
  have h := h.later rV_ok s1
  cases e : callD g m f (l.map (·.2)) with
  | ok v => rw [e] at h; exact h
  | exc d => rw [e] at h; exact h
  | no => rw [e] at h; exact h
theorem sE_call0 (gd : Gd X W g w n) (ht : g.top x = true) (hg : Gl X x) (hd : (x == ("__debug__" : Str)) = false) : PE X (.Call (.Name x p) [] [] pos) (tE g (cal g n) w W (.call x .nil)) := by
  obtain ⟨f, fd, ps, hm, hk, hb, F⟩ := (gd.lv rfl).fn x ht
  refine PE.imp (pe_callSD0 F (gd.room rfl) gd.ng hg hm hk hb (fun σ => L2N.passAt gd.takes σ) hd) fun σ H Q ⟨env, O, dom, en, h⟩ => ?_
  exact call_fin (l := []) (xs := []) dom rfl (Same.refl H) h
theorem sE_call (gd : Gd X W g w n) (ht : g.top x = true) (hg : Gl X x) (hd : (x == ("__debug__" : Str)) = false) (hs : PA X (e :: es) (tEs g (cal g n) w W is)) (hp : Plain X (e :: es)) : PE X (.Call (.Name x p) (e :: es) [] pos) (tE g (cal g n) w W (.call x is)) := by
  obtain ⟨f, fd, ps, hm, hk, hb, F⟩ := (gd.lv rfl).fn x ht
  refine PE.imp (pe_callG F (gd.room rfl) gd.ng hg hm hk hb (fun σ => L2N.passAt gd.takes σ) hs hd hp.1 (hp.2.any pos)) fun σ H Q ⟨env, O, dom, en, h⟩ => ?_
  refine es_in (js := []) rV_ok dom (by rw [List.append_nil]; exact en) h fun v y H1 d1 e1 r1 s1 h1 => ?_
  exact call_fin d1 r1 s1 h1
/-! ### new instances -/
theorem under_call {A : Around} (h : NoG A) (us : List Value) (kw : List (Str × Value)) : NoG (A.under (.builtin "type.__call__" ⟨us, kw⟩)) := by
  have e : (Code.builtin "type.__call__" ⟨us, kw⟩).guards = [] := by
    unfold Code.guards
    rw [if_neg]
    show ¬ (guardIds.contains "type.__call__") = true
    decide
  have q : (A.under (.builtin "type.__call__" ⟨us, kw⟩)).guards = pushGuards (Code.builtin "type.__call__" ⟨us, kw⟩).guards A.guards := rfl
  unfold NoG at h ⊢
  rw [q, e, h]
  rfl
theorem run_makeS {k : Nat} {K f : Addr} {fd : FuncData} {ps : List Str} {sp : Sp} {CX : CXT} {E : XK} {pins : List (Addr × Obj)} {σ : L2.St} {H : Hp} {s : Shared} {Q : VK} {us : List Value} {vs : List V} (M : Mk X.K K f) (F : FnG X.prog X.w X.K X.mg X.base CX k f fd ps sp) (hr : Room (k + 1) X.A) (ng : NoG X.A) (hb : Binds X.K fd ps [])
    (hx : PassesAt CX X σ E) (I : Inv X pins σ H s) (r : Vals vs us)
    (h : ∀ x dx, H x = none → H dx = none → dx ≠ x → sp (.ref x :: vs) (upd (upd H dx (.own x)) x (.ins K dx [])) (fun v H2 => v = .non ∧ Q (.ref x) H2) E) :
    wpAny (model X.prog X.w) X.A (call (.ref K) us) (EP X pins σ Q) X.xe s := by
  have hq := h (s.heap.objs.size + 1) s.heap.objs.size (I.hok.fresh (Nat.le_succ _)) (I.hok.fresh (Nat.le_refl _)) (Nat.ne_of_lt (Nat.lt_succ_self _))
  have I2 := Inv.made (C := K) I
  have r2 : Vals (V.ref (s.heap.objs.size + 1) :: vs) (Value.ref (s.heap.objs.size + 1) :: us) := .cons rfl r
  have hl : ((Value.ref (s.heap.objs.size + 1) :: us) ++ []).length = ps.length := by
    have e := r2.length
    rw [F.len _ _ _ _ hq] at e
    rw [List.append_nil]; exact e.symm
  have hb' := hb _ (Value.ref (s.heap.objs.size + 1) :: us) I2.kIn hl
  rw [List.append_nil] at hb'
  refine wpAny_call (make_map (f := f) I.kIn M.makes M.init (beq_iff_eq.mp M.fn) (codeAny_mono (F.run _ X.stack _ _ ⟨Value.ref (s.heap.objs.size + 1) :: us, []⟩ (Value.ref (s.heap.objs.size + 1) :: us) _ _ E (hr.make K us []) (under_call ng _ _)
    (I2.env0.make K us []) hb' r2 hq) fun r s' hq' => ?_))
  cases r with
  | error e => exact hx pins _ _ e s' I2 hq'
  | ok fl =>
    cases fl with
    | ret u =>
      obtain ⟨v, H', I3, rv, ev, q3⟩ := I2.after hq'
      subst ev
      exact ⟨rv, ⟨V.ref (s.heap.objs.size + 1), H', I3, rfl, q3⟩⟩
    | next => exact False.elim hq'
    | brk => exact False.elim hq'
    | cont => exact False.elim hq'
def tMakeS (K : Addr) (sp : Sp) (E : L2.St → XK) (t : TA) : TE := fun σ H Q => t σ H fun vs H1 => ∀ x dx, H1 x = none → H1 dx = none → dx ≠ x →
  sp (.ref x :: vs) (upd (upd H1 dx (.own x)) x (.ins K dx [])) (fun v H2 => v = .non ∧ Q (.ref x) H2) (E σ)
theorem pe_makeS {k : Nat} {K f : Addr} {fd : FuncData} {ps : List Str} {sp : Sp} {CX : CXT} {E : L2.St → XK} {t : TA} (M : Mk X.K K f) (F : FnG X.prog X.w X.K X.mg X.base CX k f fd ps sp) (hr : Room (k + 1) X.A) (ng : NoG X.A) (hg : Gl X x) (hm : X.mg x = some (.ref K)) (hb : Binds X.K fd ps []) (hx : ∀ σ, PassesAt CX X σ (E σ))
    (ha : PA X (e :: es) t) (hp : Plain X (e :: es)) (hdb : (x == ("__debug__" : Str)) = false) : PE X (.Call (.Name x p) (e :: es) [] pos) (tMakeS K sp E t) := by
  refine ⟨fun pins s σ H Q I h => ?_⟩
  refine wpAny_Call_Name_kw (ld_glob I hg hm ?_ hdb)
  refine PySem.W.callWith_K (h₀ := X.base) I.ok.mod.kin M.kp (thn (ha.run pos pins s σ H _ I h) fun us s1 ⟨vs, H1, I1, r, q⟩ => ⟨I1.kIn, ?_⟩) hp.1 (hp.2.any pos)
  exact run_makeS M F hr ng hb (hx σ) I1 r q
theorem sE_new {m : Nat} (gd : Gd X W g w n) (en : n = m + 1) (ht : g.cl x = true) (hc : w.cl x = true) (hg : Gl X x) (hd : (x == ("__debug__" : Str)) = false) (hs : PA X (e :: es) (tEs g (cal g n) w W is)) (hp : Plain X (e :: es)) : PE X (.Call (.Name x p) (e :: es) [] pos) (tE g (cal g n) w W (.new x is)) := by
  obtain ⟨f, fd, ps, hm, hk, hb, F⟩ := (gd.lv rfl).mkr x m ht en
  refine PE.imp (pe_makeS hk F (en ▸ gd.room rfl) gd.ng hg hm hb (fun σ => L2N.passAt gd.takes σ) hs hp hd) fun σ H Q ⟨env, O, dom, en2, h⟩ => ?_
  have h : fR w W σ O (rV w O) H ((evs g (cal g n) is env).bind fun l => shD (makeD g n x (l.map (·.2)))) Q := by
    have h : fR w W σ O (rV w O) H (if (n != 0) = true then (evs g (cal g n) is env).bind fun l => shD (makeD g n x (l.map (·.2))) else .no) Q := h
    rwa [if_pos (by rw [en]; rfl)] at h
  refine es_in (js := []) rV_ok dom (by rw [List.append_nil]; exact en2) h fun v y H1 d1 e1 r1 s1 h1 => ?_
  intro z dx nz ndx ne
  have h1 := h1.later rV_ok s1
  have s2 : Same H1 (upd (upd H1 dx (.own z)) z (.ins (w.ca x) dx [])) := fun b o q => by
    rw [upd_ne (ne_of_none q nz), upd_ne (ne_of_none q ndx)]; exact q
  refine ⟨z, dx, y, _, O, rfl, upd_same, d1.free nz, d1.same s2, Reps.same s2 _ _ (Reps.wide (fun a h => h.imp id fun h => by rw [h]; exact nz) _ _ r1.reps), ?_⟩
  subst en
  cases q : makeD g (m + 1) x (v.map (·.2)) with
  | ok d =>
    rw [q] at h1
    intro H' k r
    exact ⟨rfl, h1 (.ref z) H' (Same.made nz ndx k) (VR.sh r)⟩
  | exc d =>
    rw [q] at h1
    exact fun c dd H' k r => h1 c dd H' (Same.made nz ndx k) r
  | no => rw [q] at h1; exact h1
end
end S2

set_option maxHeartbeats 4000000
/-! S2h: sorted, reversed. -/
namespace PySem.W
open PySem PySem.Calls PyProof.Rows
section
variable {prog : Program} {w : World} {A : Around} {E : Value → Shared → Prop} {s : Shared} {β : Type} {vs : List Value} {bs : List β} {enc : β → PyData} {R : Value → β → Prop}
/-- sorted(xs) of a list or a tuple -/
theorem sorted_seq2 {it : Addr} {T : String} {o : Obj} {n : Nat} {Q : Value → Shared → Prop} (hT : T = "list" ∨ T = "tuple") (ho : s.heap.get? it = some o) (hc : o.cls = .type T) (hd : o.data = .seq vs.toArray n)
    (e : EachIs R vs bs) (er : EachIs (fun v b => ∃ as, Reads s.heap v (enc b) as) vs bs) (hal : AllAlike (bs.map enc)) (hk : Sortable (bs.map enc)) (hL : bs.length ≤ sizeLine)
    (hu : ∀ b, b ∈ bs → A.units + 2 + (enc b).depth < cLine)
    (h : ∀ (out : List Value) (c : Nat) (h1 h' : Heap), out.length = bs.length → EachIs R out (bs.mergeSort (dataLe false enc)) → (∀ b o, s.heap.get? b = some o → h1.get? b = some o) → (∀ b o, h1.get? b = some o → h'.get? b = some o) → h'.get? h1.objs.size = some (seqObj "list" out.toArray c) → Q (.ref h1.objs.size) { s with heap := h' }) :
    wpAny (model prog w) A (call (.builtin "sorted") [.ref it]) Q E s := by
  have hL' : vs.length ≤ sizeLine := by rw [e.length]; exact hL
  refine call_function_entry_kw kind_sorted plain_sorted entry_sorted (args_sorted1 _) ?_
  unfold Builtin.«sorted»
  refine wpAny_bind (m := checkCount "sorted" 1 1 _) (wpAny_pure ?_)
  refine wpAny_bind (wpAny_collect_seq it hT ho hc hd (fun h1 k1 => ?_) (by rw [List.size_toArray]; exact hL'))
  refine wpAny_bind (wpAny_newList ?_ hL')
  show wpAny _ _ _ _ _ { s with heap := h1.push (seqObj "list" vs.toArray 0) }
  have at1 : (h1.push (seqObj "list" vs.toArray 0)).get? h1.objs.size = some (seqObj "list" vs.toArray 0) := Heap.get?_push_size _ rfl
  have keep : ∀ b o, s.heap.get? b = some o → (sortingHeap (h1.push (seqObj "list" vs.toArray 0)) h1.objs.size vs).get? b = some o := fun b o q =>
    sortingHeap_old (Nat.ne_of_lt (Heap.lt_size (k1 b o q))) (Heap.get?_push_of_some _ (k1 b o q))
  have er' : EachIs (fun v b => ∃ as, Reads (sortingHeap (h1.push (seqObj "list" vs.toArray 0)) h1.objs.size vs) v (enc b) as) vs bs := er.mono fun _ _ ⟨as, r⟩ => ⟨as, PyProof.Rows.Reads.keeps keep r⟩
  refine wpAny_bind (wpAny_holding (wpAny_call_entry_kw slot_list_sort ⟨_, at1, rfl⟩ entry_list_sort ?body (args_list_sort _)))
  case body =>
    show wpAny (model prog w) A.in1.in1 (Builtin.«list.sort» ⟨[.ref h1.objs.size], []⟩) _ _ _
    refine list_sort_vals (s := { s with heap := h1.push (seqObj "list" vs.toArray 0) }) at1 (SortsAt.data (s := { s with heap := sortingHeap (h1.push (seqObj "list" vs.toArray 0)) h1.objs.size vs }) (each_map (R := fun v d => ∃ as, Reads (sortingHeap (h1.push (seqObj "list" vs.toArray 0)) h1.objs.size vs) v d as) enc er') hal hk (bound_map hu)) hL' ?_
    refine ⟨_, rfl, wpAny_pure ⟨_, rfl, ?_⟩⟩
    obtain ⟨c, hc'⟩ := sortedHeap_at (h := h1.push (seqObj "list" vs.toArray 0)) (vs := vs) (out := (sortVals (dataKind (sortingHeap (h1.push (seqObj "list" vs.toArray 0)) h1.objs.size vs) (bs.map enc)) false vs vs).toArray) at1
    refine h _ c h1 _ (by rw [sortVals_length false rfl]; exact e.length) (sortVals_data false e er' hal) k1 (fun b o q => ?_) hc'
    have hlt := Heap.lt_size q
    rw [sortedHeap_old (Nat.ne_of_lt hlt) (by rw [size_push']; exact Nat.lt_succ_of_lt hlt)]
    exact Heap.get?_push_of_some _ q
end
end PySem.W

namespace S2
open PySem PySem.Spec PyProof.Rows L2
section
variable {X : Cx} {w : Wr} (hw : w.K = X.K)
theorem reps_zip {H : Hp} {O : Addr → Prop} : ∀ {l : List D} {vs : List V}, Reps w H O l vs → ∀ p ∈ l.zip vs, Rep w H O p.1 p.2
  | [], _, _, p, h => by simp at h
  | d :: l, _, ⟨v, r, e, h, t⟩, p, hp => by
    subst e
    rw [List.zip_cons_cons] at hp
    rcases List.mem_cons.mp hp with z | z
    · subst z; exact h
    · exact reps_zip t p z
theorem reps_of {H : Hp} {O : Addr → Prop} : ∀ {bs : List (D × V)}, (∀ p ∈ bs, Rep w H O p.1 p.2) → Reps w H O (bs.map (·.1)) (bs.map (·.2))
  | [], _ => rfl
  | p :: bs, h => ⟨p.2, _, rfl, h p List.mem_cons_self, reps_of fun q hq => h q (List.mem_cons_of_mem _ hq)⟩
theorem each_zip {vs : List V} {us : List Value} (r : Vals vs us) : ∀ {l : List D}, l.length = vs.length → PySem.W.EachIs (fun u (p : D × V) => RelV p.2 u) us (l.zip vs) := by
  induction r with
  | nil => intro l h; cases l <;> first | exact .nil | simp at h
  | cons q t ih =>
    intro l h
    cases l with
    | nil => simp at h
    | cons d l => exact .cons q (ih (by simpa using h))
theorem each_and {α β : Type} {R S : α → β → Prop} {as : List α} {bs : List β} (h : PySem.W.EachIs R as bs) (k : ∀ a b, b ∈ bs → R a b → S a b) : PySem.W.EachIs S as bs := by
  induction h with
  | nil => exact .nil
  | cons q t ih => exact .cons (k _ _ List.mem_cons_self q) (ih fun a b m => k a b (List.mem_cons_of_mem _ m))
theorem vals_of_each {us : List Value} {bs : List (D × V)} (h : PySem.W.EachIs (fun u (p : D × V) => RelV p.2 u) us bs) : Vals (bs.map (·.2)) us := by
  induction h with
  | nil => exact .nil
  | cons q t ih => exact .cons q ih
theorem py_nt (a : D) : (match a with | .tup _ => false | .non => false | _ => true) = true → py a ≠ .none ∧ ∀ xs, py a ≠ .tuple xs := by
  intro h
  cases a <;> first | (exact absurd h Bool.false_ne_true) | exact ⟨fun z => PyData.noConfusion z, fun _ z => PyData.noConfusion z⟩
theorem py_ct (a : D) : (match a with | .tup (_ :: _) => true | _ => false) = true → ∃ x r, py a = .tuple (x :: r) := by
  intro h
  cases a with
  | tup l => cases l with
    | nil => exact absurd h Bool.false_ne_true
    | cons x r => exact ⟨py x, pys r, rfl⟩
  | _ => exact absurd h Bool.false_ne_true
include hw
theorem srt_core (hu : X.A.units + 66 < cLine) {pins : List (Addr × Obj)} {s : Shared} {σ : L2.St} {H : Hp} {O : Addr → Prop} {Q : VK} {T : String} {it : Addr} {o : Obj} {vs : List Value} {xs : List V} {l : List D} {n : Nat} {d : D} (I : Inv X pins σ H s) (dom : Dom O H) (hT : T = "list" ∨ T = "tuple")
    (ho : s.heap.get? it = some o) (hc : o.cls = .type T) (hd : o.data = .seq vs.toArray n) (rv : Vals xs vs) (r : Reps w H O l xs) (e : sortD l = .ok d) (q : HO1 w H O d Q) : wpAny (model X.prog X.w) X.A (call (.builtin "sorted") [.ref it]) (EP X pins σ Q) X.xe s := by
  unfold sortD at e
  split at e
  case isFalse => cases e
  rename_i hz
  cases e
  unfold sortOk at hz
  simp only [Bool.and_eq_true, decide_eq_true_eq, List.all_eq_true, Bool.or_eq_true] at hz
  obtain ⟨⟨hz1, hz2⟩, hz3⟩ := hz
  have hlen := r.length
  have mz : ∀ p ∈ l.zip xs, p.1 ∈ l := fun p hp => (List.of_mem_zip (a := p.1) (b := p.2) hp).1
  have rz := reps_zip r
  have e1 := each_zip rv hlen
  have er : PySem.W.EachIs (fun v (b : D × V) => ∃ as, Reads s.heap v (py b.1) as) vs (l.zip xs) := each_and e1 fun u p m rel => by
    obtain ⟨as, h1, _⟩ := reads_of hw I rel (hz2 _ (mz p m)).1 (rz p m)
    exact ⟨as, h1⟩
  refine PySem.W.sorted_seq2 (enc := fun b : D × V => py b.1) hT ho hc hd e1 er (fun a ha b hb => ?_) ?_ (by rw [List.length_zip, ← hlen, Nat.min_self]; exact szL_eq ▸ hz1) (fun b hb => ?_) fun out c h1 h' hl ho2 k1 k2 hat => ?_
  · obtain ⟨p, hp, rfl⟩ := List.mem_map.mp ha
    obtain ⟨p', hp', rfl⟩ := List.mem_map.mp hb
    exact (hz2 _ (mz p hp)).2 _ (mz p' hp')
  · rcases hz3 with z | z
    · refine .inl fun a ha => ?_
      obtain ⟨p, hp, rfl⟩ := List.mem_map.mp ha
      exact py_ct _ (z _ (mz p hp))
    · refine .inr fun a ha => ?_
      obtain ⟨p, hp, rfl⟩ := List.mem_map.mp ha
      exact py_nt _ (z _ (mz p hp))
  · have := (hz2 _ (mz b hb)).1
    unfold plainB depth64 at this
    simp only [Bool.and_eq_true, decide_eq_true_eq] at this
    show X.A.units + 2 + (py b.1).depth < cLine
    omega
  · have I1 : Inv X pins σ H { s with heap := h1 } := I.kept (t' := s.toks) k1
    have hn : H h1.objs.size = none := I1.hok.fresh (Nat.le_refl _)
    have rs : Reps w H O (l.mergeSort leD) (((l.zip xs).mergeSort (PySem.W.dataLe false fun b : D × V => py b.1)).map (·.2)) := by
      have z : l.mergeSort leD = ((l.zip xs).mergeSort (PySem.W.dataLe false fun b : D × V => py b.1)).map (·.1) := by
        have z1 := List.map_mergeSort (r := PySem.W.dataLe false fun b : D × V => py b.1) (s := leD) (f := fun b : D × V => b.1) (l := l.zip xs) (fun a _ b _ => rfl)
        rw [z1]
        show _ = ((l.zip xs).map Prod.fst).mergeSort leD
        rw [List.map_fst_zip (by omega)]
      rw [z]
      exact reps_of fun p hp => rz p (List.mem_mergeSort.mp hp)
    refine ⟨.ref h1.objs.size, _, I1.laid (o := .lst (((l.zip xs).mergeSort (PySem.W.dataLe false fun b : D × V => py b.1)).map (·.2))) (t' := s.toks) k2 (Nat.le_refl _) ?_, rfl, HO1.lst q dom rs _ hn⟩
    refine ⟨?_, out, c, vals_of_each ho2, hat⟩
    rw [List.length_map, List.length_mergeSort, List.length_zip, ← hlen, Nat.min_self]
    exact szL_eq ▸ hz1
theorem bi_sorted (hu : X.A.units + 66 < cLine) : CallR X (idOf .sorted) (RL w (biD .sorted)) := by
  intro pins s σ H xs us Q I r ⟨ds, O, dom, rr, d, e, q⟩
  match ds, e with
  | [.tup l], e =>
    obtain ⟨x, rfl, p, vs, rfl, hp, r1⟩ := Reps.one_of rr
    obtain ⟨u, rfl, ru⟩ := vals1 r
    cases (show u = Value.ref p from ru)
    obtain ⟨its, rv, ⟨o, ho, hc, n, hd⟩, _⟩ := I.tuple (hw ▸ hp)
    exact srt_core hw hu I dom (.inr rfl) ho hc hd rv r1 e q
  | [.lst l], e =>
    obtain ⟨x, rfl, p, vs, rfl, hp, _, r1⟩ := Reps.one_of rr
    obtain ⟨u, rfl, ru⟩ := vals1 r
    cases (show u = Value.ref p from ru)
    obtain ⟨its, rv, pl, _⟩ := I.list (SqL.of hp)
    obtain ⟨o, ho, hc, n, hd⟩ := pl.isList
    exact srt_core hw hu I dom (.inl rfl) ho hc hd rv r1 e q
end
end S2

set_option maxHeartbeats 4000000
/-! S2i: built-in calls, join, comprehensions. -/
namespace S2
open PySem PySem.Spec PyProof.Rows L2

def nmB : Bi → Str
  | .len => "len" | .int => "int" | .str => "str" | .abs => "abs" | .tuple => "tuple" | .list => "list" | .sum => "sum" | .max => "max"
  | .min => "min" | .repr => "repr" | .sorted => "sorted" | .all => "all" | .any => "any" | _ => "_"
def isTy : Bi → Option String
  | .int => some "int" | .str => some "str" | .tuple => some "tuple" | .list => some "list" | _ => none
def isBl : Bi → Option String
  | .len => some "len" | .abs => some "abs" | .sum => some "sum" | .max => some "max" | .min => some "min" | .repr => some "repr" | .sorted => some "sorted" | .all => some "all" | .any => some "any" | _ => none
theorem boot_ty {f : Bi} {T : String} (h : isTy f = some T) : bootBuiltins (nmB f) = some (.type T) ∧ idOf f = .type T ∧ (nmB f ≠ "__name__") ∧ (nmB f == ("__debug__" : Str)) = false := by
  cases f <;> simp only [isTy, reduceCtorEq, Option.some.injEq] at h <;> subst h <;> exact ⟨by rfl, rfl, by decide, by decide⟩
theorem boot_bl {f : Bi} {T : String} (h : isBl f = some T) : bootBuiltins (nmB f) = some (.builtin T) ∧ idOf f = .builtin T ∧ (nmB f ≠ "__name__") ∧ (nmB f == ("__debug__" : Str)) = false := by
  cases f <;> simp only [isBl, reduceCtorEq, Option.some.injEq] at h <;> subst h <;> exact ⟨by rfl, rfl, by decide, by decide⟩
/-- builtins that call nothing back -/
def coolB : Bi → Bool
  | .len => true | .int => true | .str => true | .abs => true | .tuple => true | .list => true | .repr => true | .sorted => true | _ => false
section
variable {X : Cx} {W : WX} {g : G} {w : Wr} {n : Nat} {C : Cal} {a e : Expr} {ia : E} {es : List Expr} {is : Es} {pos p : Pos}
theorem bi_call (hw : w.K = X.K) (hu : X.A.units + 66 < cLine) (ng : NoG X.A) (f : Bi) (hc : coolB f = true ∨ X.calm = true) (h : (isTy f).isSome = true ∨ (isBl f).isSome = true) : CallR X (idOf f) (RL w (biD f)) := by
  cases f with
  | len => exact bi_len hw
  | int => exact bi_int hw
  | str => exact bi_str hw
  | abs => exact bi_abs hw
  | tuple => exact bi_tuple hw
  | list => exact bi_list hw
  | sum => exact bi_sum (hc.resolve_left Bool.false_ne_true)
  | max => exact bi_max hw (hc.resolve_left Bool.false_ne_true) hu
  | min => exact bi_min hw (hc.resolve_left Bool.false_ne_true) hu
  | sorted => exact bi_sorted hw hu
  | repr => exact bi_repr hw ng hu
  | all => exact bi_all (hc.resolve_left Bool.false_ne_true)
  | any => exact bi_any (hc.resolve_left Bool.false_ne_true)
  | _ => rcases h with h | h <;> exact absurd h Bool.false_ne_true
theorem bi_fin {f : Bi} {σ : L2.St} {H : Hp} {Q : VK} (h : tE g C w W (.bi f is) σ H Q) : tCB (RL w (biD f)) (tEs g C w W is) σ H Q := by
  obtain ⟨env, O, dom, en, h⟩ := h
  refine es_in (js := []) rV_ok dom (by rw [List.append_nil]; exact en) h fun v y H1 d1 e1 r1 s1 h1 => ?_
  obtain ⟨d, q, k⟩ := ownL_fin (h1.later rV_ok s1)
  exact ⟨_, O, d1, r1.reps, d, q, k⟩
theorem sE_bi {hot : Bool} (gd : Gd X W g w n hot) (hu : X.A.units + 66 < cLine) (f : Bi) (hcl : coolB f = true ∨ X.calm = true) (hf : (isTy f).isSome = true ∨ (isBl f).isSome = true) (hg : Gl X (nmB f)) (hr : g.fr (nmB f) = true) (hs : PA X (e :: es) (tEs g C w W is)) (hp : Plain X (e :: es)) :
    PE X (.Call (.Name (nmB f) p) (e :: es) [] pos) (tE g C w W (.bi f is)) := by
  have hc := bi_call gd.fx.hK hu gd.ng f hcl hf
  rcases hf with h | h
  · obtain ⟨T, h⟩ := Option.isSome_iff_exists.mp h
    obtain ⟨h1, h2, h3, h4⟩ := boot_ty h
    rw [h2] at hc
    exact PE.imp (pe_callTy hc hg (gd.fx.free _ hr) h1 hs h3 h4 hp.1 (hp.2.any pos)) fun σ H Q h => bi_fin h
  · obtain ⟨T, h⟩ := Option.isSome_iff_exists.mp h
    obtain ⟨h1, h2, h3, h4⟩ := boot_bl h
    rw [h2] at hc
    exact PE.imp (pe_callB hc hg (gd.fx.free _ hr) h1 hs h3 h4 hp.1 (hp.2.any pos)) fun σ H Q h => bi_fin h
/-- max(xs, default=d), min(xs, default=d), d a literal -/
def nmK : Bi → Str
  | .maxd => "max" | .mind => "min" | _ => "_"
def isKw : Bi → Bool
  | .maxd => true | .mind => true | _ => false
theorem R.bind_assoc {α β γ : Type} (r : R α) (f : α → R β) (h : β → R γ) : (r.bind f).bind h = r.bind fun x => (f x).bind h := by cases r <;> rfl
theorem sE_kw {f : Bi} {id : E} {d : D} {v : V} {kv : Expr} {kp : Pos} {hot : Bool} (gd : Gd X W g w n hot) (hu : X.A.units + 66 < cLine) (hcl : X.calm = true) (hf : isKw f = true) (hg : Gl X (nmK f)) (hr : g.fr (nmK f) = true)
    (ha : PE X a (tE g C w W ia)) (hk : PE X kv (tC v)) (he : ∀ env, ev g C id env = .ok (.sh, d)) (rv : ∀ H O, Rep w H O d v) (hrd : rd id = []) (hs : starEach [a] X.env = (false, eval a X.env) :: starEach [] X.env) :
    PE X (.Call (.Name (nmK f) p) [a] [⟨some "default", kv, kp⟩] pos) (tE g C w W (.bi f (.cons ia (.cons id .nil)))) := by
  have fin : ∀ σ H Q, tE g C w W (.bi f (.cons ia (.cons id .nil))) σ H Q → tCKw (RK w (biD f)) (tCons (tE g C w W ia) tNil) (tCons (tC v) tNil) σ H Q := fun σ H Q ⟨env, O, dom, en, h⟩ => by
    have e1 : evs g C (.cons id .nil) env = .ok [(.sh, d)] := by rw [evs, he env, evs] <;> rfl
    have e2 : ev g C (.bi f (.cons ia (.cons id .nil))) env = (ev g C ia env).bind fun x => ownL (biD f [x.2, d]) := by
      rw [ev, evs, R.bind_assoc, e1] <;> rfl
    rw [e2] at h
    refine one_in (is := []) rV_ok dom ?_ h fun u y H2 d2 _ r2 s2 h2 => ?_
    · refine en.sub fun i m => ?_
      rw [List.append_nil] at m
      show i ∈ rd (.bi f (.cons ia (.cons id .nil)))
      rw [rd, rds, rds, rds, hrd, List.append_nil, List.append_nil]
      exact m
    · obtain ⟨e, q2, k⟩ := ownL_fin h2
      exact ⟨u.2, d, O, d2, ⟨y, [], rfl, r2.1, rfl⟩, ⟨v, [], rfl, rv _ _, rfl⟩, e, q2, k⟩
  have hA : PA X [a] (tCons (tE g C w W ia) tNil) := pa_cons ha pa_nil hs
  have hK : PK X [⟨some "default", kv, kp⟩] (tCons (tC v) tNil) := pk_cons hk pk_nil
  cases f with
  | maxd => exact PE.imp (pe_callBK (bi_maxd gd.fx.hK hcl hu) hg (gd.fx.free _ hr) (by rfl) hA hK (by decide) (by decide) (by rw [hs]; rfl) (by rw [hs]; rfl)) fin
  | mind => exact PE.imp (pe_callBK (bi_mind gd.fx.hK hcl hu) hg (gd.fx.free _ hr) (by rfl) hA hK (by decide) (by decide) (by rw [hs]; rfl) (by rw [hs]; rfl)) fin
  | _ => cases hf
/-- s.join(e) -/
theorem sE_join {z : Str} {ib : E} {a : Expr} (hw : w.K = X.K) {apos : Pos} (ha : PE X a (tC (.str z))) (he : PE X e (tE g C w W ib)) (hs : starEach [e] X.env = [(false, eval e X.env)]) (hbase : attributeBase a "join" X.env (eval a X.env) = eval a X.env) (hline : (apos.endLine == pos.line) = true) :
    PE X (.Call (.Attribute a "join" apos) [e] [] pos) (tE g C w W (.join z ib)) := by
  refine PE.imp (pe_m1 PySem.F.slot_str_join (by kernel_rfl) (bm_join (w := w) hw) ha he hs hbase hline) fun σ H Q ⟨env, O, dom, en, h⟩ => ?_
  refine ⟨⟨z, rfl⟩, ?_⟩
  refine one_in (is := []) rV_ok dom (by rw [List.append_nil]; exact en) h fun u y H2 d2 e2 r2 s2 h2 => ?_
  obtain ⟨d, q2, k⟩ := ownL_fin h2
  exact ⟨.str z, [u.2], O, d2, rfl, ⟨y, [], rfl, r2.1, rfl⟩, d, q2, k⟩
end
end S2

set_option maxHeartbeats 4000000
/-! S2rv: tuple(reversed(a tuple)). -/
namespace S2
open PySem PySem.Spec PyProof.Rows L2 RT

theorem no_len : typeLookup (.type "reversed") "__len__" = pure none := by rw [typeLookup_type, builtinLookup_eq_fast]; kernel_rfl
theorem a_hint : typeLookup (.type "reversed") "__length_hint__" = pure (some (.builtin "reversed.__length_hint__")) := by rw [typeLookup_type, builtinLookup_eq_fast]; kernel_rfl
theorem sl_hint : PySem.Slot "reversed" "__length_hint__" "reversed.__length_hint__" :=
  .of (owner := "reversed") (n := "__length_hint__") (by rw [typeLookup_type, builtinLookup_eq_fast]; kernel_rfl) (by decide +kernel) (by decide +kernel) (by decide +kernel)
    (by first | exact .inl (by decide +kernel) | exact .inr (by decide +kernel)) (by rw [isSubtype_type]; kernel_rfl)
theorem en_hint : entryFor table "reversed.__length_hint__" = some Builtin.«reversed.__length_hint__» := entryFor_of_tree (by kernel_rfl)
theorem ar_hint (a : Value) : argsOk "reversed.__length_hint__" ⟨[a], []⟩ := by
  unfold argsOk; rw [signature?_of (id := "reversed.__length_hint__") (n := ['_', '_', 't', 'n', 'i', 'h', '_', 'h', 't', 'g', 'n', 'e', 'l', '_', '_']) (o := ['d', 'e', 's', 'r', 'e', 'v', 'e', 'r']) (by kernel_rfl) owner_rt]; kernel_rfl
section
variable {prog : Program} {w : World} {A : Around} {E : Value → Shared → Prop} {s : Shared}
theorem hint_rt {it t : Addr} {items : Array Value} {Q : Value → Shared → Prop} (hit : IsRt s.heap it t ((items.size : Int) - 1)) (ht : IsTup s.heap t items) (hz : items.size ≤ sizeLine)
    (hQ : ∀ tk u, Q (.int items.size u) { s with toks := tk }) : wpAny (model prog w) A (call (.builtin "reversed.__length_hint__") [.ref it]) Q E s := by
  obtain ⟨o, ho, hc, hd⟩ := id hit
  have h63 : (items.size : Int) < 2 ^ 63 := by rw [sizeLine_eq] at hz; omega
  refine wpAny_call_entry sl_hint hit.typeIs en_hint ?_ (ar_hint _)
  unfold Builtin.«reversed.__length_hint__»
  refine wpAny_bind (wpAny_of_eq (a := Value.ref it) rfl ?_)
  try dsimp only
  refine wpAny_bind (wpAny_field ho hd (x := .ref t) rfl ?_)
  try dsimp only
  refine PySem.W.KFB.if_not rfl ?_
  try dsimp only
  refine wpAny_bind (len_tuple ht h63 ?_)
  refine wpAny_bind (wpAny_of_eq (a := some (items.size : Int)) rfl ?_)
  try dsimp only
  refine wpAny_bind (wpAny_field (s := { s with toks := s.toks + 1 + 1 }) ho hd (x := rawInt ((items.size : Int) - 1)) rfl ?_)
  show wpAny _ _ (if (items.size : Int) < (items.size : Int) - 1 + 1 then _ else _) _ _ _
  rw [if_neg (by omega)]
  have e : (items.size : Int) - 1 + 1 = items.size := by omega
  rw [e]
  show wpAny _ _ (mkInt (items.size : Int) >>= fun v => ret v) _ _ _
  exact wpAny_bind (wpAny_mkInt (wpAny_pure ⟨_, rfl, hQ _ _⟩))
theorem walk_rt (hh : A.handled = none) (it t : Addr) (ne : t ≠ it) (items : Array Value) (hz : items.size ≤ sizeLine) :
    Walks prog w A it [it, t] [it] items.size (fun i v => items[items.size - 1 - i]? = some v) (fun i h => i ≤ items.size ∧ IsRt h it t ((items.size : Int) - 1 - (i : Nat)) ∧ IsTup h t items) where
  sub := fun b hb => by
    cases List.mem_singleton.mp hb
    exact List.mem_cons_self
  frame := fun _ _ _ ⟨s0, s1, o2, g2, c2, d2⟩ hk => ⟨s0, s1.at fun o e => hk it (by simp) o e, o2, hk t (by simp) _ g2, c2, d2⟩
  item := fun i s Q E hi ⟨s0, s1, s2⟩ hQ => by
    have e1 : (items.size : Int) - 1 - (i : Nat) = ((items.size - 1 - i : Nat) : Int) := by omega
    have hlt : items.size - 1 - i < items.size := by omega
    refine next_rt_item (e1 ▸ s1) s2 (x := items[items.size - 1 - i]) (Array.getElem?_eq_getElem hlt) hz fun h' s1' sb => ?_
    have e2 : ((items.size - 1 - i : Nat) : Int) - 1 = (items.size : Int) - 1 - ((i + 1 : Nat) : Int) := by omega
    obtain ⟨o2, g2, c2, d2⟩ := id s2
    exact hQ _ h' (s.toks + 1) (Array.getElem?_eq_getElem hlt) ⟨by omega, e2 ▸ s1', o2, (sb.2 t ne).trans g2, c2, d2⟩ fun b o hb e => (sb.2 b fun z => hb (by simp [z])).trans e
  done := fun s Q E ⟨s0, s1, s2⟩ hQ => by
    have e1 : (items.size : Int) - 1 - ((items.size : Nat) : Int) = -1 := by omega
    rw [e1] at s1
    exact next_rt_end hh s1 fun h' he' => hQ h' s.toks fun b o hb e => he' b o (fun z => hb (by simp [z])) e
  self := fun _ _ _ _ st hQ => iter_rt st.2.1 hQ
theorem coll_rt {it t : Addr} {items : Array Value} {Q : List Value → Shared → Prop} (hh : A.handled = none) (hit : IsRt s.heap it t ((items.size : Int) - 1)) (ht : IsTup s.heap t items) (ne : t ≠ it) (hz : items.size ≤ sizeLine)
    (hQ : ∀ (h' : Heap) (tk : Nat) (acc : Array Value), (∀ b o, b ≠ it → s.heap.get? b = some o → h'.get? b = some o) → ItemsOf (fun i v => items[items.size - 1 - i]? = some v) acc items.size → Q acc.toList { s with heap := h', toks := tk }) :
    wpAny (model prog w) A (collect (.ref it)) Q E s := by
  have h63 : (items.size : Int) < 2 ^ 63 := by rw [sizeLine_eq] at hz; omega
  have hnn : ¬ (items.size : Int) < 0 := by omega
  have W := (walk_rt (prog := prog) (w := w) (A := A.in1) hh it t ne items hz).toS
  obtain ⟨oi, hoi, _⟩ := id hit
  obtain ⟨ot, hot, oc, od⟩ := id ht
  have ni : s.heap.objs.size ≠ it := Nat.ne_of_gt (Heap.lt_size hoi)
  have nt : s.heap.objs.size ≠ t := Nat.ne_of_gt (Heap.lt_size hot)
  have nf : s.heap.objs.size ∉ [it, t] := by simp [ni, nt]
  unfold collect
  refine wpAny_bind (wpAny_runValue (codeAny_builtin F.entry_proto_collect ?_))
  rw [Around.under_plainId F.plain_proto_collect _]
  show wpAny _ A.in1 (newList [] >>= fun z => again (.builtin "list.__iadd__" ⟨[z, .ref it], []⟩)) _ _ _
  refine wpAny_bind (wpAny_newObj_type (wpAny_pure ⟨plainId_quiet F.plain_list_iadd _, codeAny_builtin F.entry_list_iadd ?_⟩))
  rw [Around.under_plainId F.plain_list_iadd _]
  generalize h0 : s.heap.push { cls := .type "list", data := .seq ([] : List Value).toArray } = h1
  have k1 : ∀ b o, s.heap.get? b = some o → h1.get? b = some o := fun b o e => by rw [← h0]; exact Heap.get?_push_of_some _ e
  have g1 : h1.get? s.heap.objs.size = some { cls := .type "list", data := .seq ([] : List Value).toArray } := by rw [← h0]; exact Heap.get?_push_size _ rfl
  have hit1 : IsRt h1 it t ((items.size : Int) - 1) := hit.at fun o e => k1 _ _ e
  have ht1 : IsTup h1 t items := ⟨ot, k1 _ _ hot, oc, od⟩
  have hT : ({ s with heap := h1 } : Shared).TypeIs (.ref it) "reversed" := IsRt.typeIs (s := { s with heap := h1 }) hit1
  show wpAny _ A.in1 (Builtin.List.listExtendWith (.ref s.heap.objs.size) (.ref it) (.ref s.heap.objs.size)) _ _ _
  unfold Builtin.List.listExtendWith
  refine wpAny_bind (wpAny_typeOf hT ?_)
  have b1 : Builtin.List.listSameRef (.ref s.heap.objs.size) (.ref it) = false := by simp [Builtin.List.listSameRef, ni]
  rw [if_neg (by rw [b1]; decide)]
  refine wpAny_bind (iter_rt (s := { s with heap := h1 }) hit1 ?_)
  refine wpAny_bind (wpAny_holding ?_)
  unfold Builtin.List.listLengthHint
  refine wpAny_bind (wpAny_specialOf hT no_len ?_)
  show wpAny _ A.in1 (specialOf (Value.ref it) (Str.ofString "__length_hint__") >>= _) _ _ _
  refine wpAny_bind (wpAny_specialOf hT a_hint ?_)
  generalize hid : ("reversed.__length_hint__" : String) = id0
  wp_delta
  rw [show splitId id0 = some ("reversed", "__length_hint__") from by subst hid; decide +kernel]
  refine wpAny_bind (wpAny_isInstance (b := true) hT (by rw [isSubtype_type]; kernel_rfl) ?_)
  refine PySem.W.KFB.if_not rfl ?_
  subst hid
  dsimp only
  rw [if_neg (by decide)]
  refine wpAny_bind (wpAny_rule ?_)
  refine wpAny_bind (wpAny_of_eq (a := (Value.builtin "reversed.__length_hint__", [Value.ref it])) (by first | rfl | kernel_rfl) ?_)
  refine wpAny_bind (wpAny_attempt (hint_rt (s := { s with heap := h1 }) hit1 ht1 hz fun tk u => ?_))
  obtain ⟨n, hn⟩ : ∃ n : Int, (items.size : Int) = n := ⟨_, rfl⟩
  rw [hn] at h63 hnn ⊢
  have h0 : 0 ≤ n := by rw [← hn]; exact Int.natCast_nonneg _
  have hl : Builtin.List.listTooLong n.toNat = false := by rw [← hn, Int.toNat_natCast]; exact notLongL hz
  have hf : Builtin.List.listFitsIndex n = true := fitsIndex_of h0 h63
  clear hn
  show wpAny _ _ (asInt? (Value.int n u) >>= _) _ _ _
  refine wpAny_bind (wpAny_of_eq (a := some n) rfl ?_)
  dsimp only
  refine PySem.W.KFB.if_not (by rw [hf]; rfl) ?_
  rw [if_neg hnn]
  refine PySem.W.KFB.if_not hl ?_
  refine wpAny_pure ?_
  -- room is made or not: the list stays
  have rest : ∀ (h2 : Heap) (c0 : Nat), h2.get? s.heap.objs.size = some { cls := .type "list", data := .seq ([] : List Value).toArray c0 } → (∀ b o, b ≠ s.heap.objs.size → h1.get? b = some o → h2.get? b = some o) →
      codeAny (model prog w) A (.builtin "list.extend.loop" ⟨[.ref s.heap.objs.size, .ref it, .ref s.heap.objs.size], []⟩) (fun r s' => ∃ v, r = .ok (.ret v) ∧ v = .ref s.heap.objs.size ∧ ∃ acc c, s'.heap.get? s.heap.objs.size = some { cls := .type "list", dict := none, data := .seq acc c, slots := #[] } ∧ ItemsOf (fun i v => items[items.size - 1 - i]? = some v) acc items.size ∧ (∀ b o, b ≠ it → s.heap.get? b = some o → s'.heap.get? b = some o) ∧ ∃ tk2, s' = { s with heap := s'.heap, toks := tk2 }) { s with heap := h2, toks := tk } := fun h2 c0 g2 k2 => by
    have e0 : (items.size : Int) - 1 - ((0 : Nat) : Int) = (items.size : Int) - 1 := by omega
    refine codeAny_extend_loopS W hz _ nf _ items.size 0 _ _ _ rfl (Nat.zero_le _) ⟨Nat.zero_le _, by rw [e0]; exact hit1.at fun o e => k2 _ _ (Ne.symm ni) e, ot, k2 _ _ (Ne.symm nt) (k1 _ _ hot), oc, od⟩ g2 (ItemsOf.nil _) fun s' acc c hm hS hacc => ?_
    refine ⟨_, rfl, rfl, acc, c, hS, hacc, fun b o hb e => ?_, ?_⟩
    · have hbS : b ≠ s.heap.objs.size := Nat.ne_of_lt (Heap.lt_size e)
      exact hm.heap b o (by simp [hb, hbS]) (k2 b o hbS (k1 b o e))
    · have e := Moved.eq_with hm
      exact ⟨s'.toks, e⟩
  have fin : ∀ (h2 : Heap) (c0 : Nat), h2.get? s.heap.objs.size = some { cls := .type "list", data := .seq ([] : List Value).toArray c0 } → (∀ b o, b ≠ s.heap.objs.size → h1.get? b = some o → h2.get? b = some o) → ∀ {R : Result → Shared → Prop},
      (∀ s' acc c, s'.heap.get? s.heap.objs.size = some { cls := .type "list", dict := none, data := .seq acc c, slots := #[] } → wpAny (model prog w) A (load s.heap.objs.size >>= fun o => (match o.data with | .seq xs _ => pure xs.toList | _ => unsupported "internal:collect" : Sem (List Value))) Q E s' → R (.ok (.ret (.ref s.heap.objs.size))) s') →
      codeAny (model prog w) A (.builtin "list.extend.loop" ⟨[.ref s.heap.objs.size, .ref it, .ref s.heap.objs.size], []⟩) R { s with heap := h2, toks := tk } := fun h2 c0 g2 k2 {R} hR => by
    refine codeAny_mono (rest h2 c0 g2 k2) fun r s' ⟨v, er, ev, acc, c, g3, hacc, k3, tk2, es⟩ => ?_
    subst er ev
    refine hR s' acc c g3 (wpAny_bind (wpAny_load g3 (wpAny_pure ?_)))
    rw [es]
    exact hQ _ _ _ k3 hacc
  split
  · refine wpAny_bind (wpAny_rule (wpAny_bind ?_))
    show wpAny _ A.in1 (updateSeq s.heap.objs.size (·.push .none) >>= fun _ => updateSeq s.heap.objs.size (·.pop)) _ _ _
    refine wpAny_bind (wpAny_updateSeq g1 rfl ?_)
    have u1 := Heap.get?_update_self (Obj.mapSeq (·.push Value.none)) g1 rfl
    refine wpAny_updateSeq u1 rfl (wpAny_pure ⟨plainId_quiet F.plain_extend_loop _, fin _ _ ((Heap.get?_update_self (Obj.mapSeq (·.pop)) u1 rfl).trans rfl) (fun b o hb e => (Heap.get?_update_other _ _ (Ne.symm hb)).trans ((Heap.get?_update_other _ _ (Ne.symm hb)).trans e)) fun s' acc c g3 hw => hw⟩)
  · exact wpAny_pure ⟨plainId_quiet F.plain_extend_loop _, fin h1 _ g1 (fun _ _ _ e => e) fun s' acc c g3 hw => hw⟩
theorem new_rt {it t : Addr} {items : Array Value} {Q₁ : Value → Shared → Prop} (hh : A.handled = none) (hit : IsRt s.heap it t ((items.size : Int) - 1)) (ht : IsTup s.heap t items) (ne : t ≠ it) (hz : items.size ≤ sizeLine)
    (h : ∀ (h' : Heap) (tk : Nat) (acc : Array Value), (∀ b o, b ≠ it → s.heap.get? b = some o → h'.get? b = some o) → ItemsOf (fun i v => items[items.size - 1 - i]? = some v) acc items.size →
      Q₁ (.ref h'.objs.size) { s with heap := h'.push { cls := .type "tuple", data := .seq acc }, toks := tk }) :
    codeAny (model prog w) A (.call (.builtin "tuple.__new__") ⟨[.type "tuple", .ref it], []⟩) (wants Q₁ E) s := by
  refine codeAny_of_tree ?_
  show wpAny _ A.in1 (do checkBuiltinCall "tuple.__new__" ⟨[.type "tuple", .ref it], []⟩; again (.builtin "tuple.__new__" ⟨[.type "tuple", .ref it], []⟩)) _ _ _
  refine wpAny_bind (wpAny_of_eq (F.newCall_tuple_1 _) (wpAny_pure ⟨plainId_quiet F.plain_tuple_new _, codeAny_builtin F.entry_tuple_new ?_⟩))
  rw [Around.under_plainId F.plain_tuple_new _]
  have q1 := sub_tuple_self
  have q2 := init_tuple_lookup
  have q3 := madeHere_tuple
  have q4 : s.TypeIs (.ref it) "reversed" := hit.typeIs
  wp_walk using wpAny_typeOf q4, coll_rt (A := A.in1) hh hit ht ne hz
  intro h' tk acc hk hacc
  have e : acc.toList.toArray = acc := by simp
  show wpAny _ _ (Builtin.Tuple.tupleExact acc.toList.toArray >>= fun v => ret v) _ _ _
  rw [e]
  unfold Builtin.Tuple.tupleExact
  exact wpAny_bind (wpAny_newObj_type (wpAny_pure (h h' tk acc hk hacc)) (by show acc.size ≤ sizeLine; rw [hacc.1]; exact hz))
theorem tuple_rt {it t : Addr} {items : Array Value} {Q : Value → Shared → Prop} (hh : A.handled = none) (hit : IsRt s.heap it t ((items.size : Int) - 1)) (ht : IsTup s.heap t items) (ne : t ≠ it) (hz : items.size ≤ sizeLine)
    (hQ : ∀ (h' : Heap) (tk : Nat) (acc : Array Value), (∀ b o, b ≠ it → s.heap.get? b = some o → h'.get? b = some o) → ItemsOf (fun i v => items[items.size - 1 - i]? = some v) acc items.size →
      Q (.ref h'.objs.size) { s with heap := h'.push { cls := .type "tuple", data := .seq acc }, toks := tk }) : wpAny (model prog w) A (call (.type "tuple") [.ref it]) Q E s := by
  refine callType_codes (Q₁ := fun obj s₁ => s₁.TypeIs obj "tuple" ∧ Q obj s₁) F.called_tuple (F.typeCall_tuple_1 _) F.entry_object_init (new_rt (A := A.in1) hh hit ht ne hz fun h' tk acc hk hacc => ⟨⟨_, Heap.get?_push_size _ rfl, rfl⟩, hQ h' tk acc hk hacc⟩) fun ob s1 hob => ?_
  exact ⟨hob.1, F.args_object_init_2 ob _, object_init_meets F.called_tuple.init.lookup F.called_tuple.made (by decide) prog w A.in1 _ s1 ⟨hob.1, rfl, hob.2⟩⟩
/-- list(reversed(a list)) -/
theorem init_rvl {it l : Addr} {items : Array Value} {S : Addr} {R : Result → Shared → Prop} (hh : A.handled = none) (hit : s.heap.IsRevIter it l ((items.size : Int) - 1)) (hl : s.heap.IsList l items) (hne : l ≠ it) (hn : items.size ≤ sizeLine) (si : S ≠ it) (sl : S ≠ l)
    (hS : s.heap.get? S = some { cls := .type "list", data := .seq #[] })
    (hR : ∀ (h' : Heap) (tk : Nat) (acc : Array Value) (c : Nat), (∀ b o, b ≠ it → b ≠ S → s.heap.get? b = some o → h'.get? b = some o) → h'.get? S = some { cls := .type "list", dict := none, data := .seq acc c, slots := #[] } → ItemsOf (fun i v => items[items.size - 1 - i]? = some v) acc items.size → R (.ok (.ret .none)) { s with heap := h', toks := tk }) :
    wpAny (model prog w) A.in1 (Builtin.«list.__init__» ⟨[.ref S, .ref it], []⟩)
      (fun fin t => match fin with | .done f => R (.ok f) t | .again d => d.quiet = true ∧ codeAny (model prog w) A d R t) (fun e t => R (.error e) t) s := by
  show wpAny _ A.in1 (do let q ← Builtin.List.listItems (.ref S); Builtin.List.listUpdate (.ref S) (fun _ => #[]); letGo q.toList.reverse; Builtin.List.listExtendWith (.ref S) (.ref it) .none) _ _ s
  refine wpAny_bind ?_
  unfold Builtin.List.listItems
  refine wpAny_bind (wpAny_seqItems hS rfl (wpAny_pure ?_))
  show wpAny _ A.in1 (updateSeq S (fun _ => #[]) >>= fun _ => letGo (#[] : Array Value).toList.reverse >>= fun _ => Builtin.List.listExtendWith (.ref S) (.ref it) .none) _ _ s
  refine wpAny_bind (wpAny_updateSeq hS rfl ?_)
  have g1 := Heap.get?_update_self (Obj.mapSeq (fun _ => (#[] : Array Value))) hS rfl
  have k1 : ∀ b o, b ≠ S → s.heap.get? b = some o → (s.heap.update S (Obj.mapSeq (fun _ => (#[] : Array Value)))).get? b = some o := fun b o hb e => (Heap.get?_update_other _ _ (Ne.symm hb)).trans e
  revert g1 k1
  generalize s.heap.update S (Obj.mapSeq (fun _ => (#[] : Array Value))) = h1
  intro g1 k1
  refine wpAny_bind (wpAny_letGo ?_)
  have i1 : h1.IsRevIter it l ((items.size : Int) - 1) := hit.at fun o e => k1 _ _ (Ne.symm si) e
  have l1 : h1.IsList l items := let ⟨o, ho, r⟩ := hl; ⟨o, k1 _ _ (Ne.symm sl) ho, r⟩
  have W := (Walks.listRev (prog := prog) (w := w) (A := A.in1) hh it l hne items).toS
  have nf : S ∉ [it, l] := by simp [si, sl]
  have ty : ({ s with heap := h1 } : Shared).TypeIs (.ref it) "list_reverseiterator" := Heap.IsRevIter.typeIs (s := { s with heap := h1 }) i1
  have b1 : Builtin.List.listSameRef (.ref S) (.ref it) = false := by simp [Builtin.List.listSameRef, si]
  unfold Builtin.List.listExtendWith
  refine wpAny_bind (wpAny_typeOf ty ?_)
  rw [if_neg (by rw [b1]; decide)]
  refine wpAny_bind (wpAny_pyIter_revIter (s := { s with heap := h1 }) i1 ?_)
  refine wpAny_bind (wpAny_holding ?_)
  unfold Builtin.List.listLengthHint
  refine wpAny_bind (wpAny_specialOf ty nolen_lri ?_)
  show wpAny _ A.in1 (specialOf (Value.ref it) (Str.ofString "__length_hint__") >>= _) _ _ _
  refine wpAny_bind (wpAny_specialOf ty hint_lri ?_)
  generalize hid : ("list_reverseiterator.__length_hint__" : String) = id0
  wp_delta
  rw [show splitId id0 = some ("list_reverseiterator", "__length_hint__") from by subst hid; decide +kernel]
  subst hid
  refine wpAny_bind (wpAny_isInstance (b := true) ty (by rw [isSubtype_type]; kernel_rfl) ?_)
  refine wpAny_pure ?_
  rw [if_neg (by decide)]
  have z0 : ((items.size : Nat) : Int) - 1 - ((0 : Nat) : Int) = (items.size : Int) - 1 := by omega
  refine wpAny_pure ⟨plainId_quiet F.plain_extend_loop _, codeAny_extend_loopS W hn _ nf _ items.size 0 _ _ _ rfl (Nat.zero_le _) ⟨Nat.zero_le _, by rw [z0]; exact i1, l1⟩ g1 (ItemsOf.nil _) fun t acc c hm g2 hacc => ?_⟩
  rw [Moved.eq_with hm]
  exact hR t.heap t.toks acc c (fun b o hb hc e => hm.heap b o (by simp [hb, hc]) (k1 b o hc e)) g2 hacc
theorem call_list_rvl {it l : Addr} {items : Array Value} {Q : Value → Shared → Prop} (hh : A.handled = none) (hit : s.heap.IsRevIter it l ((items.size : Int) - 1)) (hl : s.heap.IsList l items) (hne : l ≠ it) (hn : items.size ≤ sizeLine)
    (hQ : ∀ (h' : Heap) (tk : Nat) (acc : Array Value) (c : Nat), (∀ b o, b ≠ it → s.heap.get? b = some o → h'.get? b = some o) → h'.get? s.heap.objs.size = some { cls := .type "list", dict := none, data := .seq acc c, slots := #[] } → ItemsOf (fun i v => items[items.size - 1 - i]? = some v) acc items.size → Q (.ref s.heap.objs.size) { s with heap := h', toks := tk }) :
    wpAny (model prog w) A (call (.type "list") [.ref it]) Q E s := by
  obtain ⟨oi, hoi, _⟩ := id hit
  obtain ⟨ol, hol, _⟩ := id hl
  refine callType_codes (Q₁ := fun o z => o = .ref s.heap.objs.size ∧ z = { s with heap := s.heap.push { cls := .type "list", data := .seq #[] } }) F.called_list (F.typeCall_list_1 _) F.entry_list_init (code_list_new _ ⟨rfl, rfl⟩) fun o z hz => ?_
  obtain ⟨rfl, rfl⟩ := hz
  have gS : (s.heap.push { cls := .type "list", data := .seq #[] }).get? s.heap.objs.size = some { cls := .type "list", data := .seq #[] } := Heap.get?_push_size _ rfl
  refine ⟨⟨_, gS, rfl⟩, F.args_list_init_2 _ _, init_rvl (A := A.in1) (s := { s with heap := s.heap.push { cls := .type "list", data := .seq #[] } }) hh (hit.at fun o e => Heap.get?_push_of_some _ e) (hl.push _) hne hn (Nat.ne_of_gt (Heap.lt_size hoi)) (Nat.ne_of_gt (Heap.lt_size hol)) gS fun h' tk acc c hk hg hi => ⟨rfl, ?_⟩⟩
  exact hQ h' tk acc c (fun b o hb e => hk b o hb (Nat.ne_of_lt (Heap.lt_size e)) (Heap.get?_push_of_some _ e)) hg hi
end
section
variable {X : Cx} {g : G} {w : Wr} {W : WX} {C : Cal} {n : Nat} {e : Expr} {ie : E}
/-- tuple(reversed(x)) -/
theorem sE_revT {p p2 pos pos2 : Pos} (fx : Fx X.K X.mg g w) (hc : X.calm = true) (gt : Gl X "tuple") (rt : g.fr "tuple" = true) (gr : Gl X "reversed") (rr : g.fr "reversed" = true) (he : PE X e (tE g C w W ie))
    (hs : starEach [e] X.env = (false, eval e X.env) :: starEach [] X.env) :
    PE X (.Call (.Name "tuple" p) [.Call (.Name "reversed" p2) [e] [] pos2] [] pos) (tE g C w W (.rvt ie)) := by
  refine ⟨fun pins s σ H Q I ⟨env, O, dom, en, h⟩ => ?_⟩
  have hs2 : starEach [.Call (.Name "reversed" p2) [e] [] pos2] X.env = (false, eval (.Call (.Name "reversed" p2) [e] [] pos2) X.env) :: starEach [] X.env := by rfl
  have h : fR w W σ O (rV w O) H ((ev g C ie env).bind fun z => ownL (biD .revT [z.2])) Q := h
  have hE : tE g C w W ie σ H fun v H1 => ∃ l d q, Rep w H1 O d v ∧ Dom O H1 ∧ biD .revT [d] = .ok l ∧ HO1 w H1 O l q ∧ q = Q := by
    refine one_in (is := []) rV_ok dom (en.sub fun i m => ?_) h fun u y H2 d2 _ r2 s2 h2 => ?_
    · rw [List.append_nil] at m
      show i ∈ rd (.rvt ie)
      rw [rd]
      exact m
    · obtain ⟨d, q, k⟩ := ownL_fin h2
      exact ⟨d, u.2, Q, r2.1, d2, q, k, rfl⟩
  refine Call_ (ld_blt I gt (fx.free _ rt) boot_tuple (PyProof.Rows.callWith_type1 (args_cons (Call_ (ld_blt I gr (fx.free _ rr) PyProof.Rows.boot_reversed (PyProof.Rows.callWith_type1 (args_cons (thn (he.run pins s σ H _ I hE) fun u s1 ⟨v, H1, I1, r1, l, d, q, rd, dm, el, ho, eq⟩ => args_nil ?_) hs) hs rfl))) hs2) hs2 rfl))
  subst eq
  cases d with
  | lst m =>
    cases el
    obtain ⟨a, vs, rfl, hp, _, rr⟩ := rd
    obtain rfl : u = Value.ref a := r1
    obtain ⟨its, rv, p', hz⟩ := I1.list (SqL.of hp)
    refine call_reversed_list p'.isList (args_nil ?_)
    have k0 : ∀ b o, s1.heap.get? b = some o → (s1.heap.push (revObj a ((its.toArray.size : Int) - 1))).get? b = some o := fun b o e => Heap.get?_push_of_some _ e
    have I2 : Inv X pins σ H1 { s1 with heap := s1.heap.push (revObj a ((its.toArray.size : Int) - 1)) } := I1.kept (t' := s1.toks) k0
    obtain ⟨f0, f1, f2, f3, f4, f5⟩ := I1.fpOk (H' := H1) (b := s1.heap.objs.size) (Nat.le_refl _) (I1.hok.fresh (Nat.le_refl _))
    obtain ⟨ol, hol, _⟩ := id p'.isList
    have ne : a ≠ s1.heap.objs.size := Nat.ne_of_lt (Heap.lt_size hol)
    have hn : its.toArray.size ≤ sizeLine := by rw [List.size_toArray, ← rv.length]; exact hz
    refine call_tuple_rev (s := { s1 with heap := s1.heap.push (revObj a ((its.toArray.size : Int) - 1)) }) (I1.ok.hd hc) ⟨_, Heap.get?_push_size _ rfl, rfl, rfl⟩ (p'.isList.push _) ne hn fun h' tk acc hk hi => ?_
    have I3 : Inv X pins σ H1 { s1 with heap := h', toks := tk } := I2.turned (t' := tk) (fun b o hb e => hk b o hb e) f0 f1 f3 f4 f5
    refine ⟨.ref h'.objs.size, upd H1 h'.objs.size (.tup vs.reverse), I3.laid (t' := tk) (fun c o e => Heap.get?_push_of_some _ e) (Nat.le_refl _) (show ObjOk X.prog X.w _ _ _ (.tup vs.reverse) from ⟨by rw [List.length_reverse]; exact hz, acc.toList, vals_rev rv hi, by rw [Array.toArray_toList]; exact IsTup.new _ _⟩), rfl, ho.tup (Reps.reverse rr) _ (I3.hok.fresh (Nat.le_refl _))⟩
  | tup m =>
    cases el
    obtain ⟨a, vs, rfl, hp, rr⟩ := rd
    obtain rfl : u = Value.ref a := r1
    obtain ⟨its, rv, p', hz⟩ := I1.tuple (fx.hK ▸ hp)
    have hn : its.toArray.size ≤ sizeLine := by rw [List.size_toArray, ← rv.length]; exact hz
    have hn63 : (its.toArray.size : Int) < 2 ^ 63 := by rw [sizeLine_eq] at hn; omega
    refine call_reversed_tup p' (fun A E Q k => len_tuple p' hn63 k) (args_nil ?_)
    have k0 : ∀ b o, s1.heap.get? b = some o → (s1.heap.push (rtObj a ((its.toArray.size : Int) - 1))).get? b = some o := fun b o e => Heap.get?_push_of_some _ e
    have I2 : Inv X pins σ H1 { s1 with heap := s1.heap.push (rtObj a ((its.toArray.size : Int) - 1)), toks := s1.toks + 1 + 1 } := I1.kept (t' := s1.toks + 1 + 1) k0
    obtain ⟨f0, f1, f2, f3, f4, f5⟩ := I1.fpOk (H' := H1) (b := s1.heap.objs.size) (Nat.le_refl _) (I1.hok.fresh (Nat.le_refl _))
    obtain ⟨ot, hot, oc, od⟩ := id p'
    have ne : a ≠ s1.heap.objs.size := Nat.ne_of_lt (Heap.lt_size hot)
    refine tuple_rt (s := { s1 with heap := s1.heap.push (rtObj a ((its.toArray.size : Int) - 1)), toks := s1.toks + 1 + 1 }) (I1.ok.hd hc) ⟨_, Heap.get?_push_size _ rfl, rfl, rfl⟩ ⟨ot, k0 _ _ hot, oc, od⟩ ne hn fun h' tk acc hk hi => ?_
    have I3 : Inv X pins σ H1 { s1 with heap := h', toks := tk } := I2.turned (t' := tk) (fun b o hb e => hk b o hb e) f0 f1 f3 f4 f5
    refine ⟨.ref h'.objs.size, upd H1 h'.objs.size (.tup vs.reverse), I3.laid (t' := tk) (fun c o e => Heap.get?_push_of_some _ e) (Nat.le_refl _) (show ObjOk X.prog X.w _ _ _ (.tup vs.reverse) from ⟨by rw [List.length_reverse]; exact hz, acc.toList, vals_rev rv hi, by rw [Array.toArray_toList]; exact IsTup.new _ _⟩), rfl, ho.tup (Reps.reverse rr) _ (I3.hok.fresh (Nat.le_refl _))⟩
  | _ => cases el
/-- list(reversed(x)), x a list -/
theorem sE_revL {p p2 pos pos2 : Pos} (fx : Fx X.K X.mg g w) (hc : X.calm = true) (gt : Gl X "list") (rt : g.fr "list" = true) (gr : Gl X "reversed") (rr : g.fr "reversed" = true) (he : PE X e (tE g C w W ie))
    (hs : starEach [e] X.env = (false, eval e X.env) :: starEach [] X.env) :
    PE X (.Call (.Name "list" p) [.Call (.Name "reversed" p2) [e] [] pos2] [] pos) (tE g C w W (.rvl ie)) := by
  refine ⟨fun pins s σ H Q I ⟨env, O, dom, en, h⟩ => ?_⟩
  have hs2 : starEach [.Call (.Name "reversed" p2) [e] [] pos2] X.env = (false, eval (.Call (.Name "reversed" p2) [e] [] pos2) X.env) :: starEach [] X.env := by rfl
  have h : fR w W σ O (rV w O) H ((ev g C ie env).bind fun z => if isLst z.2 = true then ownL (biD .revL [z.2]) else .no) Q := h
  have hE : tE g C w W ie σ H fun v H1 => ∃ m q, Rep w H1 O (.lst m) v ∧ Dom O H1 ∧ HO1 w H1 O (.lst m.reverse) q ∧ q = Q := by
    refine one_in (is := []) rV_ok dom (en.sub fun i m => ?_) h fun u y H2 d2 _ r2 s2 h2 => ?_
    · rw [List.append_nil] at m
      show i ∈ rd (.rvl ie)
      rw [rd]
      exact m
    · split at h2
      case isFalse => exact h2.elim
      obtain ⟨o, d⟩ := u
      cases d <;> first | (rename_i z; exact absurd z Bool.false_ne_true) | skip
      rename_i m _
      obtain ⟨d, q, k⟩ := ownL_fin h2
      cases q
      exact ⟨m, Q, r2.1, d2, k, rfl⟩
  refine Call_ (ld_blt I gt (fx.free _ rt) boot_list (PyProof.Rows.callWith_type1 (args_cons (Call_ (ld_blt I gr (fx.free _ rr) PyProof.Rows.boot_reversed (PyProof.Rows.callWith_type1 (args_cons (thn (he.run pins s σ H _ I hE) fun u s1 ⟨v, H1, I1, r1, m, q, rd, dm, ho, eq⟩ => args_nil ?_) hs) hs rfl))) hs2) hs2 rfl))
  subst eq
  obtain ⟨a, vs, rfl, hp, _, rr⟩ := rd
  obtain rfl : u = Value.ref a := r1
  obtain ⟨its, rv, p', hz⟩ := I1.list (SqL.of hp)
  refine call_reversed_list p'.isList (args_nil ?_)
  have k0 : ∀ b o, s1.heap.get? b = some o → (s1.heap.push (revObj a ((its.toArray.size : Int) - 1))).get? b = some o := fun b o e => Heap.get?_push_of_some _ e
  have I2 : Inv X pins σ H1 { s1 with heap := s1.heap.push (revObj a ((its.toArray.size : Int) - 1)) } := I1.kept (t' := s1.toks) k0
  have fo : FpOk X pins H1 s1.heap.objs.size := I1.fpOk (H' := H1) (b := s1.heap.objs.size) (Nat.le_refl _) (I1.hok.fresh (Nat.le_refl _))
  obtain ⟨ol, hol, _⟩ := id p'.isList
  have ne : a ≠ s1.heap.objs.size := Nat.ne_of_lt (Heap.lt_size hol)
  have hn : its.toArray.size ≤ sizeLine := by rw [List.size_toArray, ← rv.length]; exact hz
  refine call_list_rvl (s := { s1 with heap := s1.heap.push (revObj a ((its.toArray.size : Int) - 1)) }) (I1.ok.hd hc) ⟨_, Heap.get?_push_size _ rfl, rfl, rfl⟩ (p'.isList.push _) ne hn fun h' tk acc c hk hg hi => ?_
  have I3 := I2.turnedNew (t' := tk) (ch := [s1.heap.objs.size]) (T := (s1.heap.push (revObj a ((its.toArray.size : Int) - 1))).objs.size) (ob := .lst vs.reverse) (h' := h') (fun b o hb e => hk b o (fun z => hb (by simp [z])) e) (fun b hb => by cases List.mem_singleton.mp hb; exact fo) (Nat.le_refl _) ⟨by rw [List.length_reverse]; exact hz, acc.toList, c, vals_rev rv hi, by rw [Array.toArray_toList]; exact hg⟩
  exact ⟨.ref _, _, I3, rfl, ho.lst dm (Reps.reverse rr) _ (I2.hok.fresh (Nat.le_refl _))⟩
/-- list(x): x's own list is only looked into -/
theorem sE_lsv {i : Nat} {x : Str} {p p2 pos : Pos} (fx : Fx X.K X.mg g w) (gt : Gl X "list") (rt : g.fr "list" = true) (hN : X.N[i]? = some x) (hv : Vis X.env.scope x) (hd : (x == ("__debug__" : Str)) = false) (hcd : (x == ("__classdict__" : Str)) = false) :
    PE X (.Call (.Name "list" p) [.Name x p2] [] pos) (tE g C w W (.lsv i)) :=
  PE.imp (pe_callTy (T := "list") call_list_of gt (fx.free _ rt) (by rfl) (pa_cons (pe_var hN hv hd hcd) pa_nil (by rfl))) fun σ H Q ⟨env, O, dom, en, f⟩ => by
    have f : fR w W σ O (rV w O) H ((look env i).bind fun x => if isLst x.2 = true then ownL (biD .list [x.2]) else .no) Q := f
    have en : EnvE w H O σ env [(i, false)] := en
    rcases look_tame (env := env) (i := i) with ⟨v, e⟩ | e
    · rw [e] at f
      obtain ⟨o, d, e1, rfl, ox, oy⟩ := look_ok e
      obtain ⟨v, hv, r⟩ := en.getK (List.mem_singleton.mpr rfl) e1 ox
      cases d with
      | lst l =>
        have f : fR w W σ O (rV w O) H (ownL (.ok (.lst l))) Q := f
        obtain ⟨d', q, k⟩ := ownL_fin f
        cases q
        obtain ⟨a, vs, rfl, hp, rr⟩ := r
        exact ⟨.ref a, hv, a, vs, rfl, .inl (SqL.of hp), k.lst dom rr⟩
      | _ => exact f.elim
    · rw [e] at f; exact f.elim
end
end S2

set_option maxHeartbeats 4000000
/-! S2j: what loops walk; comprehensions. -/
namespace S2
open PySem PySem.Spec PyProof.Rows L2

/-- what is not O's to write stands as it stood -/
def Ext (O : Addr → Prop) (H H' : Hp) : Prop := ∀ a o, H a = some o → (O a → ¬ Mut (some o)) → H' a = some o
section
variable {w : Wr} {O : Addr → Prop} {H H' H2 : Hp}
theorem Ext.refl : Ext O H H := fun _ _ h _ => h
theorem Ext.of (s : Same H H') : Ext O H H' := fun a o h _ => s a o h
theorem Ext.trans (a : Ext O H H') (b : Ext O H' H2) : Ext O H H2 := fun x o h n => b x o (a x o h n) n
theorem Ext.write {p : Addr} {u : HO} (op : O p) (m : Mut (H p)) : Ext O H (upd H p u) := fun a o h n => by
  have : a ≠ p := fun e => by subst e; rw [h] at m; exact n op m
  rw [upd_ne this]; exact h
theorem Ext.mono {O' : Addr → Prop} (s : ∀ a, O a → O' a) (e : Ext O H H') : Ext O' H H' := fun a o h n => e a o h fun z => n (s a z)
theorem SqT.ext {K : PySem.W.Frag} {a : Addr} {xs : List V} (s : Ext O H H') (h : SqT K H a xs) : SqT K H' a xs := by
  rcases h with (h | ⟨o, h⟩) | h
  · exact .inl (.inl (s _ _ h fun _ m => m))
  · exact .inl (.inr ⟨o, s _ _ h fun _ m => m⟩)
  · exact .inr h
mutual
theorem Rep.ext (s : Ext O H H') : ∀ (d : D) (v : V), Rep w H O d v → Rep w H' O d v
  | .non, _, h => h
  | .bl _, _, h => h
  | .int _, _, h => h
  | .str _, _, h => h
  | .scr _, _, ⟨a, e, h⟩ => ⟨a, e, h.imp (fun ⟨o, q⟩ => ⟨o, s _ _ q fun _ m => m⟩) id⟩
  | .tup l, _, ⟨a, vs, e, h, r⟩ => ⟨a, vs, e, SqT.ext s h, Reps.ext s l vs r⟩
  | .lst l, _, ⟨a, vs, e, h, n, r⟩ => ⟨a, vs, e, s _ _ h fun z => absurd z n, n, Reps.ext s l vs r⟩
  | .dct _ ds, _, ⟨a, e, n, h⟩ => ⟨a, e, n, h.imp (fun ⟨kvs, q, k, r⟩ => ⟨kvs, s _ _ q fun z => absurd z n, k, Reps.ext s ds _ r⟩) (fun ⟨kvs, q, k, r⟩ => ⟨kvs, s _ _ q fun z => absurd z n, k, Reps.ext s ds _ r⟩)⟩
  | .ob _ _ ds, _, ⟨a, dx, fs, e, h, n, k, r⟩ => ⟨a, dx, fs, e, s _ _ h fun z => absurd z n, n, k, Reps.ext s ds _ r⟩
theorem Reps.ext (s : Ext O H H') : ∀ (l : List D) (vs : List V), Reps w H O l vs → Reps w H' O l vs
  | [], _, h => h
  | d :: l, _, ⟨v, r, e, h, hr⟩ => ⟨v, r, e, Rep.ext s d v h, Reps.ext s l r hr⟩
end
end

/-- J walks over the data -/
def Walk (w : Wr) (O : Addr → Prop) (J : L2.It) (xs : List D) (H : Hp) : Prop := ∃ L : Hp → Prop, L H ∧ (∀ H H', L H → Ext O H H' → L H') ∧
  ∀ H, L H → (∀ i d, xs[i]? = some d → J.go i H ∧ ∀ x H', J.yld i H x H' → Same H H' ∧ Rep w H' O d x) ∧ J.stop xs.length H
section
variable {w : Wr} {O : Addr → Prop} {H : Hp}
theorem walk_list {l : List D} {x : V} (r : Rep w H O (.lst l) x) : ∃ a, x = .ref a ∧ Walk w O (Itl w.K a) l H := by
  obtain ⟨a, vs, e, h, n, r⟩ := r
  refine ⟨a, e, fun H => H a = some (.lst vs) ∧ Reps w H O l vs, ⟨h, r⟩, fun H H' ⟨h, r⟩ s => ⟨s _ _ h fun z => absurd z n, Reps.ext s _ _ r⟩, fun H ⟨h, r⟩ => ⟨fun i d e => ?_, ⟨vs, SqL.of h, Nat.le_of_eq r.length.symm⟩⟩⟩
  obtain ⟨v, ev, rv⟩ := Reps.get r e
  refine ⟨⟨vs, v, SqL.of h, ev⟩, fun x H' ⟨e1, y⟩ => ?_⟩
  subst e1
  have := y vs (SqL.of h)
  rw [ev] at this
  cases this
  exact ⟨Same.refl _, rv⟩
theorem walk_tup {l : List D} {x : V} (r : Rep w H O (.tup l) x) : ∃ a, x = .ref a ∧ (∃ vs, SqT w.K H a vs) ∧ Walk w O (Itt w.K a) l H := by
  obtain ⟨a, vs, e, h, r⟩ := r
  refine ⟨a, e, ⟨vs, h⟩, fun H => SqT w.K H a vs ∧ Reps w H O l vs, ⟨h, r⟩, fun H H' ⟨h, r⟩ s => ⟨SqT.ext s h, Reps.ext s _ _ r⟩, fun H ⟨h, r⟩ => ⟨fun i d e => ?_, ⟨vs, h, Nat.le_of_eq r.length.symm⟩⟩⟩
  obtain ⟨v, ev, rv⟩ := Reps.get r e
  refine ⟨⟨vs, v, h, ev⟩, fun x H' ⟨e1, y⟩ => ?_⟩
  subst e1
  have := y vs h
  rw [ev] at this
  cases this
  exact ⟨Same.refl _, rv⟩
theorem scr_sq {l : List Int} {a : Addr} (h : (∃ o, H a = some (.frz o (.lst (l.map V.int)))) ∨ KL w.K a (l.map V.int)) : SqL w.K H a (l.map V.int) := by
  rcases h with ⟨o, h⟩ | h
  · exact .inl (.inr ⟨o, h⟩)
  · exact .inr h
theorem walk_scr {l : List Int} {x : V} (r : Rep w H O (.scr l) x) : ∃ a, x = .ref a ∧ (∃ vs, SqL w.K H a vs) ∧ Walk w O (Itl w.K a) (l.map .int) H := by
  obtain ⟨a, e, h⟩ := r
  refine ⟨a, e, ⟨_, scr_sq h⟩, fun H => (∃ o, H a = some (.frz o (.lst (l.map V.int)))) ∨ KL w.K a (l.map V.int), h, fun H H' h s => h.imp (fun ⟨o, q⟩ => ⟨o, s _ _ q fun _ m => m⟩) id, fun H h => ⟨fun i d e => ?_, ⟨_, scr_sq h, by rw [List.length_map, List.length_map]; exact Nat.le_refl _⟩⟩⟩
  rw [List.getElem?_map] at e
  cases q : l[i]? with
  | none => rw [q] at e; cases e
  | some k =>
    rw [q] at e
    cases e
    have ev : (l.map V.int)[i]? = some (.int k) := by rw [List.getElem?_map, q]; rfl
    refine ⟨⟨_, _, scr_sq h, ev⟩, fun x H' ⟨e1, y⟩ => ?_⟩
    subst e1
    have := y _ (scr_sq h)
    rw [ev] at this
    cases this
    exact ⟨Same.refl _, rfl⟩
theorem walk_str {z : Str} {x : V} (r : Rep w H O (.str z) x) : x = .str z ∧ Walk w O (Its z) (z.cps.toList.map fun c => .str ⟨#[c]⟩) H := by
  refine ⟨r, fun _ => True, trivial, fun _ _ _ _ => trivial, fun H _ => ⟨fun i d e => ?_, ?_⟩⟩
  · rw [List.getElem?_map] at e
    cases q : z.cps.toList[i]? with
    | none => rw [q] at e; cases e
    | some c =>
      rw [q] at e
      cases e
      have q' : z.cps[i]? = some c := by rw [← Array.getElem?_toList]; exact q
      refine ⟨(Array.getElem?_eq_some_iff.mp q').1, fun x H' ⟨e1, c', hc, ex⟩ => ?_⟩
      rw [q'] at hc
      cases hc
      subst e1; subst ex
      exact ⟨Same.refl _, rfl⟩
  · show z.cps.size ≤ _
    rw [List.length_map, Array.length_toList]
    exact Nat.le_refl _
theorem walk_rng {lo : Int} {n : Nat} : Walk w O (Itr lo n) (upto lo n) H := by
  refine ⟨fun _ => True, trivial, fun _ _ _ _ => trivial, fun H _ => ⟨fun i d e => ?_, ?_⟩⟩
  · unfold upto at e
    rw [List.getElem?_map] at e
    by_cases hi : i < n
    · rw [List.getElem?_range hi] at e
      cases e
      refine ⟨hi, fun x H' ⟨e1, ex⟩ => ?_⟩
      subst e1; subst ex
      exact ⟨Same.refl _, rfl⟩
    · rw [List.getElem?_eq_none (by rw [List.length_range]; omega)] at e
      cases e
  · show n ≤ _
    unfold upto
    rw [List.length_map, List.length_range]
    exact Nat.le_refl _
theorem rev_get {α : Type} {l : List α} {i : Nat} {d : α} (h : l.reverse[i]? = some d) : i < l.length ∧ l[l.length - 1 - i]? = some d := by
  have hi : i < l.length := by
    have := (List.getElem?_eq_some_iff.mp h).1
    rwa [List.length_reverse] at this
  rw [List.getElem?_reverse hi] at h
  exact ⟨hi, h⟩
theorem walk_rev {l : List D} {x : V} (r : Rep w H O (.lst l) x) : ∃ a vs, x = .ref a ∧ SqL w.K H a vs ∧ vs.length = l.length ∧ Walk w O (L2.Itv w.K a l.length) l.reverse H := by
  obtain ⟨a, vs, e, h, n, r⟩ := r
  rw [r.length]
  refine ⟨a, vs, e, SqL.of h, rfl, fun H => H a = some (.lst vs) ∧ Reps w H O l vs, ⟨h, r⟩, fun H H' ⟨h, r⟩ s => ⟨s _ _ h fun z => absurd z n, Reps.ext s _ _ r⟩, fun H ⟨h, r⟩ => ⟨fun i d e => ?_, ?_⟩⟩
  · obtain ⟨hi, e⟩ := rev_get e
    obtain ⟨v, ev, rv⟩ := Reps.get r e
    rw [r.length] at ev hi
    refine ⟨⟨hi, vs, v, SqL.of h, ev⟩, fun x H' ⟨e1, y⟩ => ?_⟩
    subst e1
    have := y vs (SqL.of h)
    rw [ev] at this
    cases this
    exact ⟨Same.refl _, rv⟩
  · show vs.length ≤ _
    rw [List.length_reverse, r.length]
    exact Nat.le_refl _
theorem walk_revT {l : List D} {x : V} (r : Rep w H O (.tup l) x) : ∃ a vs, x = .ref a ∧ SqT w.K H a vs ∧ vs.length = l.length ∧ Walk w O (RT.ItvT w.K a l.length) l.reverse H := by
  obtain ⟨a, vs, e, h, r⟩ := r
  rw [r.length]
  refine ⟨a, vs, e, h, rfl, fun H => SqT w.K H a vs ∧ Reps w H O l vs, ⟨h, r⟩, fun H H' ⟨h, r⟩ s => ⟨SqT.ext s h, Reps.ext s _ _ r⟩, fun H ⟨h, r⟩ => ⟨fun i d e => ?_, ?_⟩⟩
  · obtain ⟨hi, e⟩ := rev_get e
    obtain ⟨v, ev, rv⟩ := Reps.get r e
    rw [r.length] at ev hi
    refine ⟨⟨hi, vs, v, h, ev⟩, fun x H' ⟨e1, y⟩ => ?_⟩
    subst e1
    have := y vs h
    rw [ev] at this
    cases this
    exact ⟨Same.refl _, rv⟩
  · show vs.length ≤ _
    rw [List.length_reverse, r.length]
    exact Nat.le_refl _
end

/-! ### what is iterated -/
def rIt (w : Wr) (O : Addr → Prop) : Hp → Hp → OD × List D → L2.It × V → Prop := fun H H' v p => VR w H H' O v.1 p.2 ∧ ∀ O' H2, Rep w H2 O' v.1.2 p.2 → Walk w O' p.1 v.2 H2
theorem rIt_ok {w : Wr} {O : Addr → Prop} : RelOk (rIt w O) := ⟨fun s h => ⟨VR.pre s h.1, h.2⟩⟩
abbrev tI (g : G) (C : Cal) (w : Wr) (W : WX) (it : It) : TI := fun σ H R => tF w W (rIt w) (items g C it) (rdi it) σ H fun p H' => R p.1 H'
theorem PI.imp {X : Cx} {tg e : Expr} {t t' : TI} (h : PI X tg e t) (k : ∀ σ H Q, t' σ H Q → t σ H Q) : PI X tg e t' := ⟨fun pins s σ H Q I q => h.run pins s σ H Q I (k σ H Q q)⟩
theorem PI.or {X : Cx} {tg e : Expr} {t t' : TI} (h : PI X tg e t) (h' : PI X tg e t') : PI X tg e (fun σ H Q => t σ H Q ∨ t' σ H Q) := ⟨fun pins s σ H Q I q => q.elim (h.run pins s σ H Q I) (h'.run pins s σ H Q I)⟩
section
variable {X : Cx} {W : WX} {g : G} {w : Wr} {n : Nat} {C : Cal} {a b tg : Expr} {ia ib : E} {pos p : Pos}
theorem sI_it (hw : w.K = X.K) (ha : PE X a (tE g C w W ia)) : PI X tg a (tI g C w W (.it ia)) :=
  PI.imp (PI.or (pi_list ha) (PI.or (pi_tup ha) (pi_str ha))) fun σ H Q ⟨env, O, dom, en, f⟩ => by
    have f : fR w W σ O (rIt w O) H ((ev g C ia env).bind fun x => match itD x.2 with
      | some l => .ok (x, l)
      | none => .no) (fun p H' => Q p.1 H') := f
    have left : ∀ {R1 : VK}, (∀ v x H1, Dom O H1 → VR w H H1 O v x → Same H H1 → ev g C ia env = .ok v → R1 x H1) → tE g C w W ia σ H R1 := fun k => ⟨env, O, dom, en, by
      cases q : ev g C ia env with
      | ok v => exact fun x H1 s r => k v x H1 (dom.same s) r s q
      | exc d => rw [q] at f; exact f
      | no => rw [q] at f; exact f⟩
    cases q : ev g C ia env with
    | ok v =>
      rw [q] at f
      obtain ⟨o, d⟩ := v
      cases d with
      | lst l =>
        refine .inl (left fun v x H1 d1 r1 s1 e1 => ?_)
        rw [q] at e1
        cases e1
        obtain ⟨a, rfl, _⟩ := walk_list r1.1
        obtain ⟨a', vs, e2, hp, _, _⟩ := r1.1
        cases e2
        refine ⟨a, rfl, ⟨vs, SqL.of hp⟩, f (Itl X.K a, .ref a) H1 s1 ⟨r1, fun O' H2 r => ?_⟩⟩
        obtain ⟨a', e3, w'⟩ := walk_list r
        cases e3
        exact hw ▸ w'
      | scr l =>
        refine .inl (left fun v x H1 d1 r1 s1 e1 => ?_)
        rw [q] at e1
        cases e1
        obtain ⟨a, rfl, sq, _⟩ := walk_scr r1.1
        refine ⟨a, rfl, hw ▸ sq, f (Itl X.K a, .ref a) H1 s1 ⟨r1, fun O' H2 r => ?_⟩⟩
        obtain ⟨a', e3, _, w'⟩ := walk_scr r
        cases e3
        exact hw ▸ w'
      | tup l =>
        refine .inr (.inl (left fun v x H1 d1 r1 s1 e1 => ?_))
        rw [q] at e1
        cases e1
        obtain ⟨a, rfl, sq, _⟩ := walk_tup r1.1
        refine ⟨a, rfl, hw ▸ sq, f (Itt X.K a, .ref a) H1 s1 ⟨r1, fun O' H2 r => ?_⟩⟩
        obtain ⟨a', e3, _, w'⟩ := walk_tup r
        cases e3
        exact hw ▸ w'
      | str z =>
        refine .inr (.inr (left fun v x H1 d1 r1 s1 e1 => ?_))
        rw [q] at e1
        cases e1
        refine ⟨z, r1.1, f (Its z, x) H1 s1 ⟨r1, fun O' H2 r => (walk_str r).2⟩⟩
      | _ => exact f.elim
    | exc d => exact .inl (left fun v x H1 d1 r1 s1 e1 => by rw [q] at e1; cases e1)
    | no => rw [q] at f; exact f.elim
theorem small_ok {i : Int} (h : small62 i = true) : -(2 ^ 62) ≤ i ∧ i < 2 ^ 62 := by
  have := absLe_ok h
  constructor <;> omega
theorem rngD_ok {lo hi : Int} {l : List D} (h : rngD lo hi = .ok l) : small62 lo = true ∧ small62 hi = true ∧ l = upto lo (hi - lo).toNat := by
  unfold rngD at h
  split at h
  · rename_i z
    rw [Bool.and_eq_true] at z
    cases h
    exact ⟨z.1, z.2, rfl⟩
  · cases h
theorem rngD_tame {lo hi : Int} : (∃ l, rngD lo hi = .ok l) ∨ rngD lo hi = .no := by
  unfold rngD; split <;> simp
theorem sI_rng1 (fx : Fx X.K X.mg g w) (hg : Gl X "range") (hr : g.fr "range" = true) (ha : PE X a (tE g C w W ia)) (hs : starEach [a] X.env = (false, eval a X.env) :: starEach [] X.env) : PI X tg (.Call (.Name "range" p) [a] [] pos) (tI g C w W (.rng1 ia)) :=
  PI.imp (pi_range1 hg (fx.free _ hr) (pa_cons ha pa_nil hs) (by rw [hs, starEach_nil])) fun σ H Q ⟨env, O, dom, en, f⟩ => by
    refine one_in (is := []) rIt_ok dom (by rw [List.append_nil]; exact en) f fun v x H1 d1 e1 r1 _ h1 => ?_
    obtain ⟨o, d⟩ := v
    cases d with
    | int j =>
      have h1 : fR w W σ O (rIt w O) H1 ((rngD 0 j).bind fun l => .ok ((.sh, .non), l)) (fun p H' => Q p.1 H') := h1
      rcases rngD_tame (lo := 0) (hi := j) with ⟨l, e⟩ | e
      · rw [e] at h1
        obtain ⟨z1, z2, rfl⟩ := rngD_ok e
        refine ⟨j, by rw [show x = .int j from r1.1], (small_ok z2).1, (small_ok z2).2, ?_⟩
        have := h1 (Itr 0 j.toNat, .non) H1 (Same.refl _) ⟨VR.sh rfl, fun O' H2 _ => by rw [Int.sub_zero]; exact walk_rng⟩
        exact this
      · rw [e] at h1; exact h1.elim
    | _ => exact h1.elim
theorem sI_rng2 (fx : Fx X.K X.mg g w) (hg : Gl X "range") (hr : g.fr "range" = true) (ha : PE X a (tE g C w W ia)) (hb : PE X b (tE g C w W ib)) (hs : starEach [a, b] X.env = (false, eval a X.env) :: starEach [b] X.env) (hs2 : starEach [b] X.env = (false, eval b X.env) :: starEach [] X.env) :
    PI X tg (.Call (.Name "range" p) [a, b] [] pos) (tI g C w W (.rng2 ia ib)) :=
  PI.imp (pi_range2 hg (fx.free _ hr) (pa_cons ha (pa_cons hb pa_nil hs2) hs) (by rw [hs, hs2, starEach_nil]) (by rw [hs2, starEach_nil])) fun σ H Q ⟨env, O, dom, en, f⟩ => by
    refine two_in (is := []) rIt_ok dom (en.sub fun i m => by rw [List.append_nil] at m; exact m) f fun v u x y H1 d1 e1 r1 r2 h1 => ?_
    obtain ⟨o, d⟩ := v
    obtain ⟨o2, d2⟩ := u
    cases d with
    | int i =>
      cases d2 with
      | int j =>
        have h1 : fR w W σ O (rIt w O) H1 ((rngD i j).bind fun l => .ok ((.sh, .non), l)) (fun p H' => Q p.1 H') := h1
        rcases rngD_tame (lo := i) (hi := j) with ⟨l, e⟩ | e
        · rw [e] at h1
          obtain ⟨z1, z2, rfl⟩ := rngD_ok e
          refine ⟨i, j, by rw [show x = .int i from r1, show y = .int j from r2], ⟨(small_ok z1).1, (small_ok z1).2, (small_ok z2).1, (small_ok z2).2⟩, ?_⟩
          exact h1 (Itr i (j - i).toNat, .non) H1 (Same.refl _) ⟨VR.sh rfl, fun O' H2 _ => walk_rng⟩
        · rw [e] at h1; exact h1.elim
      | _ => exact h1.elim
    | _ => exact nomatch (show False from h1)
theorem sI_rev (hw : w.K = X.K) (fx : Fx X.K X.mg g w) (hg : Gl X "reversed") (hr : g.fr "reversed" = true) (ha : PE X a (tE g C w W ia)) (hs : starEach [a] X.env = (false, eval a X.env) :: starEach [] X.env) : PI X tg (.Call (.Name "reversed" p) [a] [] pos) (tI g C w W (.rev ia)) :=
  PI.imp (RT.pi_revA hg (fx.free _ hr) ha hs) fun σ H Q ⟨env, O, dom, en, f⟩ => by
    refine ⟨env, O, dom, en, f.bind (rel' := rV w O) fun v x H1 s1 r1 h1 => ?_⟩
    obtain ⟨o, d⟩ := v
    cases d with
    | lst l =>
      obtain ⟨a, vs, rfl, sq, hl, _⟩ := walk_rev r1.1
      refine ⟨a, vs, rfl, .inl ⟨hw ▸ sq, h1 (L2.Itv X.K a vs.length, .ref a) H1 s1 ⟨r1, fun O' H2 r => ?_⟩⟩⟩
      obtain ⟨a', vs', e3, sq', _, w'⟩ := walk_rev r
      cases e3
      rw [hl]
      exact hw ▸ w'
    | tup l =>
      obtain ⟨a, vs, rfl, sq, hl, _⟩ := walk_revT r1.1
      refine ⟨a, vs, rfl, .inr ⟨hw ▸ sq, h1 (RT.ItvT X.K a vs.length, .ref a) H1 s1 ⟨r1, fun O' H2 r => ?_⟩⟩⟩
      obtain ⟨a', vs', e3, sq', _, w'⟩ := walk_revT r
      cases e3
      rw [hl]
      exact hw ▸ w'
    | _ => exact h1.elim
end
end S2

set_option maxHeartbeats 4000000
/-! S2k: targets, comprehensions. -/
namespace S2
open PySem PySem.Spec PyProof.Rows L2

def tgS : Tg → List Nat
  | .nm i => [i]
  | .tp is => is
def gSl : List Nat → TGs
  | [] => gNil
  | i :: is => gCons (gName i) (gSl is)
def gT (K : PySem.W.Frag) : Tg → TG
  | .nm i => gName i
  | .tp is => gTup K is.length (gSl is)
/-- some slots have been set to shared values -/
structure Put (w : Wr) (H : Hp) (O : Addr → Prop) (is : List Nat) (env : Env) (σ : L2.St) (env' : Env) (σ' : L2.St) : Prop where
  le : env'.length = env.length
  ls : σ'.length = σ.length
  out : ∀ j, j ∉ is → env'[j]? = env[j]? ∧ σ'[j]? = σ[j]?
  at' : ∀ j, j ∈ is → j < env.length → ∃ d v, env'[j]? = some (some (.sh, d)) ∧ σ'[j]? = some (some v) ∧ Rep w H O d v
section
variable {w : Wr} {H : Hp} {O O' : Addr → Prop} {env env' : Env} {σ : L2.St}
theorem Put.one {i : Nat} {d : D} {v : V} (hl : env.length = σ.length) (r : Rep w H O d v) : Put w H O [i] env σ (env.set i (some (.sh, d))) (σ.set i (some v)) where
  le := List.length_set ..
  ls := List.length_set ..
  out := fun j hj => by
    have : i ≠ j := fun e => hj (by rw [e]; exact List.mem_singleton.mpr rfl)
    exact ⟨List.getElem?_set_ne this, List.getElem?_set_ne this⟩
  at' := fun j hj hn => by
    cases List.mem_singleton.mp hj
    exact ⟨d, v, by rw [List.getElem?_set_self hn], by rw [List.getElem?_set_self (hl ▸ hn)], r⟩
theorem Put.nil : Put w H O [] env σ env σ := ⟨rfl, rfl, fun _ _ => ⟨rfl, rfl⟩, fun j hj => absurd hj (by simp)⟩
theorem Put.cons {i : Nat} {is : List Nat} {d : D} {v : V} {σ' : L2.St} (hl : env.length = σ.length) (r : Rep w H O d v) (p : Put w H O is (env.set i (some (.sh, d))) (σ.set i (some v)) env' σ') : Put w H O (i :: is) env σ env' σ' := by
  have q := Put.one (i := i) hl r
  refine ⟨p.le.trans q.le, p.ls.trans q.ls, fun j hj => ?_, fun j hj hn => ?_⟩
  · have h1 := p.out j fun z => hj (List.mem_cons_of_mem _ z)
    have h2 := q.out j fun z => hj (by rw [List.mem_singleton.mp z]; exact List.mem_cons_self)
    exact ⟨h1.1.trans h2.1, h1.2.trans h2.2⟩
  · by_cases z : j ∈ is
    · exact p.at' j z (by rw [q.le]; exact hn)
    · have h1 := p.out j z
      rcases List.mem_cons.mp hj with e | e
      · obtain ⟨d', v', e1, e2, r'⟩ := q.at' j (List.mem_singleton.mpr e) hn
        exact ⟨d', v', h1.1.trans e1, h1.2.trans e2, r'⟩
      · exact absurd e z
theorem put_all : ∀ {is : List Nat} {ds : List D} {vs : List V} {env env' : Env} {σ : L2.St}, env.length = σ.length → setAll is ds env = some env' → Reps w H O ds vs →
    ∃ σ', (∀ Q : L2.St → Hp → Prop, Q σ' H → gSl is vs σ H Q) ∧ Put w H O is env σ env' σ'
  | [], [], vs, env, env', σ, hl, h, r => by
    cases h
    exact ⟨σ, fun Q q => ⟨r, q⟩, Put.nil⟩
  | [], _ :: _, _, _, _, _, _, h, _ => by cases h
  | _ :: _, [], _, _, _, _, _, h, _ => by cases h
  | i :: is, d :: ds, vs, env, env', σ, hl, h, ⟨v, r', e, rv, rs⟩ => by
    obtain ⟨σ', h1, h2⟩ := put_all (is := is) (σ := σ.set i (some v)) (by rw [List.length_set, List.length_set]; exact hl) h rs
    exact ⟨σ', fun Q q => ⟨v, r', e, h1 Q q⟩, Put.cons hl rv h2⟩
theorem setAll_len : ∀ {is : List Nat} {ds : List D} {env env' : Env}, setAll is ds env = some env' → is.length = ds.length
  | [], [], _, _, _ => rfl
  | [], _ :: _, _, _, h => by cases h
  | _ :: _, [], _, _, h => by cases h
  | i :: is, d :: ds, env, env', h => by rw [List.length_cons, List.length_cons, setAll_len (is := is) h]
theorem put_tg {tg : Tg} {d : D} {x : V} (hl : env.length = σ.length) (h : bindT tg d env = some env') (r : Rep w H O d x) : ∃ σ', (∀ Q : L2.St → Hp → Prop, Q σ' H → gT w.K tg x σ H Q) ∧ Put w H O (tgS tg) env σ env' σ' := by
  cases tg with
  | nm i =>
    cases h
    exact ⟨σ.set i (some x), fun Q q => q, Put.one hl r⟩
  | tp is =>
    cases d with
    | tup l =>
      obtain ⟨a, vs, e, hs, rs⟩ := r
      have h : setAll is l env = some env' := h
      obtain ⟨σ', h1, h2⟩ := put_all hl h rs
      exact ⟨σ', fun Q q => ⟨a, vs, e, hs, by rw [← rs.length, setAll_len h], h1 Q q⟩, h2⟩
    | _ => cases h
/-- in the block: its own slots are set, the others as they were -/
theorem EnvE.put {is : List (Nat × Bool)} {js vs : List Nat} {σ' : L2.St} (h : EnvE w H O σ env is) (hv : ∀ j ∈ vs, j ∈ js) (p : Put w H O js env (wipe σ vs) env' σ') : EnvE w H O σ' env' is := by
  have hl : env'.length = σ'.length := by rw [p.le, p.ls, wipe_length]; exact h.1.1
  refine ⟨⟨hl, fun i m d e => ?_⟩, fun i m o d e ox oy => ?_⟩
  · by_cases z : i.1 ∈ js
    · have hn : i.1 < env.length := by
        have := (List.getElem?_eq_some_iff.mp e).1
        rw [p.le] at this; exact this
      obtain ⟨d', v, e1, e2, r⟩ := p.at' _ z hn
      rw [e] at e1
      cases e1
    · obtain ⟨h1, h2⟩ := p.out _ z
      rw [h1] at e
      obtain ⟨e1, r⟩ := h.1.2 i m d e
      exact ⟨by rw [h2, wipe_out fun q => z (hv _ q)]; exact e1, r⟩
  by_cases z : i.1 ∈ js
  · have hn : i.1 < env.length := by
      have := (List.getElem?_eq_some_iff.mp e).1
      rw [p.le] at this; exact this
    obtain ⟨d', v, e1, e2, r⟩ := p.at' _ z hn
    rw [e] at e1
    cases e1
    refine ⟨v, e2, ?_⟩
    split
    · exact r
    · exact r.k
  · obtain ⟨h1, h2⟩ := p.out _ z
    rw [h1] at e
    obtain ⟨v, e1, r⟩ := h.2 i m o d e ox oy
    exact ⟨v, by rw [h2, wipe_out fun q => z (hv _ q)]; exact e1, r⟩
theorem wipe_in {σ : L2.St} {i : Nat} : ∀ {vs : List Nat}, i ∈ vs → (wipe σ vs)[i]? = if i < σ.length then some none else none
  | [], h => absurd h (by simp)
  | v :: vs, h => by
    unfold wipe
    by_cases e : v = i
    · subst e
      split
      · rename_i hl
        rw [List.getElem?_set_self (by rw [wipe_length]; exact hl)]
      · rename_i hl
        rw [List.getElem?_eq_none]
        rw [List.length_set, wipe_length]; omega
    · rw [List.getElem?_set_ne e]
      exact wipe_in ((List.mem_cons.mp h).resolve_left fun z => e z.symm)
theorem wipe_put {js vs : List Nat} {σ' : L2.St} (hv : ∀ j ∈ js, j ∈ vs) (p : Put w H O js env (wipe σ vs) env' σ') : wipe σ' vs = wipe σ vs := by
  refine List.ext_getElem? fun j => ?_
  have hl : σ'.length = σ.length := by rw [p.ls, wipe_length]
  by_cases z : j ∈ vs
  · rw [wipe_in z, wipe_in z, hl]
  · rw [wipe_out z, (p.out j fun q => z (hv j q)).2]
end

/-! ### [e for .. in .. if ..] -/
abbrev Wf : WX := fun _ _ _ _ => False
abbrev tC' (g : G) (C : Cal) (w : Wr) (c : Eo) : TT := tF w Wf (rI Bool) (tsto g C c) (rdo c)
/-- the items that have come -/
def AccR (w : Wr) (H1 H : Hp) (O : Addr → Prop) (D : Addr) (l : List OD) (acc : List V) : Prop := Reps w H (fun a => O a ∨ a = D) (l.map (·.2)) acc ∧
  (l.all (fun p => decide (p.1 = .o1) && isLst p.2) = true → ∃ qs : List Addr, acc = qs.map V.ref ∧ qs.Nodup ∧ (∀ q ∈ qs, H1 q = none ∧ q ≠ D) ∧ Kids w H (fun a => O a ∨ a ∈ D :: qs) (l.map (·.2)) qs)
theorem AccR.nil {w : Wr} {H1 H : Hp} {O : Addr → Prop} {D : Addr} : AccR w H1 H O D [] [] := ⟨rfl, fun _ => ⟨[], rfl, .nil, fun _ z => absurd z (by simp), rfl⟩⟩
theorem AccR.same {w : Wr} {H1 H H' : Hp} {O : Addr → Prop} {D : Addr} {l : List OD} {acc : List V} (s : Same H H') (h : AccR w H1 H O D l acc) : AccR w H1 H' O D l acc :=
  ⟨Reps.same s _ _ h.1, fun a => let ⟨qs, e, nd, q, ks⟩ := h.2 a; ⟨qs, e, nd, q, ks.same s⟩⟩
/-- all that is new since H1 is kept off -/
def big (O : Addr → Prop) (H1 H : Hp) : Addr → Prop := fun a => O a ∨ (H1 a = none ∧ H a ≠ none)
theorem AccR.push {w : Wr} {H1 H3 H4 : Hp} {O : Addr → Prop} {D : Addr} {l : List OD} {acc xs : List V} {v : OD} {y : V} (hD1 : H1 D = none) (hD : H4 D = some (.lst xs)) (h : AccR w H1 H3 O D l acc) (s : Same H3 H4) (s1 : ∀ b o, H1 b = some o → H3 b = some o) (hD3 : H3 D ≠ none) (r : VR w H3 H4 (big O H1 H3) v y) (u : HO) :
    AccR w H1 (upd H4 D u) O D (l ++ [v]) (acc ++ [y]) := by
  have m : Mut (H4 D) := by rw [hD]; trivial
  have h' := h.same s
  have oD : (fun a => O a ∨ a = D) D := .inr rfl
  have sub : ∀ a, (O a ∨ a = D) → big O H1 H3 a := fun a z => z.imp id fun z => by rw [z]; exact ⟨hD1, hD3⟩
  refine ⟨?_, fun a => ?_⟩
  · rw [List.map_append]
    exact Reps.append (Reps.write oD m _ _ h'.1) (Reps.one (Rep.write oD m _ _ (Rep.mono sub _ _ r.1)))
  · rw [List.all_append, Bool.and_eq_true] at a
    obtain ⟨a1, a2⟩ := a
    obtain ⟨qs, e, nd, q, ks⟩ := h.2 a1
    rw [List.all_cons, Bool.and_eq_true, Bool.and_eq_true, decide_eq_true_eq] at a2
    obtain ⟨⟨a2, a3⟩, _⟩ := a2
    obtain ⟨o, d⟩ := v
    cases (show o = .o1 from a2)
    obtain ⟨r1, p, e3, n, _, rk⟩ := r
    have a3 : isLst d = true := a3
    cases d <;> simp only [isLst, Bool.false_eq_true] at a3
    obtain ⟨p', vs, e4, hp, rr⟩ := rk
    have e5 : p = p' := by rw [e3] at e4; injection e4
    subst e5
    have pD : p ≠ D := fun z => hD3 (by rw [← z]; exact n)
    have hn1 : H1 p = none := by
      cases q1 : H1 p with
      | none => rfl
      | some o => rw [s1 _ _ q1] at n; cases n
    have pq : p ∉ qs := fun z => by
      obtain ⟨us, hq⟩ := ks.there p z
      rw [n] at hq; cases hq
    have oD' : (fun a => O a ∨ a ∈ D :: (qs ++ [p])) D := .inr List.mem_cons_self
    refine ⟨qs ++ [p], by rw [e, e3, List.map_append]; rfl, ?_, fun x mx => ?_, ?_⟩
    · rw [List.nodup_append]
      refine ⟨nd, by simp, fun x hx y hy => ?_⟩
      cases List.mem_singleton.mp hy
      intro z
      subst z
      exact pq hx
    · rcases List.mem_append.mp mx with z | z
      · exact q x z
      · cases List.mem_singleton.mp z
        exact ⟨hn1, pD⟩
    · rw [List.map_append]
      refine Kids.append ?_ ?_
      · refine Kids.write oD' m (fun z => (q D z).2 rfl) (Kids.same s (Kids.wide (fun b z => ?_) ks))
        rcases z with z | z
        · exact .inl (.inl z)
        · rcases List.mem_cons.mp z with z | z
          · exact .inl (.inr (by rw [z]; exact List.mem_cons_self))
          · rcases List.mem_append.mp z with z | z
            · exact .inl (.inr (List.mem_cons_of_mem _ z))
            · cases List.mem_singleton.mp z
              exact .inr n
      · refine Kids.write oD' m (fun z => pD (List.mem_singleton.mp z).symm) ⟨_, p, [], vs, rfl, rfl, hp, Reps.mono (fun b z => ?_) _ _ rr, rfl⟩
        rcases z with z | z
        · exact .inl (.inl z)
        · rcases List.mem_cons.mp z with z | z
          · exact .inl (.inr (by rw [z]; exact ⟨hD1, hD3⟩))
          · rcases List.mem_append.mp z with z | z
            · obtain ⟨us, hq⟩ := ks.there b z
              exact .inl (.inr ⟨(q b z).1, by rw [hq]; exact fun z => by cases z⟩)
            · exact .inr (List.mem_singleton.mp z)
section
variable {X : Cx} {W : WX} {g : G} {w : Wr} {n : Nat} {C : Cal}
def lcF (g : G) (C : Cal) (elt : E) (tg : Tg) (c : Eo) (env : Env) : D → R (Option OD) := fun x => match bindT tg x env with
  | none => .no
  | some env' => (tsto g C c env').tame.bind fun k => if k = true then (ev g C elt env').tame.bind fun y => .ok (some y) else .ok none
theorem tame_ok {α β : Type} {r : R α} {f : α → R β} {b : β} (h : (r.tame.bind f) = .ok b) : ∃ a, r = .ok a ∧ f a = .ok b := by
  cases r with
  | ok a => exact ⟨a, rfl, h⟩
  | exc _ => cases h
  | no => cases h
theorem bind_ok {α β : Type} {r : R α} {f : α → R β} {b : β} (h : (r.bind f) = .ok b) : ∃ a, r = .ok a ∧ f a = .ok b := by
  cases r with
  | ok a => exact ⟨a, rfl, h⟩
  | exc _ => cases h
  | no => cases h
theorem lc_in {elt : E} {tg : Tg} {it : It} {c : Eo} {vs : List Nat} (h1 : ∀ j ∈ vs, j ∈ tgS tg) (h2 : ∀ j ∈ tgS tg, j ∈ vs) {σ : L2.St} {H : Hp} {Q : VK} (h : tE g C w W (.lc elt tg it c) σ H Q) :
    tLc (tI g C w W it) (gT w.K tg) (tC' g C w c) (tE g C w Wf elt) vs σ H Q := by
  obtain ⟨env, O, dom, en, f⟩ := h
  have f : fR w W σ O (rV w O) H ((items g C it env).bind fun xs => (mapC (lcF g C elt tg c env) xs.2).tame.bind fun l => if decide (xs.2.length ≤ szL) then .ok (listOwn l, .lst (l.map (·.2))) else .no) Q := f
  refine ⟨env, O, dom, en.l, f.bind (rel' := rIt w O) fun v p H1 s1 r1 k1 => ?_⟩
  obtain ⟨v, xs⟩ := v
  obtain ⟨J, x⟩ := p
  obtain ⟨l, el, k1⟩ := k1.tame
  split at k1
  case isFalse => exact k1.elim
  rename_i hz
  have hz : xs.length ≤ szL := of_decide_eq_true hz
  intro D hD
  have d1 := dom.same s1
  have sD : Same H1 (upd H1 D (.lst [])) := same_new hD
  have wid : ∀ a, (O a ∨ H1 a = none) → O a ∨ H1 a = none := fun a z => z
  have en1 : EnvE w H1 (fun a => O a ∨ H1 a = none) σ env (rd elt ++ rdo c) := (en.r.same s1).wide wid
  obtain ⟨L, L0, Lk, Ls⟩ := r1.2 (fun a => O a ∨ H1 a = none) (upd H1 D (.lst [])) (Rep.same sD _ _ (Rep.wide wid _ _ r1.1.1))
  have oD : (fun a => O a ∨ H1 a = none) D := .inr hD
  have sub : ∀ H a, big O H1 H a → O a ∨ H1 a = none := fun H a z => z.imp id fun z => z.1
  refine ⟨fun i m H => m = xs.length - i ∧ i ≤ xs.length ∧ L H ∧ Same H1 H ∧ ∃ acc l1 l2, H D = some (.lst acc) ∧ acc.length ≤ i ∧ l = l1 ++ l2 ∧ mapC (lcF g C elt tg c env) (xs.drop i) = .ok l2 ∧ AccR w H1 H O D l1 acc,
    ⟨_, rfl, Nat.zero_le _, L0, sD, [], [], l, upd_same, Nat.le_refl _, rfl, by rw [List.drop_zero]; exact el, AccR.nil⟩, ?_⟩
  rintro i m H2 ⟨rfl, hi, lh, sm, acc, l1, l2, hacc, hal, e12, em, ac⟩
  have domB : ∀ {H}, Same H1 H → Dom (big O H1 H) H := fun {H} sm a z => by
    rcases z with z | z
    · exact d1.same sm a z
    · exact z.2
  by_cases hlt : i < xs.length
  · refine .inr ?_
    obtain ⟨go, yl⟩ := (Ls H2 lh).1 i xs[i] (by simp [hlt])
    refine ⟨go, fun H' => (i + 1 ≤ xs.length ∧ L H' ∧ Same H1 H' ∧ ∃ acc l1 l2, H' D = some (.lst acc) ∧ acc.length ≤ i + 1 ∧ l = l1 ++ l2 ∧ mapC (lcF g C elt tg c env) (xs.drop (i + 1)) = .ok l2 ∧ AccR w H1 H' O D l1 acc), fun H' h' => ⟨xs.length - (i + 1), by omega, rfl, h'⟩, fun x' H3 y => ?_⟩
    obtain ⟨s3, r3⟩ := yl x' H3 y
    rw [List.drop_eq_getElem_cons hlt] at em
    have em : ((lcF g C elt tg c env xs[i]).bind fun o => (mapC (lcF g C elt tg c env) (xs.drop (i + 1))).bind fun ys => .ok (consO o ys)) = .ok l2 := em
    obtain ⟨o, eo, em⟩ := bind_ok em
    obtain ⟨ys, ey, em⟩ := bind_ok em
    have em : consO o ys = l2 := R.ok.inj em
    unfold lcF at eo
    split at eo
    · cases eo
    rename_i env' eb
    obtain ⟨k, ek, eo⟩ := tame_ok eo
    have hlen : env.length = (wipe σ vs).length := by rw [wipe_length]; exact en.1.1
    have sm3 := sm.trans s3
    obtain ⟨σ', gq, pu⟩ := put_tg (σ := wipe σ vs) hlen eb (Rep.mono (sub H3) _ _ r3)
    refine gq _ ?_
    have dom3 := domB sm3
    have en3 : EnvE w H3 (big O H1 H3) σ' env' (rd elt ++ rdo c) := (((en.r.same s1).wide (sub H3)).same sm3).put h1 pu
    refine ⟨wipe_put h2 pu, ⟨env', _, dom3, en3.r, ?_⟩⟩
    rw [ek]
    intro b H4 s4 eb'
    have eb' : b = k := eb'
    subst eb'
    have hD4 : H4 D = some (.lst acc) := s4 _ _ (s3 _ _ hacc)
    have L4 := Lk _ _ lh (Ext.of (s3.trans s4))
    have sm4 := sm.trans (s3.trans s4)
    cases b with
    | false =>
      simp only [Bool.false_eq_true, if_false] at eo ⊢
      have eo : o = none := (R.ok.inj eo).symm
      subst eo
      have em : ys = l2 := em
      subst em
      exact ⟨hlt, L4, sm4, acc, l1, _, hD4, by omega, e12, ey, ac.same (s3.trans s4)⟩
    | true =>
      simp only [if_true] at eo ⊢
      obtain ⟨yv, eyv, eo⟩ := tame_ok eo
      have eo : o = some yv := (R.ok.inj eo).symm
      subst eo
      have em : yv :: ys = l2 := em
      subst em
      have sub4 : ∀ a, big O H1 H4 a → big O H1 H3 a ∨ H3 a = none := fun a z => by
        rcases z with z | z
        · exact .inl (.inl z)
        · cases q : H3 a with
          | none => exact .inr rfl
          | some o => exact .inl (.inr ⟨z.1, by rw [q]; exact fun z => by cases z⟩)
      refine ⟨env', _, domB sm4, (en3.l.wide sub4).same s4, ?_⟩
      rw [eyv]
      intro y' H5 s5 r5
      have hD5 : H5 D = some (.lst acc) := s5 _ _ hD4
      refine ⟨acc, hD5, ?_, hlt, ?_, ?_, acc ++ [y'], l1 ++ [yv], ys, upd_same, ?_, by rw [e12, List.append_assoc]; rfl, ey, ?_⟩
      · have : acc.length < xs.length := by omega
        rw [← szL_eq]; omega
      · exact Lk _ _ L4 ((Ext.of s5).trans (Ext.write oD (by rw [hD5]; trivial)))
      · intro b o q
        have : b ≠ D := fun z => by rw [z, hD] at q; cases q
        rw [upd_ne this]
        exact s5 _ _ (sm4 _ _ q)
      · rw [List.length_append, List.length_singleton]; omega
      · exact (ac.same (s3.trans s4)).push hD hD5 s5 (fun b o q => sm4 b o q) (by rw [hD4]; exact fun z => by cases z) r5 _
  · have e : i = xs.length := by omega
    subst e
    refine .inl ⟨(Ls H2 lh).2, ?_⟩
    rw [List.drop_length] at em
    have em : l2 = [] := (R.ok.inj em).symm
    subst em
    rw [List.append_nil] at e12
    subst e12
    have nO : ¬ O D := fun z => d1 D z hD
    refine k1 _ _ (s1.trans sm) ⟨⟨D, acc, rfl, hacc, nO, Reps.mono (fun a z => .inl z) _ _ ac.1⟩, ?_⟩
    show Frs w H H2 O (listOwn l, _) (.ref D)
    unfold listOwn
    split
    · rename_i hq
      rw [Bool.and_eq_true] at hq
      obtain ⟨qs, e, nd, q, ks⟩ := ac.2 hq.2
      exact ⟨D, qs, _, rfl, rfl, s1.free hD, by rw [hacc, e], List.nodup_cons.mpr ⟨fun z => (q D z).2 rfl, nd⟩, fun q' z => s1.free (q q' z).1, ks⟩
    · exact ⟨D, rfl, s1.free hD, rfl, D, acc, rfl, hacc, ac.1⟩
end
end S2

set_option maxHeartbeats 4000000
/-! S2l: isinstance, methods, comprehensions as expressions. -/
namespace S2
open PySem PySem.Spec PyProof.Rows L2

def btNm : Bt → String
  | .int => "int" | .str => "str" | .bool => "bool" | .tuple => "tuple" | .list => "list"
theorem boot_bt (b : Bt) : bootBuiltins (Str.ofString (btNm b)) = some (.type (btNm b)) := by cases b <;> rfl
theorem bt_ne (b : Bt) : Str.ofString (btNm b) ≠ "__name__" ∧ (Str.ofString (btNm b) == ("__debug__" : Str)) = false := by cases b <;> exact ⟨by decide, by decide⟩
section
variable {X : Cx} {W : WX} {g : G} {w : Wr} {n : Nat} {C : Cal} {a e : Expr} {ia : E} {es : List Expr} {is : Es} {pos p p2 : Pos}
theorem isi_ok {K : PySem.W.Frag} {H : Hp} {O : Addr → Prop} {b : Bt} {d : D} {x : V} {k : Bool} (hw : w.K = K) (r : Rep w H O d x) (h : isiD b d = .ok k) : ∃ t, TyX K H x t ∧ PySem.W.kitOne K t (.type (btNm b)) = some k := by
  have q : ∀ {T : String} {c : Bool}, kitB T (btNm b) = some c → isiD b d = .ok c → PySem.W.kitOne K (.type T) (.type (btNm b)) = some k := fun h1 h2 => by
    rw [h] at h2
    cases h2
    exact kit_ty h1
  cases d with
  | non => cases (show x = .non from r); exact ⟨_, .base .non, by cases b <;> exact q (by first | rfl | decide +kernel) rfl⟩
  | bl v => cases (show x = .bl v from r); exact ⟨_, .base (.bl v), by cases b <;> exact q (by first | rfl | decide +kernel) rfl⟩
  | int v => cases (show x = .int v from r); exact ⟨_, .base (.int v), by cases b <;> exact q (by first | rfl | decide +kernel) rfl⟩
  | str v => cases (show x = .str v from r); exact ⟨_, .base (.str v), by cases b <;> exact q (by first | rfl | decide +kernel) rfl⟩
  | scr l =>
    obtain ⟨a, rfl, hp⟩ := r
    rcases hp with ⟨o, hp⟩ | ⟨o, its, n, hp, hc, _⟩
    · exact ⟨_, .base (.frz hp), by cases b <;> exact q (by first | rfl | decide +kernel) rfl⟩
    · exact ⟨_, .kList (hw ▸ hp) hc, by cases b <;> exact q (by first | rfl | decide +kernel) rfl⟩
  | tup l =>
    obtain ⟨a, vs, rfl, hp, _⟩ := r
    rcases hp with (hp | ⟨o, hp⟩) | ⟨o, its, n, hp, hc, _⟩
    · exact ⟨_, .base (.tup hp), by cases b <;> exact q (by first | rfl | decide +kernel) rfl⟩
    · exact ⟨_, .fTuple hp, by cases b <;> exact q (by first | rfl | decide +kernel) rfl⟩
    · exact ⟨_, .kTuple (hw ▸ hp) hc, by cases b <;> exact q (by first | rfl | decide +kernel) rfl⟩
  | lst l =>
    obtain ⟨a, vs, rfl, hp, _⟩ := r
    exact ⟨_, .base (.lst hp), by cases b <;> exact q (by first | rfl | decide +kernel) rfl⟩
  | dct _ _ => cases b <;> cases h
  | ob _ _ _ => cases b <;> cases h
theorem sE_isi (fx : Fx X.K X.mg g w) (b : Bt) (hg : Gl X "isinstance") (hr : g.fr "isinstance" = true) (hg2 : Gl X (Str.ofString (btNm b))) (hr2 : g.fr (Str.ofString (btNm b)) = true) (ha : PE X a (tE g C w W ia)) (hs : starEach [a, .Name (Str.ofString (btNm b)) p2] X.env = (false, eval a X.env) :: starEach [.Name (Str.ofString (btNm b)) p2] X.env) :
    PE X (.Call (.Name "isinstance" p) [a, .Name (Str.ofString (btNm b)) p2] [] pos) (tE g C w W (.isi ia b)) :=
  PE.imp (pe_callB call_isi hg (fx.free _ hr) boot_isinstance (pa_cons ha (pa_cons (pe_bltn (v := .ty (btNm b)) hg2 (fx.free _ hr2) (boot_bt b) rfl (bt_ne b).1 (bt_ne b).2) pa_nil (by rfl)) hs) (by decide) (by decide) hs (by rfl)) fun σ H Q ⟨env, O, dom, en, h⟩ => by
    refine one_in (is := []) rV_ok dom (by rw [List.append_nil]; exact en) h fun v x H1 d1 e1 r1 s1 h1 => ?_
    obtain ⟨k, e, q⟩ := asB_fin h1
    obtain ⟨t, h2, h3⟩ := isi_ok fx.hK r1.1 e
    exact ⟨x, .ty (btNm b), t, .type (btNm b), k, rfl, .ty _, h2, h3, q⟩
theorem isi_tst {b : Bt} (env : Env) : tst g C (.isi ia b) env = (ev g C (.isi ia b) env).bind fun x => (truthD x.2).tame := by
  show ((ev g C ia env).bind fun x => (isiD b x.2).tame) = ((ev g C ia env).bind fun x => asB (isiD b x.2)).bind fun x => (truthD x.2).tame
  cases ev g C ia env with
  | ok v =>
    show (isiD b v.2).tame = (asB (isiD b v.2)).bind fun x => (truthD x.2).tame
    cases isiD b v.2 <;> rfl
  | exc _ => rfl
  | no => rfl

/-! ### methods -/
def tMethS (K : Addr) (m : Str) (sp : Sp) (E : L2.St → XK) (ta : TE) (t : TA) : TE := fun σ H Q => ta σ H fun x H1 => ∃ a dx fs, x = .ref a ∧ H1 a = some (.ins K dx fs) ∧ fs.lookup m = none ∧ t σ H1 fun vs H2 => sp (x :: vs) H2 Q (E σ)
theorem pe_methS {pl : Sem Bool} {K f : Addr} {k : Nat} {fd : FuncData} {ps : List Str} {sp : Sp} {CX : CXT} {E : L2.St → XK} {m : Str} {apos : Pos} {ta : TE} {t : TA} {o : Expr} (he : PE X o ta) (c : Cls X.K K) (hm : Meth X.K K m f) (F : FnG X.prog X.w X.K X.mg X.base CX k f fd ps sp) (hr : Room k X.A) (ng : NoG X.A) (hb : Binds X.K fd ps []) (hx : ∀ σ, PassesAt CX X σ (E σ)) (ha : PA X (e :: es) t) (hp : Plain X (e :: es))
    (ht : eval (.Call (.Attribute o m apos) (e :: es) [] pos) X.env = (do
      let ov ← eval o X.env
      standAt apos.atName
      let (f, first) ← holding [ov] (getMethod ov m pl)
      callWith pos f first (backTo pos (starEach (e :: es) X.env)) (backToKw pos (keywordEach [] X.env)))) :
    PE X (.Call (.Attribute o m apos) (e :: es) [] pos) (tMethS K m sp E ta t) := by
  refine ⟨fun pins s σ H Q I h => ?_⟩
  refine PySem.W.methodCall_KW (pl := pl) (thn (he.run pins s σ H _ I h) fun u s1 ⟨x, H1, I1, rx, a, dx, fs, ex, ea, l, q⟩ => ?_) ht
  subst ex
  obtain rfl : u = Value.ref a := rx
  refine getmeth_ok I1 ea c hm l ?_
  refine PySem.W.callWith_K (first := [.ref a]) (h₀ := X.base) I.ok.mod.kin hm.kp (thn (ha.run pos pins s1 σ H1 _ I1 q) fun us s2 ⟨vs, H2, I2, r, q2⟩ => ⟨I2.kIn, ?_⟩) hp.1 (hp.2.any pos)
  refine run_fnG (us := .ref a :: us) (xs := .ref a :: vs) F hr ng hb (hx σ) I2 (.cons rfl r) q2
theorem pe_methS0 {pl : Sem Bool} {K f : Addr} {k : Nat} {fd : FuncData} {ps : List Str} {sp : Sp} {CX : CXT} {E : L2.St → XK} {m : Str} {apos : Pos} {ta : TE} {o : Expr} (he : PE X o ta) (c : Cls X.K K) (hm : Meth X.K K m f) (F : FnG X.prog X.w X.K X.mg X.base CX k f fd ps sp) (hr : Room k X.A) (ng : NoG X.A) (hb : Binds X.K fd ps []) (hx : ∀ σ, PassesAt CX X σ (E σ))
    (ht : eval (.Call (.Attribute o m apos) [] [] pos) X.env = (do
      let ov ← eval o X.env
      standAt apos.atName
      let (f, first) ← holding [ov] (getMethod ov m pl)
      callWith pos f first (backTo pos (starEach [] X.env)) (backToKw pos (keywordEach [] X.env)))) :
    PE X (.Call (.Attribute o m apos) [] [] pos) (tMethS K m sp E ta tNil) := by
  refine ⟨fun pins s σ H Q I h => ?_⟩
  refine PySem.W.methodCall_KW (pl := pl) (thn (he.run pins s σ H _ I h) fun u s1 ⟨x, H1, I1, rx, a, dx, fs, ex, ea, l, q⟩ => ?_) ht
  subst ex
  obtain rfl : u = Value.ref a := rx
  refine getmeth_ok I1 ea c hm l ?_
  refine PySem.W.callWith_K0 (first := [.ref a]) I1.kIn hm.kp (run_fnG (us := [.ref a]) (xs := [.ref a]) F hr ng hb (hx σ) I1 (.cons rfl .nil) q)
theorem whoM_ok {m f : Str} {d : D} (h : whoM g m d = some f) : ∃ c ns vs, d = .ob c ns vs ∧ ns.contains m = false ∧ g.mth c m = some f := by
  cases d <;> simp only [whoM, reduceCtorEq] at h
  rename_i c ns vs
  split at h
  · cases h
  · rename_i z
    exact ⟨c, ns, vs, rfl, by simpa using z, h⟩
theorem me_shape {o : Expr} {env : PySem.Env} {m : Str} {apos : Pos} {args : List Expr} (hb : attributeBase o m env (eval o env) = eval o env) (hf : methodCallForm args.length (backTo pos (starEach args env)) [] = true) (hl : (apos.endLine == pos.line) = true) :
    eval (.Call (.Attribute o m apos) args [] pos) env = (do
      let ov ← eval o env
      standAt apos.atName
      let (f, first) ← holding [ov] (getMethod ov m (do return (← importBound o env).getD true))
      callWith pos f first (backTo pos (starEach args env)) (backToKw pos (keywordEach [] env))) := by
  show (attributeBase o m env (eval o env) >>= fun ov => standAt apos.atName >>= fun _ => methodCall o m apos pos env ov (args.length + 0) (backTo pos (starEach args env)) (backToKw pos (keywordEach [] env))) = _
  rw [hb]
  have hk : backToKw pos (keywordEach [] env) = [] := by rfl
  rw [hk]
  unfold methodCall calleeOf methodCallPos
  rw [Nat.add_zero, hf, hl]
  rfl
theorem Plain.form : ∀ {es : List Expr}, Plain X es → es.length < 30 → methodCallForm es.length (backTo pos (starEach es X.env)) [] = true := by
  intro es h hn
  have q : ∀ {es : List Expr}, Plain X es → (backTo pos (starEach es X.env)).all (!·.1) = true := fun {es} h => by
    induction es with
    | nil => rw [starEach_nil]; rfl
    | cons e es ih =>
      have i2 := ih h.2
      rw [h.1]
      cases hs : starEach es X.env with
      | nil => rfl
      | cons q r =>
        rw [hs] at i2
        show (true && (backTo pos (q :: r)).all (!·.1)) = true
        rw [i2]; rfl
  unfold methodCallForm
  rw [q h]
  simpa using hn
theorem sE_meX {o : Expr} {io : E} {m : Str} {apos : Pos} {args : List Expr} {f : OD → R OD} (gd : Gd X W g w n) {env : Env} {d : D} {pl : Sem Bool} (he : PE X o (tE g (cal g n) w W io)) (hv : ev g (cal g n) io env = .exc d) {σ : L2.St} {H : Hp} {O : Addr → Prop} {Q : VK}
    (ht : eval (.Call (.Attribute o m apos) args [] pos) X.env = (do
      let ov ← eval o X.env
      standAt apos.atName
      let (f, first) ← holding [ov] (getMethod ov m pl)
      callWith pos f first (backTo pos (starEach args X.env)) (backToKw pos (keywordEach [] X.env)))) {pins : List (Addr × Obj)} {s : Shared} (I : Inv X pins σ H s) (dom : Dom O H) (en : EnvE w H O σ env (rd io)) (h : fR w W σ O (rV w O) H ((ev g (cal g n) io env).bind f) Q) :
    wpAny (model X.prog X.w) X.A (eval (.Call (.Attribute o m apos) args [] pos) X.env) (EP X pins σ Q) X.xe s := by
  rw [hv] at h
  have hE : tE g (cal g n) w W io σ H fun _ _ => False := ⟨env, O, dom, en, by rw [hv]; exact h⟩
  exact PySem.W.methodCall_KW (pl := pl) (thn (he.run pins s σ H _ I hE) fun u s1 ⟨x, H1, I1, rx, z⟩ => z.elim) ht
theorem sE_me {o : Expr} {io : E} {m : Str} {apos : Pos} (gd : Gd X W g w n) (ho : PE X o (tE g (cal g n) w W io)) (hb0 : attributeBase o m X.env (eval o X.env) = eval o X.env) (hs : PA X (e :: es) (tEs g (cal g n) w W is)) (hp : Plain X (e :: es)) (hn : (e :: es).length < 30) (hl : (apos.endLine == pos.line) = true) :
    PE X (.Call (.Attribute o m apos) (e :: es) [] pos) (tE g (cal g n) w W (.me m io is)) := by
  refine ⟨fun pins s σ H Q I ⟨env, O, dom, en, h⟩ => ?_⟩
  have en2 : EnvE w H O σ env (rd io ++ rds is) := en.sub fun i mi => by
    show i ∈ rd (.me m io is)
    rw [rd]
    exact mi
  have h : fR w W σ O (rV w O) H ((ev g (cal g n) io env).bind fun x => match whoM g m x.2 with
    | some f => (evs g (cal g n) is env).bind fun l => callD g n f (x.2 :: l.map (·.2))
    | none => .no) Q := h
  cases hv : ev g (cal g n) io env with
  | no => rw [hv] at h; exact h.elim
  | exc d => exact sE_meX gd ho hv (me_shape hb0 (hp.form hn) hl) I dom en2.l h
  | ok v =>
    rw [hv] at h
    have h : fR w W σ O (rV w O) H (match whoM g m v.2 with
      | some f => (evs g (cal g n) is env).bind fun l => callD g n f (v.2 :: l.map (·.2))
      | none => .no) Q := h
    cases ew : whoM g m v.2 with
    | none => rw [ew] at h; exact h.elim
    | some f =>
      rw [ew] at h
      obtain ⟨c, ns, vs, ed, hm, hf⟩ := whoM_ok ew
      obtain ⟨fa, fd, ps, cl, me, hb, F⟩ := (gd.lv rfl).mt c m f hf
      refine (pe_methS ho cl me F (gd.room rfl) gd.ng hb (fun σ => L2N.passAt gd.takes σ) hs hp (me_shape hb0 (hp.form hn) hl)).run pins s σ H Q I ⟨env, O, dom, en2.l, ?_⟩
      rw [hv]
      intro x H1 s1 r1
      have r := r1.1
      rw [ed] at r
      have r' := r
      obtain ⟨a, dx, fs, rfl, ha, _, ⟨_, hk⟩, _⟩ := r'
      refine ⟨a, dx, fs, rfl, ha, fld_none hk hm, ?_⟩
      refine es_in (js := []) rV_ok (dom.same s1) (by rw [List.append_nil]; exact en2.r.same s1) (h.later rV_ok s1) fun l y H2 d2 e3 r2 s2 h2 => ?_
      refine ⟨v.2 :: l.map (·.2), O, d2, ⟨.ref a, y, rfl, by rw [ed]; exact Rep.same s2 _ _ r, r2.reps⟩, ?_⟩
      have h2 := h2.later rV_ok s2
      cases q : callD g n f (v.2 :: l.map (·.2)) with
      | ok v => rw [q] at h2; exact h2
      | exc d => rw [q] at h2; exact h2
      | no => rw [q] at h2; exact h2
theorem sE_me0 {o : Expr} {io : E} {m : Str} {apos : Pos} (gd : Gd X W g w n) (ho : PE X o (tE g (cal g n) w W io)) (hb0 : attributeBase o m X.env (eval o X.env) = eval o X.env) (hl : (apos.endLine == pos.line) = true) :
    PE X (.Call (.Attribute o m apos) [] [] pos) (tE g (cal g n) w W (.me m io .nil)) := by
  refine ⟨fun pins s σ H Q I ⟨env, O, dom, en, h⟩ => ?_⟩
  have en2 : EnvE w H O σ env (rd io ++ []) := en.sub fun i mi => by
    show i ∈ rd (.me m io .nil)
    rw [rd, rds]
    exact mi
  have h : fR w W σ O (rV w O) H ((ev g (cal g n) io env).bind fun x => match whoM g m x.2 with
    | some f => callD g n f [x.2]
    | none => .no) Q := h
  cases hv : ev g (cal g n) io env with
  | no => rw [hv] at h; exact h.elim
  | exc d => exact sE_meX gd ho hv (me_shape hb0 (Plain.form (es := []) trivial (by decide)) hl) I dom en2.l h
  | ok v =>
    rw [hv] at h
    have h : fR w W σ O (rV w O) H (match whoM g m v.2 with
      | some f => callD g n f [v.2]
      | none => .no) Q := h
    cases ew : whoM g m v.2 with
    | none => rw [ew] at h; exact h.elim
    | some f =>
      rw [ew] at h
      obtain ⟨c, ns, vs, ed, hm, hf⟩ := whoM_ok ew
      obtain ⟨fa, fd, ps, cl, me, hb, F⟩ := (gd.lv rfl).mt c m f hf
      refine (pe_methS0 ho cl me F (gd.room rfl) gd.ng hb (fun σ => L2N.passAt gd.takes σ) (me_shape hb0 (Plain.form (es := []) trivial (by decide)) hl)).run pins s σ H Q I ⟨env, O, dom, en2.l, ?_⟩
      rw [hv]
      intro x H1 s1 r1
      have r := r1.1
      rw [ed] at r
      have r' := r
      obtain ⟨a, dx, fs, rfl, ha, _, ⟨_, hk⟩, _⟩ := r'
      refine ⟨a, dx, fs, rfl, ha, fld_none hk hm, ?_⟩
      refine ⟨[v.2], O, dom.same s1, ⟨.ref a, [], rfl, by rw [ed]; exact r, rfl⟩, ?_⟩
      have h : fR w W σ O (rV w O) H1 (callD g n f [v.2]) Q := h.later rV_ok s1
      cases q : callD g n f [v.2] with
      | ok v => rw [q] at h; exact h
      | exc d => rw [q] at h; exact h
      | no => rw [q] at h; exact h

/-! ### methods of built-in types -/
/-- with arguments -/
theorem sE_bm1 {o : Expr} {io : E} {T : String} {m : Bm} {nm : Str} {id : String} {apos : Pos} (pa : PlainAttrs T) (sl : PySem.Slot T nm id) (ty : typeOf (.builtin id) = pure (.type "method_descriptor")) (rule : MtR X id (RM w (bmD m)))
    (hty : ∀ (v : OD) (x : V) (H1 H2 : Hp) (O : Addr → Prop), bmTy m v.2 = true → VR w H1 H2 O v x → tyV X.K T x H2)
    (ho : PE X o (tE g C w W io)) (hs : PA X (e :: es) (tEs g C w W is)) (hp : Plain X (e :: es)) (hn : (e :: es).length < 30) (hbase : attributeBase o nm X.env (eval o X.env) = eval o X.env) (hl : (apos.endLine == pos.line) = true) :
    PE X (.Call (.Attribute o nm apos) (e :: es) [] pos) (tE g C w W (.bm m io is)) := by
  refine PE.imp (pe_bm pa sl ty rule ho hs hbase ?_ hl hp.1 (hp.2.any pos)) fun σ H Q ⟨env, O, dom, en, h⟩ => ?_
  · have := hp.form (pos := pos) hn
    have hk : backToKw pos (keywordEach [] X.env) = [] := by rfl
    rw [hk]
    unfold methodCallForm at this
    simpa using this
  · have h : fR w W σ O (rV w O) H ((ev g C io env).bind fun x => if bmTy m x.2 = true then (evs g C is env).bind fun l => ownL (bmD m x.2 (l.map (·.2))) else .no) Q := h
    refine one_in rV_ok dom (is := rds is) (en.sub fun i mi => ?_) h fun v x H1 d1 e1 r1 s1 h1 => ?_
    · show i ∈ rd (.bm m io is)
      rw [rd]
      exact mi
    · split at h1
      case isFalse => exact h1.elim
      rename_i hm
      refine ⟨hty v x H H1 O hm r1, ?_⟩
      refine es_in (js := []) rV_ok d1 (by rw [List.append_nil]; exact e1) h1 fun l y H2 d2 e3 r2 s2 h2 => ?_
      obtain ⟨d, q, k⟩ := ownL_fin (h2.later rV_ok s2)
      exact ⟨v.2, _, O, d2, Rep.same s2 _ _ r1.1, r2.reps, d, q, k⟩
/-- none -/
theorem sE_bm0 {o : Expr} {io : E} {T : String} {m : Bm} {nm : Str} {id : String} {apos : Pos} (pa : PlainAttrs T) (sl : PySem.Slot T nm id) (ty : typeOf (.builtin id) = pure (.type "method_descriptor")) (rule : MtR X id (RM w (bmD m)))
    (hty : ∀ (v : OD) (x : V) (H1 H2 : Hp) (O : Addr → Prop), bmTy m v.2 = true → VR w H1 H2 O v x → tyV X.K T x H2)
    (ho : PE X o (tE g C w W io)) (hbase : attributeBase o nm X.env (eval o X.env) = eval o X.env) (hl : (apos.endLine == pos.line) = true) :
    PE X (.Call (.Attribute o nm apos) [] [] pos) (tE g C w W (.bm m io .nil)) := by
  refine PE.imp (pe_bm0 pa sl ty rule ho hbase hl) fun σ H Q ⟨env, O, dom, en, h⟩ => ?_
  have h : fR w W σ O (rV w O) H ((ev g C io env).bind fun x => if bmTy m x.2 = true then (evs g C .nil env).bind fun l => ownL (bmD m x.2 (l.map (·.2))) else .no) Q := h
  refine one_in rV_ok dom (is := []) (en.sub fun i mi => ?_) h fun v x H1 d1 e1 r1 s1 h1 => ?_
  · show i ∈ rd (.bm m io .nil)
    rw [rd, rds]
    exact mi
  · split at h1
    case isFalse => exact h1.elim
    rename_i hm
    have h1 : fR w W σ O (rV w O) H1 (ownL (bmD m v.2 [])) Q := by
      have e2 : ∀ y, evs g C .nil y = .ok [] := fun y => by rw [evs] <;> rfl
      rw [e2] at h1
      exact h1
    refine ⟨hty v x H H1 O hm r1, ?_⟩
    obtain ⟨d, q, k⟩ := ownL_fin h1
    exact ⟨v.2, [], O, d1, r1.1, rfl, d, q, k⟩
theorem ty_str {v : OD} {x : V} {H1 H2 : Hp} {O : Addr → Prop} {K : PySem.W.Frag} {m : Bm} (hm : m = .upper ∨ m = .split ∨ m = .six) (h : bmTy m v.2 = true) (r : VR w H1 H2 O v x) : tyV K "str" x H2 := by
  obtain ⟨o, d⟩ := v
  rcases hm with rfl | rfl | rfl <;> (cases d <;> first | (exact absurd h Bool.false_ne_true) | (rw [show x = _ from r.1]; rfl))
theorem ty_lst {v : OD} {x : V} {H1 H2 : Hp} {O : Addr → Prop} {K : PySem.W.Frag} (h : bmTy .index v.2 = true) (r : VR w H1 H2 O v x) : tyV K "list" x H2 := by
  obtain ⟨o, d⟩ := v
  cases d <;> first | (exact absurd h Bool.false_ne_true) | skip
  obtain ⟨p, vs, rfl, hp, _⟩ := r.1
  exact .inl ⟨rfl, vs, SqL.of hp⟩
/-! ### comprehensions -/
def locB (sc : Scope) (x : Str) : Bool := match sc.names.lookup x with
  | some .local => true
  | some .cell => true
  | _ => false
def visB (sc : Scope) (x : Str) : Bool := match sc.names.lookup x with
  | some .local => true
  | some .cell => true
  | some .free => true
  | _ => false
def glB (sc : Scope) (x : Str) : Bool := match sc.names.lookup x with
  | some .globalImplicit => true
  | _ => false
theorem locB_ok {sc : Scope} {x : Str} (h : locB sc x = true) : Loc sc x := by
  unfold locB at h
  split at h <;> first | exact .inl (by assumption) | exact .inr (by assumption) | cases h
theorem visB_ok {sc : Scope} {x : Str} (h : visB sc x = true) : Vis sc x := by
  unfold visB at h
  split at h <;> first | exact .inl (by assumption) | exact .inr (.inl (by assumption)) | exact .inr (.inr (by assumption)) | cases h
theorem glB_ok {env : PySem.Env} {x : Str} (h : glB env.scope x = true) : env.kindOf x = some .globalImplicit := by
  unfold glB at h
  split at h <;> first | assumption | cases h
def tgNames (N : List Str) (sc : Scope) : List Nat → List Expr → Bool
  | [], [] => true
  | i :: is, .Name x _ :: es => decide (N[i]? = some x) && locB sc x && tgNames N sc is es
  | _, _ => false
/-- the target, by its slots -/
def okTg (N : List Str) (sc : Scope) : Tg → Expr → Bool
  | .nm i, .Name x _ => decide (N[i]? = some x) && locB sc x
  | .tp is, .Tuple es _ _ => tgNames N sc is es
  | _, _ => false
theorem fn_blk {scope : Scope} {x : Str} (h : locB scope x = true) : (scope.names.lookup x == some .cell) = true ∨ scope.names.lookup x = some .local := by
  unfold locB at h
  split at h
  · exact .inr (by assumption)
  · rename_i e; exact .inl (by rw [e]; rfl)
  · cases h
/-- the context's names may be written -/
def Wrs (X : Cx) : Prop := ∀ x, locB X.env.scope x = true → X.fn x = true ∨ X.env.scope.names.lookup x = some .local
theorem pgs_names {sc2 : Scope} (hN : X.N.Nodup) (hw : ∀ x, locB sc2 x = true → X.fn x = true ∨ X.env.scope.names.lookup x = some .local) : ∀ {is : List Nat} {es : List Expr}, tgNames X.N X.env.scope is es = true → tgNames X.N sc2 is es = true → PGs X es (gSl is) ∧ (assignEach es X.env).length = is.length ∧ (assignEach es X.env).findIdx? (·.1) = none
  | [], [], _, _ => ⟨pgs_nil, rfl, rfl⟩
  | [], _ :: _, h, _ => by cases h
  | i :: is, [], h, _ => by cases h
  | i :: is, e :: es, h, h' => by
    cases e with
    | Name x p =>
      have h : (decide (X.N[i]? = some x) && locB X.env.scope x && tgNames X.N X.env.scope is es) = true := h
      have h' : (decide (X.N[i]? = some x) && locB sc2 x && tgNames X.N sc2 is es) = true := h'
      simp only [Bool.and_eq_true, decide_eq_true_eq] at h h'
      obtain ⟨⟨h1, h2⟩, h3⟩ := h
      obtain ⟨q1, q2, q3⟩ := pgs_names hN hw h3 h'.2
      have e1 : assignEach (.Name x p :: es) X.env = (false, assign (.Name x p) X.env) :: assignEach es X.env := by rfl
      refine ⟨pgs_cons (pg_name hN h1 (locB_ok h2) (hw x h'.1.2)) q1 (by rw [e1]; rfl), by rw [e1, List.length_cons, q2]; rfl, ?_⟩
      rw [e1, List.findIdx?_cons]
      simp [q3]
    | _ => cases h
theorem sG {sc2 : Scope} {tg : Tg} {t : Expr} (hN : X.N.Nodup) (hc : X.calm = true) (hw : ∀ x, locB sc2 x = true → X.fn x = true ∨ X.env.scope.names.lookup x = some .local) (h : okTg X.N X.env.scope tg t = true) (h' : okTg X.N sc2 tg t = true) : PG X t (gT X.K tg) := by
  cases tg with
  | nm i =>
    cases t with
    | Name x p =>
      have h : (decide (X.N[i]? = some x) && locB X.env.scope x) = true := h
      have h' : (decide (X.N[i]? = some x) && locB sc2 x) = true := h'
      simp only [Bool.and_eq_true, decide_eq_true_eq] at h h'
      exact pg_name hN h.1 (locB_ok h.2) (hw x h'.2)
    | _ => cases h
  | tp is =>
    cases t with
    | Tuple es k p =>
      obtain ⟨q1, q2, q3⟩ := pgs_names hN hw (show tgNames X.N X.env.scope is es = true from h) h'
      exact pg_tup hc q1 q2 q3
    | _ => cases h
theorem fn_blk' {s : Shared} {H : Hp} {scope : Scope} {K : Addr} {cl : List (Str × Addr)} {fp : List Addr} (x : Str) (h : locB scope x = true) : (X.blk s H scope (compEnvC scope cl K X.env) fp).fn x = true ∨ (X.blk s H scope (compEnvC scope cl K X.env) fp).env.scope.names.lookup x = some .local :=
  (fn_blk h).imp id fun h => lookup_relS_keep (sc := X.env.scope) (by decide) h
theorem PTs.imp {es : List Expr} {t t' : TT} (h : PTs X es t) (k : ∀ σ H Q, t' σ H Q → t σ H Q) : PTs X es t' := ⟨fun pins s σ H Q I q => h.run pins s σ H Q I (k σ H Q q)⟩
theorem sC_none : PTs X [] (tC' g C w .none) := PTs.imp pts_nil fun σ H Q ⟨env, O, dom, en, f⟩ => fR.ok (rel := rI Bool O) (a := true) (b := true) f rfl
theorem sC_some {c : Expr} {ic : E} (h : PT X c (tT g C w Wf ic)) : PTs X [c] (tC' g C w (.some ic)) := PTs.imp (pts_one h) fun σ H Q h => h
end
end S2

set_option maxHeartbeats 4000000
/-! S2lh: sum([int(m) for m in marks]) in an except suite. -/
namespace S2
open PySem PySem.Spec PyProof.Rows L2

section
variable {prog : Program} {w : World} {A : Around} {E : Value → Shared → Prop} {s : Shared}
/-- a list's iterator at its end, an exception being handled -/
theorem nl_end {it l x1 : Addr} {i : Nat} {items : Array Value} {Q : Option Value → Shared → Prop} (hot : HotX.HotAt A x1 s.heap) (hit : s.heap.IsListIter it l i) (hl : s.heap.IsList l items) (hx : items[i]? = none)
    (done : ∀ h', Heap.ExtBut it s.heap h' → Q none { s with heap := h' }) : wpAny (model prog w) A (pyNext (.ref it)) Q E s := by
  obtain ⟨oi, hoi, hci, hdi⟩ := id hit
  obtain ⟨ol, hol, _, nl, hdl⟩ := hl
  obtain ⟨hh, o1, vs1, h1, d1, c1⟩ := hot
  have ne : x1 ≠ it := fun z => by
    subst z
    rw [h1] at hoi
    cases hoi
    rw [hdi] at d1
    cases d1
    simp at c1
  unfold pyNext
  refine wpAny_bind (wpAny_attempt (wpAny_callSpecial?_slot (name := Str.ofString "__next__") hit.typeIs slot_listiter_next (wpAny_call_entry slot_listiter_next hit.typeIs entry_listiter_next ?_ (args_listiter_next _))))
  show wpAny _ _ (field (.ref it) 0 >>= _) _ _ _
  refine wpAny_bind (wpAny_field hoi hdi (x := .ref l) rfl ?_)
  show wpAny _ _ (if (Value.ref l == Value.none) = true then _ else _) _ _ _
  refine PySem.W.KFB.if_not rfl ?_
  show wpAny _ _ (field (.ref it) 1 >>= _) _ _ _
  refine wpAny_bind (wpAny_field hoi hdi (x := .int i 0) rfl ?_)
  show wpAny _ _ (seqItems? (.ref l) >>= _) _ _ _
  refine wpAny_bind (wpAny_seqItems hol hdl ?_)
  simp only [hx, Int.toNat_natCast]
  refine wpAny_bind (wpAny_rule (wpAny_bind (wpAny_setField hoi hdi (by simp) ?_)))
  generalize hu : s.heap.update it _ = hp
  have k1 : hp.get? x1 = some o1 := by rw [← hu, Heap.get?_update_other _ _ (Ne.symm ne)]; exact h1
  show wpAny _ _ (newExc (.type "StopIteration") [] >>= _) _ _ _
  refine wpAny_bind ?_
  simp only [newExc, newTuple]
  refine wpAny_bind (wpAny_newObj_type (wpAny_bind (m := firstArgMember _ _) (wpAny_of_eq (a := Value.none) (by first | rfl | (simp only [firstArgMember]; rfl)) (wpAny_newObj_type ?_ (by size_fits)))) (by size_fits))
  have k2 := Heap.get?_push_of_some { cls := .type "tuple", data := .seq #[] } k1
  refine HotX.raiseNew_hot (x1 := x1) ⟨hh, o1, vs1, Heap.get?_push_of_some _ (Heap.get?_push_of_some _ k1), d1, c1⟩ (Nat.ne_of_lt (Heap.lt_size (Heap.get?_push_of_some _ k1))) (Heap.get?_push_size _ rfl) rfl (by first | (simp; done) | (simp; omega) | (simp only [Array.size_append]; simp; omega)) ?_
  refine wpAny_bind (wpAny_isInstance (T := "StopIteration") (b := true) ⟨_, Heap.get?_update_self _ (Heap.get?_push_size _ rfl) rfl, rfl⟩ isSubtype_stop ?_)
  refine wpAny_pure (done _ fun b o hb e => ?_)
  have e1 : hp.get? b = some o := by rw [← hu, Heap.get?_update_other _ _ (Ne.symm hb)]; exact e
  rw [Heap.get?_update_other _ _ (Nat.ne_of_gt (Heap.lt_size (Heap.get?_push_of_some _ e1)))]
  exact Heap.get?_push_of_some _ (Heap.get?_push_of_some _ e1)
/-- the walk along a list, an exception being handled: its object stays -/
theorem walks_hot {x1 : Addr} {o1 : Obj} {vs1 : Array Value} (hh : A.handled = some (.ref x1)) (d1 : o1.data = .fields vs1) (c1 : vs1[2]? = some .none) (it l : Addr) (ne : l ≠ it) (items : Array Value) :
    Walks prog w A it [it, l, x1] [it] items.size (fun i v => items[i]? = some v) (fun i h => h.IsListIter it l i ∧ h.IsList l items ∧ h.get? x1 = some o1 ∧ x1 ≠ it) where
  sub := fun b hb => by
    cases List.mem_singleton.mp hb
    exact List.mem_cons_self
  frame := fun _ _ _ ⟨s1, s2, s3, s4⟩ hk => ⟨s1.at fun o e => hk it (by simp) o e, s2.at fun o e => hk l (by simp) o e, hk x1 (by simp) _ s3, s4⟩
  item := fun i s Q E hi ⟨s1, s2, s3, s4⟩ hQ => wpAny_pyNext_list_item s1 s2 (x := items[i]) (by simp [hi]) fun h' hit' hs' =>
    hQ _ h' s.toks (by simp [hi]) ⟨hit', s2.extBut hs'.extBut ne, hs'.extBut x1 _ s4 s3, s4⟩ fun b o hb e => hs'.extBut b o (fun z => hb (by simp [z])) e
  done := fun s Q E ⟨s1, s2, s3, s4⟩ hQ => nl_end ⟨hh, o1, vs1, s3, d1, c1⟩ s1 s2 (by simp) fun h' he' => hQ h' s.toks fun b o hb e => he' b o (fun z => hb (by simp [z])) e
  self := fun _ _ _ _ st hQ => wpAny_pyIter_listiter st.1 hQ
/-- sum(xs), xs a list of ints, an exception being handled -/
theorem sum_hot {l x1 : Addr} {its : List Value} {ns : List Int} {Q : Value → Shared → Prop} (hot : HotX.HotAt A x1 s.heap) (hl : s.heap.IsList l its.toArray) (hi : IntsAre its ns)
    (h : ∀ h' tk t', (∀ b o, s.heap.get? b = some o → h'.get? b = some o) → Q (.int ns.sum t') { s with heap := h', toks := tk }) : wpAny (model prog w) A (call (.builtin "sum") [.ref l]) Q E s := by
  obtain ⟨hh, o1, vs1, g1, d1, c1⟩ := hot
  obtain ⟨xs, ex⟩ := hi.allInts.items
  have hn : numsOf (intItems xs).toList = ns := by rw [← ex]; exact hi.numsOf
  rw [nums_intItems] at hn
  rw [ex] at hl
  have hne : x1 ≠ s.heap.objs.size := Nat.ne_of_lt (Heap.lt_size g1)
  refine call_sum_walkG (iter_intList hl fun s₂ e st hfp hlI => ?_)
  subst e
  refine ⟨_, _, _, _, _, _, numAt xs, rfl, walks_hot (A := A.in1) (o1 := o1) hh d1 c1 _ l hlI (intItems xs), ⟨st.1, st.2, Heap.get?_push_of_some _ g1, hne⟩, fun b hb => ?_, (fun _ _ => intItems_at), fun h' tk t' hk => ?_⟩
  · rcases List.mem_cons.mp hb with z | z
    · exact hfp b (by rw [z]; exact List.mem_cons_self)
    · rcases List.mem_cons.mp z with z | z
      · exact hfp b (by rw [z]; simp)
      · cases List.mem_singleton.mp z
        exact Heap.lt_size (Heap.get?_push_of_some _ g1)
  · have q := h h' tk t' (old_kept hk)
    have e1 : (intItems xs).size = xs.size := by simp [intItems]
    rw [e1, preSum_eq, List.take_of_length_le (by simp), hn]
    exact q
end
section
variable {X : Cx} {pins : List (Addr × Obj)} {σ : L2.St} {H : Hp} {s : Shared}
def bI (b : Bool) : Int := if b = true then 1 else 0
/-- the block's invariant at the turn i -/
structure HInv (Y : Cx) (σ : L2.St) (H : Hp) (D it a : Addr) (bs : List Bool) (i : Nat) (s : Shared) : Prop where
  inv : Inv Y [] σ (upd H D (.lst ((bs.take i).map fun b => V.int (bI b)))) s
  st : s.heap.IsListIter it a i
  le : i ≤ bs.length
theorem lcH {elt tg iter : Expr} {scope : Scope} {own : List (Str × Nat)} {pos : Pos} {a : Addr} {bs : List Bool} {j : Nat} {Q : VK} (hot : L2H.HotC X) (hN : X.N.Nodup) (I : Inv X pins σ H s) (sq : SqL X.K H a (bs.map V.bl)) (hz : bs.length < sizeLine)
    (hi : ∀ {R : Value → Shared → Prop}, (∀ s', Inv X pins σ H s' → R (.ref a) s') → wpAny (model X.prog X.w) X.A (eval iter X.env) R X.xe s)
    (ok : BlkOk X.N X.env.scope scope own) (own1 : own.map (·.2) = [j])
    (hg : ∀ (s : Shared) (H : Hp) (C : Addr) (cl : List (Str × Addr)) (fp : List Addr), PG (X.blk s H scope (compEnvC scope cl C X.env) fp) tg (gName j))
    (he : ∀ (s : Shared) (H : Hp) (C : Addr) (cl : List (Str × Addr)) (fp : List Addr), PE (X.blk s H scope (compEnvC scope cl C X.env) fp) elt (fun σ H Q => ∃ b, σ[j]? = some (some (V.bl b)) ∧ Q (.int (bI b)) H))
    (hj : j < X.N.length) (hlen : σ.length = X.N.length) (hs : ∀ x, foldedSetIterable iter X.env x = pure x)
    (fin : ∀ D, H D = none → Q (.ref D) (upd H D (.lst (bs.map fun b => V.int (bI b))))) :
    wpAny (model X.prog X.w) X.A (eval (.ListComp elt [⟨tg, iter, [], 0⟩] scope pos) X.env) (EP X pins σ Q) X.xe s := by
  rw [eval_ListComp]
  have frees : ∀ y ∈ scope.names, y.2 = .free → ∃ c, X.env.cells.lookup y.1 = some c := fun y hy e => (ok.free y hy e).elim (fun k => I.ok.has _ (.inl k)) fun k => I.ok.has _ (.inr k)
  refine wpAny_comprehension_free (use := none) rfl hs (closure_ok frees) ok.kind (fun y hy e => (ok.uniq y hy).trans (by rw [e])) (hi fun s1 I1 => ?_)
  obtain ⟨its, rv, p, hz2⟩ := I1.list sq
  have hln : bs.length = its.length := by rw [← rv.length, List.length_map]
  refine wpAny_pyIter_list p.isList ?_
  generalize hit : s1.heap.objs.size = it
  generalize hs2 : ({ s1 with heap := s1.heap.push { cls := .type "list_iterator", data := .fields #[.ref a, .int 0 0] } } : Shared) = s2
  have h2 : s2.heap = s1.heap.push { cls := .type "list_iterator", data := .fields #[.ref a, .int 0 0] } := by rw [← hs2]
  have I2 : Inv X pins σ H s2 := by rw [← hs2]; exact I1.kept (t' := s1.toks) fun b o e => Heap.get?_push_of_some _ e
  have f2 : FpOk X pins H it := by
    have := I1.fpOk (H' := H) (b := s1.heap.objs.size) (Nat.le_refl _) (I1.hok.fresh (Nat.le_refl _))
    rw [hit] at this; exact this
  have st2 : s2.heap.IsListIter it a 0 := ⟨_, by rw [h2, ← hit]; exact Heap.get?_push_size _ rfl, rfl, rfl⟩
  refine wpAny_newObj_type (newEnv_comp ?_) (by show 0 ≤ sizeLine; decide)
  generalize hD : s2.heap.objs.size = D
  have nD : H D = none := I2.hok.fresh (Nat.le_of_eq hD)
  generalize hs3 : ({ s2 with heap := s2.heap.push { cls := .type "list", data := .seq ([] : List Value).toArray } } : Shared) = s3
  have h3 : s3.heap = s2.heap.push { cls := .type "list", data := .seq ([] : List Value).toArray } := by rw [← hs3]
  have I3 : Inv X pins σ (upd H D (.lst [])) s3 := by
    rw [← hs3]
    refine I2.laid (t' := s2.toks) (fun b o e => Heap.get?_push_of_some _ e) (Nat.le_of_eq hD) ⟨Nat.zero_le _, [], 0, .nil, ?_⟩
    rw [← hD]
    exact Heap.get?_push_size _ rfl
  have itD : it ≠ D := fun z => by
    obtain ⟨o, e, _⟩ := st2
    have := Heap.lt_size e
    rw [hD, z] at this
    exact Nat.lt_irrefl _ this
  have st3 : s3.heap.IsListIter it a 0 := st2.at fun o e => by rw [h3]; exact Heap.get?_push_of_some _ e
  have f3 : ∀ b ∈ [it], FpOk X pins (upd H D (.lst [])) b ∧ b < s3.heap.objs.size := fun b hb => by
    cases List.mem_singleton.mp hb
    obtain ⟨o, e, _⟩ := st3
    exact ⟨⟨by rw [upd_ne itD]; exact f2.1, f2.2⟩, Heap.lt_size e⟩
  have I4 := block_start I3 ok hN f3
  have pg := hg s3 (upd H D (.lst [])) s3.heap.objs.size (cellsFrom (s3.heap.objs.size + 1) scope.names (cloFrom X.env.cells scope.names [])) [it]
  have pe := he s3 (upd H D (.lst [])) s3.heap.objs.size (cellsFrom (s3.heap.objs.size + 1) scope.names (cloFrom X.env.cells scope.names [])) [it]
  show codeAny _ _ (.compStart (.ListComp elt [⟨tg, iter, [], 0⟩] scope pos) 0 (.ref it) (.ref D) (compEnvC scope (cellsFrom (s3.heap.objs.size + 1) scope.names (cloFrom X.env.cells scope.names [])) s3.heap.objs.size X.env)) (compPost (model X.prog X.w) X.A X.xe none (EP X pins σ Q) (.ref D) s3.heap.objs.size) { s3 with heap := pushCells (s3.heap.push { cls := .type "dict", data := .dict #[] }) scope.names }
  rw [own1] at I4
  generalize hce : compEnvC scope (cellsFrom (s3.heap.objs.size + 1) scope.names (cloFrom X.env.cells scope.names [])) s3.heap.objs.size X.env = ce at I4 pg pe ⊢
  have cL : ce.locals = s3.heap.objs.size := by subst hce; rfl
  generalize hs4 : ({ s3 with heap := pushCells (s3.heap.push { cls := .type "dict", data := .dict #[] }) scope.names } : Shared) = s4 at I4 ⊢
  have st4 : s4.heap.IsListIter it a 0 := st3.at fun o e => by rw [← hs4]; exact pushCells_keeps _ _ _ _ (Heap.get?_push_of_some _ e)
  have aD : ∀ u, SqL X.K (upd H D u) a (bs.map V.bl) := fun u => by
    rcases sq with (q | ⟨o, q⟩) | q
    · exact .inl (.inl (by rw [upd_ne (fun z => by rw [z, nD] at q; cases q)]; exact q))
    · exact .inl (.inr ⟨o, by rw [upd_ne (fun z => by rw [z, nD] at q; cases q)]; exact q⟩)
    · exact .inr q
  have fpo : ∀ {σ' : L2.St} {H' : Hp} {s' : Shared}, Inv (X.blk s3 (upd H D (.lst [])) scope ce [it]) [] σ' H' s' → H' it = none → FpOk (X.blk s3 (upd H D (.lst [])) scope ce [it]) [] H' it := fun {σ' H' s'} I' hn =>
    have mi : it ∈ [it] := List.mem_singleton.mpr rfl
    ⟨hn, (I'.ok.exf it mi).1, I'.ok.exfs it mi, .inl mi, fun x c e => (I'.ok.exf it mi).2 x c e, fun p hp => absurd (show p ∈ ([] : List (Addr × Obj)) ++ [] from hp) (by simp)⟩
  have itn : ∀ u, (upd H D u) it = none := fun u => by rw [upd_ne itD]; exact f2.1
  have loop : codeAny (model X.prog X.w) X.A (.compLoop (.ListComp elt [⟨tg, iter, [], 0⟩] scope pos) 0 (.ref it) (.ref D) ce) (compPost (model X.prog X.w) X.A X.xe none (EP X pins σ Q) (.ref D) s3.heap.objs.size) s4 := by
    refine compLoop_any (fun n s' => ∃ i, n = bs.length - i ∧ HInv (X.blk s3 (upd H D (.lst [])) scope ce [it]) (wipe σ [j]) H D it a bs i s') ?_ bs.length ⟨0, by omega, ⟨I4, st4, Nat.zero_le _⟩⟩
    rintro n s5 ⟨i, rfl, I5, st5, le5⟩
    obtain ⟨its5, rv5, p5, _⟩ := I5.list (aD _)
    have e5 : its5.length = bs.length := by rw [← rv5.length, List.length_map]
    obtain ⟨f0, f1, f4, f5, f6, f7⟩ := fpo I5 (itn _)
    by_cases hlt : i < bs.length
    · obtain ⟨u, hu, ru⟩ := rv5.get (show (bs.map V.bl)[i]? = some (V.bl bs[i]) by rw [List.getElem?_map, List.getElem?_eq_getElem hlt]; rfl)
      refine wpAny_pyNext_list_item st5 p5.isList (x := u) (by simpa using hu) fun h' st' sb => ?_
      have I6 : Inv (X.blk s3 (upd H D (.lst [])) scope ce [it]) [] (wipe σ [j]) (upd H D (.lst ((bs.take i).map fun b => V.int (bI b)))) { s5 with heap := h' } := I5.turned (t' := s5.toks) (fun b o hb e => (sb.2 b hb).trans e) f0 f1 f5 f6 f7
      obtain ⟨o6, e6, c6, d6⟩ := id st'
      refine go_of (s := { s5 with heap := h' }) e6 c6 d6 (by decide) ?_
      have I7 := I6.pinned (fp := [it]) (fun b hb => by cases List.mem_singleton.mp hb; exact fpo I6 (itn _)) (fun b hb => by
        cases List.mem_singleton.mp hb
        exact ⟨o6, e6, fun v z => by rw [d6] at z; cases z⟩)
      refine thnF (pg.run _ { s5 with heap := h' } _ _ (V.bl bs[i]) u (fun σ' H' => σ' = (wipe σ [j]).set j (some (V.bl bs[i])) ∧ H' = upd H D (.lst ((bs.take i).map fun b => V.int (bI b)))) I7 ru ⟨rfl, rfl⟩) fun _ s8 ⟨σ8, H8, I8, e8, eh8⟩ => ?_
      subst e8 eh8
      refine wpAny_tests_nil ?_
      simp only [if_true]
      have hj' : j < (wipe σ [j]).length := by rw [wipe_length, hlen]; exact hj
      refine thnF (pe.run _ s8 _ _ (fun v H' => v = V.int (bI bs[i]) ∧ H' = upd H D (.lst ((bs.take i).map fun b => V.int (bI b)))) I8 ⟨bs[i], List.getElem?_set_self hj', rfl, rfl⟩) fun z s10 ⟨yv, H10, I10, r10, ev, eh⟩ => ?_
      subst ev eh
      refine app_ok (X := X.blk s3 (upd H D (.lst [])) scope ce [it]) I10 upd_same (by rw [List.length_map, List.length_take]; omega) r10 fun s11 I11 => ⟨bs.length - (i + 1), by omega, i + 1, rfl, ?_⟩
      have pin := I11.pin (it, o6) (List.mem_append_right _ (List.mem_append_right _ (mem_pinsAt (List.mem_singleton.mpr rfl) e6)))
      have eq1 : upd (upd H D (.lst ((bs.take i).map fun b => V.int (bI b)))) D (.lst ((bs.take i).map (fun b => V.int (bI b)) ++ [.int (bI bs[i])])) = upd H D (.lst ((bs.take (i + 1)).map fun b => V.int (bI b))) := by
        have : bs.take (i + 1) = bs.take i ++ [bs[i]] := by rw [List.take_succ, List.getElem?_eq_getElem hlt]; rfl
        rw [this, List.map_append]
        funext b
        by_cases hb : b = D
        · subst hb; rw [upd_same, upd_same]; rfl
        · rw [upd_ne hb, upd_ne hb, upd_ne hb]
      rw [eq1] at I11
      refine ⟨(I11.unpinned (pins := [])).weak (by simp [List.length_set]) (fun k v e => ?_), st'.at fun o e => by rw [show o = o6 from Option.some.inj (e.symm.trans e6)]; exact pin.1, hlt⟩
      by_cases hk : k = j
      · subst hk
        have := (wipe_some e).2
        exact absurd (List.mem_singleton.mpr rfl) this
      · rw [List.getElem?_set_ne (Ne.symm hk)]; exact e
    · have ei : i = bs.length := by omega
      subst ei
      obtain ⟨p, ⟨hh, v1, d1, c1⟩, hp⟩ := hot
      obtain ⟨P1, P2, P3, P4, _⟩ := I3.pin p (List.mem_append_left _ hp)
      have nit : p.1 ∉ [it] := fun z => by
        have z := List.mem_singleton.mp z
        obtain ⟨o, e, _, d⟩ := st3
        rw [← z, P1] at e
        cases e
        rw [d] at d1
        cases d1
        simp at c1
      have g := I5.base.keep p.1 p.2 P1 P2 (fun z => (I3.stkSub _ z |> List.mem_cons.mp).elim P3 P4) nit
      refine nl_end (x1 := p.1) ⟨hh, p.2, v1, g, d1, c1⟩ st5 p5.isList (by simp; omega) fun h' eb => ?_
      have I6 : Inv (X.blk s3 (upd H D (.lst [])) scope ce [it]) [] (wipe σ [j]) (upd H D (.lst ((bs.take bs.length).map fun b => V.int (bI b)))) { s5 with heap := h' } := I5.turned (t' := s5.toks) (fun b o hb e => eb b o hb e) f0 f1 f5 f6 f7
      rw [List.take_length] at I6
      have I7 : Inv X pins σ (upd H D (.lst (bs.map fun b => V.int (bI b)))) { s5 with heap := h' } := I3.call' (ch := [it]) I6.os I6.base I6.hok I6.bare fun b hb => ⟨(f3 b hb).1.2.2.2.1, (f3 b hb).1.2.1, (f3 b hb).1.2.2.2.2.1, (f3 b hb).1.2.2.2.2.2⟩
      have nC : upd H D (.lst (bs.map fun b => V.int (bI b))) s3.heap.objs.size = none := by
        have z : upd H D (.lst (bs.map fun b => V.int (bI b))) ce.locals = none := I6.free
        rwa [cL] at z
      obtain ⟨m, hn, _⟩ := I6.loc
      have hn : h'.Ns ce.locals m := hn
      rw [cL] at hn
      obtain ⟨q0, q1, q2, q3, q4, q5⟩ := I3.fpOk (Nat.le_refl _) nC
      exact ⟨m, hn, fun h'' sb => ⟨.ref D, _, I7.turned (t' := s5.toks) (fun b o hb e => (sb.2 b hb).trans e) q0 q1 q3 q4 q5, rfl, fin D nD⟩⟩
  exact codeAny_compStart_list loop (wpAny_pyIter_listiter st4 loop)
end
end S2

set_option maxHeartbeats 4000000
/-! S2m: the check of the IR against the text, and its soundness. -/
namespace S2
open PySem PySem.Spec PyProof.Rows L2

def nmB1 (x : Str) : Bool := !(x == ("__debug__" : Str))
def nmB2 (x : Str) : Bool := !(x == ("__debug__" : Str)) && !(x == ("__classdict__" : Str))
def vrB (N : List Str) (sc : Scope) (i : Nat) (x : Str) : Bool := decide (N[i]? = some x) && visB sc x && nmB2 x
def nxt (op : BoolOp) (y : Expr) (rest : List Expr) (pos : Pos) : Expr := match rest with
  | [] => y
  | _ => .BoolOp op (y :: rest) pos
def isVar : E → Bool
  | .var _ => true
  | _ => false
def tgOwn : Tg → Expr → List (Str × Nat)
  | .nm i, .Name x _ => [(x, i)]
  | .tp is, .Tuple es _ _ => (es.filterMap fun e => match e with | .Name x _ => some x | _ => none).zip is
  | _, _ => []
/-- what a method is asked of here: a name, or a field of one -/
def okRc : Expr → Bool
  | .Call _ _ _ _ => false
  | _ => true
def bmN : Bm → Str
  | .index => "index" | .upper => "upper" | .split => "split" | .six => "index" | _ => "_"
def bmA : Bm → List Expr → Bool
  | .upper, [] => true
  | .split, [_] => true
  | .index, [_] => true
  | .six, [_] => true
  | _, _ => false
/-- a literal -/
def okLi (i : Int) : Expr → Bool
  | .Constant (.int c) _ _ => decide (i = c)
  | _ => false
def okLn : Expr → Bool
  | .Constant .none _ _ => true
  | _ => false
def okL : E → Expr → Bool
  | .int i, e => okLi i e
  | .non, e => okLn e
  | _, _ => false
def hsmB (g : G) (N : List Str) (hot : Bool) (i j : Nat) (sc : Scope) (e : Expr) : Bool := match e with
    | .Call (.Name s1 _) [.ListComp (.Call (.Name s2 _) [.Name m1 _] [] _) [⟨.Name m2 _, .Name x _, [], as⟩] scope _] [] _ => hot && decide (as = 0) && decide (s1 = "sum") && glB sc "sum" && g.fr "sum" && decide (s2 = "int") && glB (relS scope sc) "int" && g.fr "int" && decide (m1 = m2) &&
      decide (N[j]? = some m2) && blkC N sc scope [(m2, j)] && locB (relS scope sc) m2 && locB scope m2 && visB (relS scope sc) m2 && nmB2 m2 && vrB N sc i x
    | _ => false
def hcallB (g : G) (N : List Str) (hot : Bool) (f : Str) (i : Nat) (sc : Scope) (e : Expr) : Bool := match e with | .Call (.Name y _) [.Name x _] [] _ => hot && decide (y = f) && glB sc f && nmB1 f && g.hf f && vrB N sc i x | _ => false
def meB : Expr → Bool
  | .Name _ _ => true
  | .Subscript _ _ _ => true
  | _ => false
mutual
def okE (g : G) (N : List Str) (hot : Bool) : E → Scope → Expr → Bool
  | .non, _, e => match e with | .Constant .none _ _ => true | _ => false
  | .bl b, _, e => match e with | .Constant (.bool c) _ _ => b == c | _ => false
  | .int i, _, e => match e with | .Constant (.int c) _ _ => decide (i = c) | _ => false
  | .str s, _, e => match e with | .Constant (.str c) _ _ => decide (s = c) | _ => false
  | .var i, sc, e => match e with | .Name x _ => vrB N sc i x | _ => false
  | .g x, sc, e => match e with | .Name y _ => decide (x = y) && glB sc x && nmB1 x && (g.con x).isSome | _ => false
  | .bin o a b, sc, e => match e with | .BinOp l op r _ => decide (op = opOf o) && okE g N hot a sc l && okE g N hot b sc r | _ => false
  | .neg a, sc, e => match e with | .UnaryOp .USub x _ => okE g N hot a sc x | _ => false
  | .not a, sc, e => match e with | .UnaryOp .Not x _ => okE g N hot a sc x | _ => false
  | .and a b, sc, e => match e with | .BoolOp .And (x :: y :: rest) pos => okE g N hot a sc x && okE g N hot b sc (nxt .And y rest pos) | _ => false
  | .or a b, sc, e => match e with | .BoolOp .Or (x :: y :: rest) pos => okE g N hot a sc x && okE g N hot b sc (nxt .Or y rest pos) | _ => false
  | .cmp o a b, sc, e => match e with | .Compare l [op] [r] _ => decide (op = cmpOf o) && !behindInMarks (cmpOf o) r && okE g N hot a sc l && okE g N hot b sc r | _ => false
  | .chain o p a b c, sc, e => match e with | .Compare l [op, op'] [m, r] _ => decide (op = cmpOf o) && decide (op' = cmpOf p) && !lastMarks [cmpOf o, cmpOf p] [m, r] && okE g N hot a sc l && okE g N hot b sc m && okE g N hot c sc r | _ => false
  | .ife c a b, sc, e => match e with | .IfExp t x y _ => okT g N hot c sc t && okE g N hot a sc x && okE g N hot b sc y | _ => false
  | .tup es, sc, e => match e with | .Tuple l _ _ => okEs g N hot es sc l | _ => false
  | .lst es, sc, e => match e with | .List l _ => okEs g N hot es sc l | _ => false
  | .ix a b, sc, e => match e with | .Subscript x y _ => okE g N hot a sc x && okE g N hot b sc y | _ => false
  | .sl a lo hi, sc, e => match e with | .Subscript x (.Slice l h none _) _ => okE g N hot a sc x && okO g N hot lo sc l && okO g N hot hi sc h | _ => false
  | .fld a f, sc, e => match e with | .Attribute (.Name x _) n _ => decide (n = f) && g.nf f && (match a with | .var i => vrB N sc i x | _ => false) | _ => false
  | .isi a b, sc, e => match e with | .Call (.Name fn _) [x, .Name c _] [] _ => decide (fn = "isinstance") && glB sc "isinstance" && g.fr "isinstance" && decide (c = Str.ofString (btNm b)) && glB sc (Str.ofString (btNm b)) && g.fr (Str.ofString (btNm b)) && okE g N hot a sc x | _ => false
  | .isx i c, sc, e => match e with | .Call (.Name fn _) [.Name x _, .Name c' _] [] _ => hot && decide (fn = "isinstance") && glB sc "isinstance" && g.fr "isinstance" && decide (c' = c) && glB sc c && vrB N sc i x && (((g.exf c).isSome && nmB1 c) || (decide (c = Str.ofString "ValueError") && g.fr (Str.ofString "ValueError"))) | _ => false
  | .xfl i f, sc, e => match e with | .Attribute (.Name x _) n _ => hot && decide (n = f) && g.nf f && vrB N sc i x | _ => false
  | .hsm i j, sc, e => hsmB g N hot i j sc e
  | .rvt a, sc, e => match e with | .Call (.Name t _) [.Call (.Name r _) [y] [] _] [] _ => !hot && decide (t = "tuple") && decide (r = "reversed") && glB sc "tuple" && g.fr "tuple" && glB sc "reversed" && g.fr "reversed" && okE g N hot a sc y | _ => false
  | .lsv i, sc, e => match e with | .Call (.Name t _) [.Name x _] [] _ => !hot && decide (t = "list") && glB sc "list" && g.fr "list" && vrB N sc i x | _ => false
  | .rvl a, sc, e => match e with | .Call (.Name t _) [.Call (.Name r _) [y] [] _] [] _ => !hot && decide (t = "list") && decide (r = "reversed") && glB sc "list" && g.fr "list" && glB sc "reversed" && g.fr "reversed" && okE g N hot a sc y | _ => false
  | .hcall f i, sc, e => hcallB g N hot f i sc e
  | .call f es, sc, e => match e with | .Call (.Name x _) l [] _ => !hot && decide (x = f) && glB sc f && nmB1 f && g.top f && okEs g N hot es sc l | _ => false
  | .new c es, sc, e => match e with | .Call (.Name x _) (a :: l) [] _ => !hot && decide (x = c) && glB sc c && nmB1 c && g.cl c && okEs g N hot es sc (a :: l) | _ => false
  | .bi f es, sc, e => match e with | .Call (.Name x _) (a :: l) [] _ => (!hot || coolB f) && decide (x = nmB f) && ((isTy f).isSome || (isBl f).isSome) && glB sc (nmB f) && g.fr (nmB f) && okEs g N hot es sc (a :: l) | .Call (.Name x _) [a] [⟨some kn, kv, _⟩] _ => (match es with | .cons ia (.cons id .nil) => !hot && isKw f && decide (x = nmK f) && decide (kn = "default") && glB sc (nmK f) && g.fr (nmK f) && okE g N hot ia sc a && okL id kv | _ => false) | _ => false
  | .me m a es, sc, e => match e with | .Call (.Attribute o m' apos) l [] pos => !hot && decide (m' = m) && (apos.endLine == pos.line) && decide (l.length < 30) && meB o && okE g N hot a sc o && okEs g N hot es sc l | _ => false
  | .join s b, sc, e => match e with | .Call (.Attribute (.Constant (.str c) _ _) m apos) [y] [] pos => decide (m = "join") && (apos.endLine == pos.line) && decide (s = c) && okE g N hot b sc y | _ => false
  | .bm m a es, sc, e => match e with
    | .Call (.Attribute o m' apos) l [] pos => decide (m' = bmN m) && okRc o && (apos.endLine == pos.line) && okE g N hot a sc o && okEs g N hot es sc l && bmA m l
    | _ => false
  | .lc elt tg it c, sc, e => match e with
    | .ListComp x [⟨t, i, ifs, as⟩] scope _ => !hot && decide (as = 0) && blkC N sc scope (tgOwn tg t) && decide ((tgOwn tg t).map (·.2) = tgS tg) && okTg N (relS scope sc) tg t && okTg N scope tg t && okI g N hot it sc i && okE g N hot elt (relS scope sc) x && okC g N hot c (relS scope sc) ifs
    | _ => false
  | _, _, _ => false
def okEs (g : G) (N : List Str) (hot : Bool) : Es → Scope → List Expr → Bool
  | .nil, _, l => match l with | [] => true | _ => false
  | .cons a es, sc, l => match l with | x :: r => okE g N hot a sc x && okEs g N hot es sc r | _ => false
def okO (g : G) (N : List Str) (hot : Bool) : Eo → Scope → Option Expr → Bool
  | .none, _, l => match l with | none => true | _ => false
  | .some a, sc, l => match l with | some x => okE g N hot a sc x | _ => false
def okC (g : G) (N : List Str) (hot : Bool) : Eo → Scope → List Expr → Bool
  | .none, _, l => match l with | [] => true | _ => false
  | .some a, sc, l => match l with | [x] => okT g N hot a sc x | _ => false
def okT (g : G) (N : List Str) (hot : Bool) : E → Scope → Expr → Bool
  | .not a, sc, e => match e with | .UnaryOp .Not x _ => okT g N hot a sc x | _ => false
  | .and a b, sc, e => match e with | .BoolOp .And (x :: y :: rest) pos => okT g N hot a sc x && okT g N hot b sc (nxt .And y rest pos) | _ => false
  | .or a b, sc, e => match e with | .BoolOp .Or (x :: y :: rest) pos => okT g N hot a sc x && okT g N hot b sc (nxt .Or y rest pos) | _ => false
  | .cmp o a b, sc, e => match e with | .Compare l [op] [r] _ => decide (op = cmpOf o) && !behindInMarks (cmpOf o) r && okE g N hot a sc l && okE g N hot b sc r | _ => false
  | .chain o p a b c, sc, e => match e with | .Compare l [op, op'] [m, r] _ => decide (op = cmpOf o) && decide (op' = cmpOf p) && !lastMarks [cmpOf o, cmpOf p] [m, r] && okE g N hot a sc l && okE g N hot b sc m && okE g N hot c sc r | _ => false
  | .bl b, _, e => match e with | .Constant (.bool c) _ _ => b == c | _ => false
  | .var i, sc, e => match e with | .Name x _ => vrB N sc i x | _ => false
  | .ix a b, sc, e => match e with | .Subscript x y _ => okE g N hot a sc x && okE g N hot b sc y | _ => false
  | .isi a b, sc, e => match e with | .Call (.Name fn _) [x, .Name c _] [] _ => decide (fn = "isinstance") && glB sc "isinstance" && g.fr "isinstance" && decide (c = Str.ofString (btNm b)) && glB sc (Str.ofString (btNm b)) && g.fr (Str.ofString (btNm b)) && okE g N hot a sc x | _ => false
  | .isx i c, sc, e => match e with | .Call (.Name fn _) [.Name x _, .Name c' _] [] _ => hot && decide (fn = "isinstance") && glB sc "isinstance" && g.fr "isinstance" && decide (c' = c) && glB sc c && vrB N sc i x && (((g.exf c).isSome && nmB1 c) || (decide (c = Str.ofString "ValueError") && g.fr (Str.ofString "ValueError"))) | _ => false
  | .call f es, sc, e => match e with | .Call (.Name x _) l [] _ => !hot && decide (x = f) && glB sc f && nmB1 f && g.top f && okEs g N hot es sc l | _ => false
  | .bi f es, sc, e => match e with | .Call (.Name x _) (a :: l) [] _ => (!hot || coolB f) && decide (x = nmB f) && ((isTy f).isSome || (isBl f).isSome) && glB sc (nmB f) && g.fr (nmB f) && okEs g N hot es sc (a :: l) | _ => false
  | .me m a es, sc, e => match e with | .Call (.Attribute o m' apos) l [] pos => !hot && decide (m' = m) && (apos.endLine == pos.line) && decide (l.length < 30) && meB o && okE g N hot a sc o && okEs g N hot es sc l | _ => false
  | _, _, _ => false
def okI (g : G) (N : List Str) (hot : Bool) : It → Scope → Expr → Bool
  | .it e, sc, x => okE g N hot e sc x
  | .rng1 a, sc, e => match e with | .Call (.Name f _) [x] [] _ => decide (f = "range") && glB sc "range" && g.fr "range" && okE g N hot a sc x | _ => false
  | .rng2 a b, sc, e => match e with | .Call (.Name f _) [x, y] [] _ => decide (f = "range") && glB sc "range" && g.fr "range" && okE g N hot a sc x && okE g N hot b sc y | _ => false
  | .rev a, sc, e => match e with | .Call (.Name f _) [x] [] _ => decide (f = "reversed") && glB sc "reversed" && g.fr "reversed" && okE g N hot a sc x | _ => false
  | _, _, _ => false
end
end S2

set_option maxHeartbeats 4000000
/-! S2mh: what only an except suite says. -/
namespace S2
open PySem PySem.Spec PyProof.Rows L2

section
variable {X : Cx} {W : WX} {g : G} {w : Wr} {n : Nat} {C : Cal}
theorem Gd.hotc (gd : Gd X W g w n true) : L2H.HotC X := let ⟨p, h1, h2, _⟩ := gd.hc rfl; ⟨p, h1, h2⟩
theorem cr_sumH (hot : L2H.HotC X) : CallR X (.builtin "sum") (rSum X.K) := by
  intro pins s σ H vs us Q I r ⟨a, ns, e, sq, q⟩
  subst e
  obtain ⟨its, rv, hl, _⟩ := I.list sq
  obtain ⟨x1, ht⟩ := hot.at I
  rw [Vals.ref1 r]
  exact sum_hot ht hl.isList rv.ints fun h' tk t' hk => ⟨.int _, H, I.kept hk, ⟨_, rfl⟩, q⟩
/-- sum([int(m) for m in marks]) -/
theorem sE_hsm {i j : Nat} {x m : Str} {scope : Scope} {p0 p1 p2 p3 p4 p5 p6 pos : Pos} (gd : Gd X W g w n true) (hN : X.N[i]? = some x) (hv : Vis X.env.scope x) (hd : (x == ("__debug__" : Str)) = false) (hcd : (x == ("__classdict__" : Str)) = false)
    (gs : Gl X "sum") (rs : g.fr "sum" = true) (gi : glB (relS scope X.env.scope) "int" = true) (ri : g.fr "int" = true) (hj : X.N[j]? = some m) (bl : blkC X.N X.env.scope scope [(m, j)] = true) (l1 : locB (relS scope X.env.scope) m = true) (l2 : locB scope m = true)
    (mv : visB (relS scope X.env.scope) m = true) (md : (m == ("__debug__" : Str)) = false) (mcd : (m == ("__classdict__" : Str)) = false) :
    PE X (.Call (.Name "sum" p0) [.ListComp (.Call (.Name "int" p1) [.Name m p2] [] p3) [⟨.Name m p4, .Name x p5, [], 0⟩] scope p6] [] pos) (tE g C w W (.hsm i j)) := by
  have lc : PE X (.ListComp (.Call (.Name "int" p1) [.Name m p2] [] p3) [⟨.Name m p4, .Name x p5, [], 0⟩] scope p6) (fun σ H Q => ∃ a, ∃ bs : List Bool, σ[i]? = some (some (V.ref a)) ∧ SqL X.K H a (bs.map V.bl) ∧ bs.length < sizeLine ∧ ∀ D, H D = none → Q (.ref D) (upd H D (.lst (bs.map fun b => V.int (bI b))))) := by
    refine ⟨fun pins s σ H Q I ⟨a, bs, ea, sq, hz, fin⟩ => ?_⟩
    have hjl : j < X.N.length := (List.getElem?_eq_some_iff.mp hj).1
    refine lcH (j := j) (bs := bs) gd.hotc gd.nd I sq hz (fun {R} hR => ?_) (blkOk_by bl) rfl (fun s H C cl fp => ?_) (fun s H C cl fp => ?_) hjl I.len (fun _ => rfl) fin
    · refine wpAny_mono ((pe_var hN hv hd hcd).run pins s σ H (fun v H' => v = .ref a ∧ H' = H) I ⟨_, ea, rfl, rfl⟩) (fun u s' ⟨v, H', I', r, ev, eh⟩ => ?_) fun _ _ h => h
      subst ev eh
      cases (show u = Value.ref a from r)
      exact hR s' I'
    · exact pg_name (X := X.blk s H scope (compEnvC scope cl C X.env) fp) gd.nd hj (locB_ok l1) (fn_blk' (X := X) m l2)
    · have px : PE (X.blk s H scope (compEnvC scope cl C X.env) fp) (.Name m p2) (tVar j) := pe_var (X := X.blk s H scope (compEnvC scope cl C X.env) fp) hj (visB_ok mv) md mcd
      refine PE.imp (pe_callTy (X := X.blk s H scope (compEnvC scope cl C X.env) fp) call_int1 (glB_ok gi) (gd.fx.free _ ri) (by rfl) (pa_cons px pa_nil (by rfl)) (by decide) (by decide) (by rfl) (by rfl)) fun σ H Q ⟨b, e, q⟩ => ?_
      exact ⟨.bl b, e, .inr ⟨b, rfl, q⟩⟩
  refine PE.imp (pe_callB (cr_sumH gd.hotc) gs (gd.fx.free _ rs) (by rfl) (pa_cons lc pa_nil (by rfl)) (by decide) (by decide) (by rfl) (by rfl)) fun σ H Q ⟨env, O, dom, en, h⟩ => ?_
  have h : fR w W σ O (rV w O) H ((look env i).bind fun x => match x.2 with
    | .lst l => (match blsOf l with
      | some bs => if decide (bs.length < szL) then R.ok (Own.sh, D.int (bs.map fun b => if b = true then (1 : Int) else 0).sum) else .no
      | none => .no)
    | _ => .no) Q := h
  rcases look_tame (env := env) (i := i) with ⟨v, e1⟩ | e1
  · rw [e1] at h
    obtain ⟨o, d, e2, rfl, ox, oy⟩ := look_ok e1
    cases d <;> try exact h.elim
    rename_i l
    have h2 : fR w W σ O (rV w O) H (match blsOf l with
      | some bs => if decide (bs.length < szL) then R.ok (Own.sh, D.int (bs.map fun b => if b = true then (1 : Int) else 0).sum) else .no
      | none => .no) Q := h
    split at h2
    case h_2 => exact h2.elim
    rename_i bs hb
    split at h2
    case isFalse => exact h2.elim
    rename_i hz
    have hz := of_decide_eq_true hz
    rw [szL_eq] at hz
    obtain ⟨v, ev, a, vs, rfl, hp, _, r2⟩ := en.get (List.mem_singleton.mpr rfl) e2 ox oy
    have el := blsOf_eq hb
    subst el
    cases Reps.bls r2
    refine ⟨a, bs, ev, SqL.of hp, hz, fun D nD => ⟨D, (bs.map fun b => bI b), rfl, ?_, ?_⟩⟩
    · rw [List.map_map]; exact SqL.of upd_same
    · exact h2 _ _ (same_new nD) (VR.sh rfl)
  · rw [e1] at h; exact h.elim
/-- f(e), e the caught exception -/
theorem sE_hcall {i : Nat} {f x : Str} {p1 p2 pos : Pos} (gd : Gd X W g w n true) (hN : X.N[i]? = some x) (hv : Vis X.env.scope x) (hd : (x == ("__debug__" : Str)) = false) (hcd : (x == ("__classdict__" : Str)) = false) (hf : g.hf f = true) (hg : Gl X f) (fd : (f == ("__debug__" : Str)) = false) :
    PE X (.Call (.Name f p1) [.Name x p2] [] pos) (tE g (cal g n) w W (.hcall f i)) := by
  by_cases hn : n = 0
  · subst hn
    refine PE.imp (t := fun _ _ _ => False) ⟨fun _ _ _ _ _ _ h => h.elim⟩ fun σ H Q ⟨env, O, dom, en, h⟩ => ?_
    have h : fR w W σ O (rV w O) H (match env[i]? with
      | some (some (.ex, .ob k ns vs)) => if (g.exf k).isSome = true then R.no else .no
      | _ => .no) Q := h
    split at h
    · split at h <;> exact h
    · exact h
  obtain ⟨m, rfl⟩ : ∃ m, n = m + 1 := ⟨n - 1, by omega⟩
  obtain ⟨fa, fdat, ps, h1, h2, h3, F⟩ := gd.hl hn f hf
  obtain ⟨p, q1, q2, q3, q4, q5⟩ := gd.hc rfl
  refine PE.imp (pe_callHG F (gd.rmH rfl hn) gd.ng q1 q2 hg h1 h2 h3 (pe_var hN hv hd hcd) fd (by rfl)) fun σ H Q ⟨env, O, dom, en, h⟩ => ?_
  have h : fR w W σ O (rV w O) H (match env[i]? with
    | some (some (.ex, .ob k ns vs)) => if (g.exf k).isSome = true then (hotR g f (.ob k ns vs)).tame else .no
    | _ => .no) Q := h
  split at h
  case h_2 => exact h.elim
  rename_i k ns vs e
  split at h
  case isFalse => exact h.elim
  obtain ⟨e1, e2⟩ := en.1.2 (i, false) (List.mem_singleton.mpr rfl) _ e
  refine ⟨.ref w.xi.a, e1, _, O, _, _, by rw [q3], q4, q5, dom, e2, ?_⟩
  cases z : hotR g f (.ob k ns vs) with
  | ok v => rw [z] at h; exact h
  | exc d => rw [z] at h; exact h.elim
  | no => rw [z] at h; exact h
theorem nm1' {x : Str} (h : nmB1 x = true) : (x == ("__debug__" : Str)) = false := by
  unfold nmB1 at h
  simpa using h
theorem nm2' {x : Str} (h : nmB2 x = true) : (x == ("__debug__" : Str)) = false ∧ (x == ("__classdict__" : Str)) = false := by
  unfold nmB2 at h
  simpa using h
theorem sE_hsmB {hot : Bool} {i j : Nat} {e : Expr} (gd : Gd X W g w n hot) (h : hsmB g X.N hot i j X.env.scope e = true) : PE X e (tE g C w W (.hsm i j)) := by
  unfold hsmB at h; split at h
  · simp only [Bool.and_eq_true, decide_eq_true_eq] at h
    obtain ⟨⟨⟨⟨⟨⟨⟨⟨⟨⟨⟨⟨⟨⟨⟨h0, h1⟩, h2⟩, h3⟩, h4⟩, h5⟩, h6⟩, h7⟩, h8⟩, h9⟩, h10⟩, h11⟩, h12⟩, h13⟩, h14⟩, h15⟩ := h
    subst h0 h1 h2 h5 h8
    unfold vrB at h15
    simp only [Bool.and_eq_true, decide_eq_true_eq] at h15
    exact sE_hsm gd h15.1.1 (visB_ok h15.1.2) (nm2' h15.2).1 (nm2' h15.2).2 (glB_ok h3) h4 h6 h7 h9 h10 h11 h12 h13 (nm2' h14).1 (nm2' h14).2
  · cases h
theorem sE_hcallB {hot : Bool} {f : Str} {i : Nat} {e : Expr} (gd : Gd X W g w n hot) (h : hcallB g X.N hot f i X.env.scope e = true) : PE X e (tE g (cal g n) w W (.hcall f i)) := by
  unfold hcallB at h; split at h
  · simp only [Bool.and_eq_true, decide_eq_true_eq] at h
    obtain ⟨⟨⟨⟨⟨h0, h1⟩, h2⟩, h3⟩, h4⟩, h5⟩ := h
    subst h0 h1
    unfold vrB at h5
    simp only [Bool.and_eq_true, decide_eq_true_eq] at h5
    exact sE_hcall gd h5.1.1 (visB_ok h5.1.2) (nm2' h5.2).1 (nm2' h5.2).2 h4 (glB_ok h2) (nm1' h3)
  · cases h
theorem hsmB_sh {hot : Bool} {N : List Str} {i j : Nat} {sc : Scope} {e : Expr} (h : hsmB g N hot i j sc e = true) : ∃ f a k p, e = .Call f a k p := by
  unfold hsmB at h; split at h
  · exact ⟨_, _, _, _, rfl⟩
  · cases h
theorem hcallB_sh {hot : Bool} {N : List Str} {f : Str} {i : Nat} {sc : Scope} {e : Expr} (h : hcallB g N hot f i sc e = true) : ∃ f a k p, e = .Call f a k p := by
  unfold hcallB at h; split at h
  · exact ⟨_, _, _, _, rfl⟩
  · cases h
end
end S2

set_option maxHeartbeats 4000000
/-! S2n: every checked expression does what the evaluator says. -/
namespace S2
open PySem PySem.Spec PyProof.Rows L2

def shB : Expr → Bool
  | .Constant _ _ _ => true
  | .Name _ _ => true
  | .BinOp _ _ _ _ => true
  | .UnaryOp _ _ _ => true
  | .BoolOp _ _ _ => true
  | .Compare _ _ _ _ => true
  | .IfExp _ _ _ _ => true
  | .Tuple _ _ _ => true
  | .List _ _ => true
  | .Subscript _ _ _ => true
  | .Attribute _ _ _ => true
  | .Call _ _ _ _ => true
  | .ListComp _ _ _ _ => true
  | _ => false
theorem okE_sh {g : G} {N : List Str} {hot : Bool} {ir : E} {e : Expr} {sc : Scope} (h : okE g N hot ir sc e = true) : shB e = true := by
  cases ir <;> unfold okE at h <;> first
    | (obtain ⟨_, _, _, _, rfl⟩ := hsmB_sh h; rfl)
    | (obtain ⟨_, _, _, _, rfl⟩ := hcallB_sh h; rfl)
    | ((repeat' split at h) <;> first | rfl | (exact absurd h Bool.false_ne_true))
theorem sh_star {e : Expr} (h : shB e = true) (es : List Expr) (env : PySem.Env) : starEach (e :: es) env = (false, eval e env) :: starEach es env := by
  cases e <;> first | rfl | (exact absurd h Bool.false_ne_true)
theorem sh_ix {e : Expr} (h : shB e = true) : PlainIx e := by
  cases e <;> first | (intro o i; rfl) | (exact absurd h Bool.false_ne_true)
theorem sh_fold {e : Expr} (h : shB e = true) (env : PySem.Env) : ∀ x, foldedSetIterable e env x = pure x := by
  cases e <;> first | (intro x; rfl) | (exact absurd h Bool.false_ne_true)
theorem okEs_plain {g : G} {N : List Str} {hot : Bool} {X : Cx} : ∀ {is : Es} {es : List Expr} {sc : Scope}, okEs g N hot is sc es = true → Plain X es
  | .nil, es, sc, h => by
    unfold okEs at h
    split at h
    · trivial
    · cases h
  | .cons a is, es, sc, h => by
    unfold okEs at h
    split at h
    · rw [Bool.and_eq_true] at h
      exact ⟨sh_star (okE_sh h.1) _ _, okEs_plain h.2⟩
    · cases h
theorem nm1 {x : Str} (h : nmB1 x = true) : (x == ("__debug__" : Str)) = false := by
  unfold nmB1 at h
  simpa using h
theorem nm2 {x : Str} (h : nmB2 x = true) : (x == ("__debug__" : Str)) = false ∧ (x == ("__classdict__" : Str)) = false := by
  unfold nmB2 at h
  simpa using h
/-- what holds of the table -/
structure Tab (g : G) (w : Wr) : Prop where
  cl : ∀ c, g.cl c = true → w.cl c = true
theorem gd_blk {X : Cx} {W : WX} {g : G} {w : Wr} {n : Nat} (gd : Gd X W g w n) (s : Shared) (H : Hp) (scope : Scope) (ce : PySem.Env) (fp : List Addr) : Gd (X.blk s H scope ce fp) Wf g w n :=
  ⟨gd.fx, gd.nd, gd.calm, gd.room, fun _ _ ⟨_, _, _, _, _, _, _, _, _, _, _, _, _, _, _, _, q⟩ => q.elim, gd.ng, (fun z => by cases z), gd.hl, (fun z => by cases z), gd.lv, fun z => by cases z⟩
theorem wrs_blk {X : Cx} {s : Shared} {H : Hp} {scope : Scope} {C : Addr} {cl : List (Str × Addr)} {fp : List Addr} : True := trivial
theorem okI_sh {g : G} {N : List Str} {hot : Bool} {ir : It} {e : Expr} {sc : Scope} (h : okI g N hot ir sc e = true) : shB e = true := by
  cases ir <;> unfold okI at h
  case it a => exact okE_sh h
  all_goals (repeat' split at h) <;> first | rfl | (exact absurd h Bool.false_ne_true)
theorem isx_tst {g : G} {C : Cal} {i : Nat} {c : Str} (env : Env) : tst g C (.isx i c) env = (ev g C (.isx i c) env).bind fun x => (truthD x.2).tame := by
  show (match env[i]? with
    | some (some (.ex, .ob k _ _)) => if (g.exf k).isSome = true then R.ok (g.sub k c) else .no
    | _ => .no) = (match env[i]? with
    | some (some (.ex, .ob k _ _)) => if (g.exf k).isSome = true then R.ok (Own.sh, D.bl (g.sub k c)) else .no
    | _ => .no).bind fun x => (truthD x.2).tame
  split
  · split <;> rfl
  · rfl
theorem sE_isx0 {X : Cx} {W : WX} {g : G} {w : Wr} {n : Nat} {hot : Bool} {C : Cal} {i : Nat} {c fn x c' : Str} {p p1 p2 pos : Pos} (gd : Gd X W g w n hot)
    (h : (hot && decide (fn = ("isinstance" : Str)) && glB X.env.scope "isinstance" && g.fr "isinstance" && decide (c' = c) && glB X.env.scope c && vrB X.N X.env.scope i x && (((g.exf c).isSome && nmB1 c) || (decide (c = Str.ofString "ValueError") && g.fr (Str.ofString "ValueError")))) = true) :
    PE X (.Call (.Name fn p) [.Name x p1, .Name c' p2] [] pos) (tE g C w W (.isx i c)) := by
  simp only [Bool.and_eq_true, decide_eq_true_eq, Bool.or_eq_true] at h
  obtain ⟨⟨⟨⟨⟨⟨⟨h1, h2⟩, h3⟩, h4⟩, h5⟩, h6⟩, h7⟩, h8⟩ := h
  subst h2; subst h5
  unfold vrB at h7
  simp only [Bool.and_eq_true, decide_eq_true_eq] at h7
  exact (gd.sx h1).isx _ _ _ _ _ _ _ _ _ h7.1.1 (visB_ok h7.1.2) (nm2 h7.2).1 (nm2 h7.2).2 (glB_ok h3) h4 (glB_ok h6) (h8.imp (fun z => ⟨z.1, nm1 z.2⟩) id)
theorem okL_ok {X : Cx} {w : Wr} {g : G} {C : Cal} {id : E} {e : Expr} (h : okL id e = true) : ∃ d v, PE X e (tC v) ∧ (∀ env, ev g C id env = .ok (.sh, d)) ∧ (∀ H O, Rep w H O d v) ∧ rd id = [] := by
  cases id with
  | int i =>
    have h : okLi i e = true := h
    unfold okLi at h; split at h
    · cases of_decide_eq_true h; exact ⟨_, _, pe_int, fun _ => rfl, fun _ _ => rfl, rfl⟩
    · cases h
  | non =>
    have h : okLn e = true := h
    unfold okLn at h; split at h
    · exact ⟨_, _, pe_non, fun _ => rfl, fun _ _ => rfl, rfl⟩
    · cases h
  | _ => cases h
theorem okEs_nil {g : G} {N : List Str} {hot : Bool} {is : Es} {sc : Scope} (h : okEs g N hot is sc [] = true) : is = .nil := by
  cases is with
  | nil => rfl
  | cons a r => unfold okEs at h; cases h
theorem sE_bmA {X : Cx} {W : WX} {g : G} {w : Wr} {C : Cal} {m : Bm} {io : E} {is : Es} {o : Expr} {l : List Expr} {apos pos : Pos} (h2 : okRc o = true) (h3 : (apos.endLine == pos.line) = true) (ho : PE X o (tE g C w W io)) (hs : PA X l (tEs g C w W is)) (hp : Plain X l) (hn : l = [] → is = .nil) (h : bmA m l = true) :
    PE X (.Call (.Attribute o (bmN m) apos) l [] pos) (tE g C w W (.bm m io is)) := by
  have hb : ∀ nm, attributeBase o nm X.env (eval o X.env) = eval o X.env := fun nm => by
    cases o <;> first | rfl | (exact absurd h2 Bool.false_ne_true)
  unfold bmA at h
  split at h
  · cases hn rfl
    exact sE_bm0 PySem.F.plainAttrs_str PySem.F.slot_str_upper PySem.F.type_str_upper bm_upper (fun v x H1 H2 O => ty_str (.inl rfl)) ho (hb _) h3
  · exact sE_bm1 PySem.F.plainAttrs_str PySem.F.slot_str_split PySem.F.type_str_split bm_split (fun v x H1 H2 O => ty_str (.inr (.inl rfl))) ho hs hp (by simp) (hb _) h3
  · exact sE_bm1 PySem.F.plainAttrs_list PySem.F.slot_list_index PySem.F.type_list_index bm_index (fun v x H1 H2 O => ty_lst) ho hs hp (by simp) (hb _) h3
  · exact sE_bm1 PySem.F.plainAttrs_str PySem.F.slot_str_index PySem.F.type_str_index bm_six (fun v x H1 H2 O => ty_str (.inr (.inr rfl))) ho hs hp (by simp) (hb _) h3
  · cases h
theorem meB_base {o : Expr} {m : Str} {env : PySem.Env} (h : meB o = true) : attributeBase o m env (eval o env) = eval o env := by
  unfold meB at h
  split at h
  · rfl
  · rfl
  · cases h
mutual
theorem sE : ∀ (ir : E) {X : Cx} {W : WX} {g : G} {w : Wr} {n : Nat} {hot : Bool} (gd : Gd X W g w n hot) (tb : Tab g w) (hu : X.A.units + 66 < cLine) {e : Expr}, okE g X.N hot ir X.env.scope e = true → PE X e (tE g (cal g n) w W ir)
  | .non, X, W, g, w, n, hot, gd, tb, hu, e, h => by
    unfold okE at h; split at h
    · exact sE_val pe_non (fun _ => rfl) fun _ _ => rfl
    · cases h
  | .bl b, X, W, g, w, n, hot, gd, tb, hu, e, h => by
    unfold okE at h; split at h
    · cases (beq_iff_eq.mp h); exact sE_val pe_bl (fun _ => rfl) fun _ _ => rfl
    · cases h
  | .int b, X, W, g, w, n, hot, gd, tb, hu, e, h => by
    unfold okE at h; split at h
    · cases (of_decide_eq_true h); exact sE_val pe_int (fun _ => rfl) fun _ _ => rfl
    · cases h
  | .str b, X, W, g, w, n, hot, gd, tb, hu, e, h => by
    unfold okE at h; split at h
    · cases (of_decide_eq_true h); exact sE_val pe_str (fun _ => rfl) fun _ _ => rfl
    · cases h
  | .var i, X, W, g, w, n, hot, gd, tb, hu, e, h => by
    unfold okE at h; split at h
    · unfold vrB at h
      simp only [Bool.and_eq_true, decide_eq_true_eq] at h
      exact sE_var h.1.1 (visB_ok h.1.2) (nm2 h.2).1 (nm2 h.2).2
    · cases h
  | .g x, X, W, g, w, n, hot, gd, tb, hu, e, h => by
    unfold okE at h; split at h
    · simp only [Bool.and_eq_true, decide_eq_true_eq] at h
      obtain ⟨⟨⟨h1, h2⟩, h3⟩, h4⟩ := h
      subst h1
      exact sE_g gd.fx (glB_ok h2) (nm1 h3) h4
    · cases h
  | .bin o a b, X, W, g, w, n, hot, gd, tb, hu, e, h => by
    unfold okE at h; split at h
    · simp only [Bool.and_eq_true, decide_eq_true_eq] at h
      obtain ⟨⟨h1, h2⟩, h3⟩ := h
      subst h1
      exact sE_bin (sE a gd tb hu h2) (sE b gd tb hu h3) gd.fx.hK o
    · cases h
  | .neg a, X, W, g, w, n, hot, gd, tb, hu, e, h => by
    unfold okE at h; split at h
    · exact sE_neg (sE a gd tb hu h)
    · cases h
  | .not a, X, W, g, w, n, hot, gd, tb, hu, e, h => by
    unfold okE at h; split at h
    · exact sE_not (sE a gd tb hu h) gd.fx.hK
    · cases h
  | .and a b, X, W, g, w, n, hot, gd, tb, hu, e, h => by
    unfold okE at h; split at h
    · rename_i x y rest pos
      rw [Bool.and_eq_true] at h
      refine sE_and (sE a gd tb hu h.1) gd.fx.hK ?_
      have q := sE b gd tb hu h.2
      cases rest with
      | nil => exact pe_one q
      | cons _ _ => exact q
    · cases h
  | .or a b, X, W, g, w, n, hot, gd, tb, hu, e, h => by
    unfold okE at h; split at h
    · rename_i x y rest pos
      rw [Bool.and_eq_true] at h
      refine sE_or (sE a gd tb hu h.1) gd.fx.hK ?_
      have q := sE b gd tb hu h.2
      cases rest with
      | nil => exact pe_one q
      | cons _ _ => exact q
    · cases h
  | .cmp o a b, X, W, g, w, n, hot, gd, tb, hu, e, h => by
    unfold okE at h; split at h
    · simp only [Bool.and_eq_true, decide_eq_true_eq, Bool.not_eq_true'] at h
      obtain ⟨⟨⟨h1, h2⟩, h3⟩, h4⟩ := h
      subst h1
      exact sE_cmp (sE a gd tb hu h3) (sE b gd tb hu h4) gd.fx.hK hu o h2
    · cases h
  | .chain o p a b c, X, W, g, w, n, hot, gd, tb, hu, e, h => by
    unfold okE at h; split at h
    · simp only [Bool.and_eq_true, decide_eq_true_eq, Bool.not_eq_true'] at h
      obtain ⟨⟨⟨⟨⟨h1, h2⟩, h3⟩, h4⟩, h5⟩, h6⟩ := h
      subst h1; subst h2
      exact sE_chain (sE a gd tb hu h4) (sE b gd tb hu h5) (sE c gd tb hu h6) gd.fx.hK hu o p h3
    · cases h
  | .ife c a b, X, W, g, w, n, hot, gd, tb, hu, e, h => by
    unfold okE at h; split at h
    · simp only [Bool.and_eq_true] at h
      exact sE_ife (sE b gd tb hu h.2) (sT c gd tb hu h.1.1).1 (sE a gd tb hu h.1.2)
    · cases h
  | .tup es, X, W, g, w, n, hot, gd, tb, hu, e, h => by
    unfold okE at h; split at h
    · exact sE_tup (sEs es gd tb hu h)
    · cases h
  | .lst es, X, W, g, w, n, hot, gd, tb, hu, e, h => by
    unfold okE at h; split at h
    · exact sE_lst (sEs es gd tb hu h)
    · cases h
  | .emp, X, W, g, w, n, hot, gd, tb, hu, e, h => by unfold okE at h; cases h
  | .ix a b, X, W, g, w, n, hot, gd, tb, hu, e, h => by
    unfold okE at h; split at h
    · rw [Bool.and_eq_true] at h
      have hb := sE b gd tb hu h.2
      have hs := sh_ix (okE_sh h.2)
      by_cases hv : ∃ i, a = .var i
      · obtain ⟨i, rfl⟩ := hv
        have h1 := h.1
        unfold okE at h1; split at h1
        · unfold vrB at h1
          simp only [Bool.and_eq_true, decide_eq_true_eq] at h1
          exact sE_ixv hb gd.fx.hK h1.1.1 (visB_ok h1.1.2) (nm2 h1.2).1 (nm2 h1.2).2 hs
        · cases h1
      · exact sE_ix (sE a gd tb hu h.1) hb gd.fx.hK hs fun i z => hv ⟨i, z⟩
    · cases h
  | .sl a lo hi, X, W, g, w, n, hot, gd, tb, hu, e, h => by
    unfold okE at h; split at h
    · simp only [Bool.and_eq_true] at h
      exact sE_sl gd.fx.hK (sE a gd tb hu h.1.1) (sO lo gd tb hu h.1.2) (sO hi gd tb hu h.2)
    · cases h
  | .fld a f, X, W, g, w, n, hot, gd, tb, hu, e, h => by
    unfold okE at h; split at h
    · simp only [Bool.and_eq_true, decide_eq_true_eq] at h
      obtain ⟨⟨h1, h2⟩, h3⟩ := h
      subst h1
      split at h3
      · unfold vrB at h3
        simp only [Bool.and_eq_true, decide_eq_true_eq] at h3
        exact sE_fldv gd.fx h2 h3.1.1 (visB_ok h3.1.2) (nm2 h3.2).1 (nm2 h3.2).2 (by rfl)
      · cases h3
    · cases h
  | .isi a b, X, W, g, w, n, hot, gd, tb, hu, e, h => by
    unfold okE at h; split at h
    · simp only [Bool.and_eq_true, decide_eq_true_eq] at h
      obtain ⟨⟨⟨⟨⟨⟨h1, h2⟩, h3⟩, h4⟩, h5⟩, h6⟩, h7⟩ := h
      subst h1; subst h4
      exact sE_isi gd.fx b (glB_ok h2) h3 (glB_ok h5) h6 (sE a gd tb hu h7) (sh_star (okE_sh h7) _ _)
    · cases h
  | .isx i c, X, W, g, w, n, hot, gd, tb, hu, e, h => by
    unfold okE at h; split at h
    · exact sE_isx0 gd h
    · cases h
  | .xfl i f, X, W, g, w, n, hot, gd, tb, hu, e, h => by
    unfold okE at h; split at h
    · simp only [Bool.and_eq_true, decide_eq_true_eq] at h
      obtain ⟨⟨⟨h1, h2⟩, h3⟩, h4⟩ := h
      subst h2
      unfold vrB at h4
      simp only [Bool.and_eq_true, decide_eq_true_eq] at h4
      exact (gd.sx h1).xfl _ _ _ _ _ _ _ h4.1.1 (visB_ok h4.1.2) (nm2 h4.2).1 (nm2 h4.2).2 h3
    · cases h
  | .hsm i j, X, W, g, w, n, hot, gd, tb, hu, e, h => by unfold okE at h; exact sE_hsmB gd h
  | .rvt a, X, W, g, w, n, hot, gd, tb, hu, e, h => by
    unfold okE at h; split at h
    · simp only [Bool.and_eq_true, decide_eq_true_eq] at h
      obtain ⟨⟨⟨⟨⟨⟨⟨h0, h1⟩, h2⟩, h3⟩, h4⟩, h5⟩, h6⟩, h7⟩ := h
      have h0 : hot = false := by simpa using h0
      subst h0 h1 h2
      exact sE_revT gd.fx (gd.calm rfl) (glB_ok h3) h4 (glB_ok h5) h6 (sE a gd tb hu h7) (by rw [sh_star (okE_sh h7), starEach_nil])
    · cases h
  | .rvl a, X, W, g, w, n, hot, gd, tb, hu, e, h => by
    unfold okE at h; split at h
    · simp only [Bool.and_eq_true, decide_eq_true_eq] at h
      obtain ⟨⟨⟨⟨⟨⟨⟨h0, h1⟩, h2⟩, h3⟩, h4⟩, h5⟩, h6⟩, h7⟩ := h
      have h0 : hot = false := by simpa using h0
      subst h0 h1 h2
      exact sE_revL gd.fx (gd.calm rfl) (glB_ok h3) h4 (glB_ok h5) h6 (sE a gd tb hu h7) (by rw [sh_star (okE_sh h7), starEach_nil])
    · cases h
  | .lsv i, X, W, g, w, n, hot, gd, tb, hu, e, h => by
    unfold okE at h; split at h
    · simp only [Bool.and_eq_true, decide_eq_true_eq] at h
      obtain ⟨⟨⟨⟨h0, h1⟩, h2⟩, h3⟩, h4⟩ := h
      subst h1
      unfold vrB at h4
      simp only [Bool.and_eq_true, decide_eq_true_eq] at h4
      exact sE_lsv gd.fx (glB_ok h2) h3 h4.1.1 (visB_ok h4.1.2) (nm2 h4.2).1 (nm2 h4.2).2
    · cases h
  | .rgt _ _, X, W, g, w, n, hot, gd, tb, hu, e, h => by unfold okE at h; cases h
  | .dl1 _ _, X, W, g, w, n, hot, gd, tb, hu, e, h => by unfold okE at h; cases h
  | .srk _ _, X, W, g, w, n, hot, gd, tb, hu, e, h => by unfold okE at h; cases h
  | .hcall f i, X, W, g, w, n, hot, gd, tb, hu, e, h => by unfold okE at h; exact sE_hcallB gd h
  | .call f es, X, W, g, w, n, hot, gd, tb, hu, e, h => by
    unfold okE at h; split at h
    · simp only [Bool.and_eq_true, decide_eq_true_eq] at h
      obtain ⟨⟨⟨⟨⟨h0, h1⟩, h2⟩, h3⟩, h4⟩, h5⟩ := h
      have h0 : hot = false := by simpa using h0
      subst h0
      subst h1
      cases es with
      | nil =>
        unfold okEs at h5; split at h5
        · exact sE_call0 gd h4 (glB_ok h2) (nm1 h3)
        · cases h5
      | cons i is =>
        have hp := okEs_plain (X := X) h5
        have hs := sEs (.cons i is) gd tb hu h5
        unfold okEs at h5; split at h5
        · exact sE_call gd h4 (glB_ok h2) (nm1 h3) hs hp
        · cases h5
    · cases h
  | .new c es, X, W, g, w, n, hot, gd, tb, hu, e, h => by
    unfold okE at h; split at h
    · simp only [Bool.and_eq_true, decide_eq_true_eq] at h
      obtain ⟨⟨⟨⟨⟨h0, h1⟩, h2⟩, h3⟩, h4⟩, h5⟩ := h
      have h0 : hot = false := by simpa using h0
      subst h0
      subst h1
      cases n with
      | zero =>
        refine PE.imp (t := fun _ _ _ => False) ⟨fun _ _ _ _ _ _ h => h.elim⟩ fun σ H Q ⟨env, O, dom, en, f⟩ => ?_
        exact f.elim
      | succ m => exact sE_new gd rfl h4 (tb.cl _ h4) (glB_ok h2) (nm1 h3) (sEs es gd tb hu h5) (okEs_plain h5)
    · cases h
  | .bi f es, X, W, g, w, n, hot, gd, tb, hu, e, h => by
    unfold okE at h; split at h
    · simp only [Bool.and_eq_true, decide_eq_true_eq, Bool.or_eq_true] at h
      obtain ⟨⟨⟨⟨⟨h0, h1⟩, h2⟩, h3⟩, h4⟩, h5⟩ := h
      subst h1
      exact sE_bi gd hu f (h0.symm.imp id fun z => gd.calm (by simpa using z)) h2 (glB_ok h3) h4 (sEs es gd tb hu h5) (okEs_plain h5)
    · split at h
      · rename_i ia id'
        simp only [Bool.and_eq_true, decide_eq_true_eq] at h
        obtain ⟨⟨⟨⟨⟨⟨⟨h0, h1⟩, h2⟩, h3⟩, h4⟩, h5⟩, h6⟩, h7⟩ := h
        subst h2 h3
        obtain ⟨d, v, k1, k2, k3, k4⟩ := okL_ok (X := X) (w := w) (g := g) (C := cal g n) h7
        exact sE_kw gd hu (gd.calm (by simpa using h0)) h1 (glB_ok h4) h5 (sE ia gd tb hu h6) k1 k2 k3 k4 (by rw [sh_star (okE_sh h6), starEach_nil])
      · cases h
    · cases h
  | .me m a es, X, W, g, w, n, hot, gd, tb, hu, e, h => by
    unfold okE at h; split at h
    · simp only [Bool.and_eq_true, decide_eq_true_eq] at h
      obtain ⟨⟨⟨⟨⟨⟨h0, h1⟩, h2⟩, h3⟩, h4⟩, h6⟩, h5⟩ := h
      have h0 : hot = false := by simpa using h0
      subst h0
      subst h1
      cases es with
      | nil =>
        unfold okEs at h5; split at h5
        · exact sE_me0 gd (sE a gd tb hu h6) (meB_base h4) h2
        · cases h5
      | cons i is =>
        have hp := okEs_plain (X := X) h5
        have hs := sEs (.cons i is) gd tb hu h5
        unfold okEs at h5; split at h5
        · exact sE_me gd (sE a gd tb hu h6) (meB_base h4) hs hp h3 h2
        · cases h5
    · cases h
  | .join z b, X, W, g, w, n, hot, gd, tb, hu, e, h => by
    unfold okE at h; split at h
    · simp only [Bool.and_eq_true, decide_eq_true_eq] at h
      obtain ⟨⟨⟨h1, h2⟩, h3⟩, h4⟩ := h
      subst h1; subst h3
      exact sE_join gd.fx.hK pe_str (sE b gd tb hu h4) (by rw [sh_star (okE_sh h4), starEach_nil]) (by rfl) h2
    · cases h
  | .bm m a es, X, W, g, w, n, hot, gd, tb, hu, e, h => by
    unfold okE at h; split at h
    · rename_i o m' apos l pos
      simp only [Bool.and_eq_true, decide_eq_true_eq] at h
      obtain ⟨⟨⟨⟨⟨h1, h2⟩, h3⟩, h4⟩, h5⟩, h6⟩ := h
      subst h1
      exact sE_bmA h2 h3 (sE a gd tb hu h4) (sEs es gd tb hu h5) (okEs_plain h5) (fun z => okEs_nil (z ▸ h5)) h6
    · cases h
  | .lc elt tg it c, X, W, g, w, n, hot, gd, tb, hu, e, h => by
    unfold okE at h; split at h
    · rename_i x t i ifs as scope p
      simp only [Bool.and_eq_true, decide_eq_true_eq] at h
      obtain ⟨⟨⟨⟨⟨⟨⟨⟨h0, h1⟩, h2⟩, h3⟩, h4⟩, h5⟩, h6⟩, h7⟩, h8⟩ := h
      have h0 : hot = false := by simpa using h0
      subst h0
      subst h1
      have hs : ∀ y, foldedSetIterable i X.env y = pure y := sh_fold (okI_sh h6) _
      refine PE.imp (pe_lc (g := gT X.K tg) (own := tgOwn tg t) (gd.calm rfl) gd.nd (sI it gd tb hu h6) (blkOk_by h2)
        (fun s H C cl fp => sG (X := X.blk s H scope (compEnvC scope cl C X.env) fp) gd.nd (gd.calm rfl) (fun x => fn_blk' x) h4 h5)
        (fun s H C cl fp => sC c (X := X.blk s H scope (compEnvC scope cl C X.env) fp) (gd_blk gd s H scope _ fp) tb hu h8)
        (fun s H C cl fp => sE elt (X := X.blk s H scope (compEnvC scope cl C X.env) fp) (gd_blk gd s H scope _ fp) tb hu h7) hs) fun σ H Q h => ?_
      rw [h3]
      have := lc_in (fun j hj => hj) (fun j hj => hj) h
      rwa [gd.fx.hK] at this
    · cases h
  | .dc _ _ _ _, X, W, g, w, n, hot, gd, tb, hu, e, h => by unfold okE at h; cases h
theorem sEs : ∀ (is : Es) {X : Cx} {W : WX} {g : G} {w : Wr} {n : Nat} {hot : Bool} (gd : Gd X W g w n hot) (tb : Tab g w) (hu : X.A.units + 66 < cLine) {es : List Expr}, okEs g X.N hot is X.env.scope es = true → PA X es (tEs g (cal g n) w W is)
  | .nil, X, W, g, w, n, hot, gd, tb, hu, es, h => by
    unfold okEs at h; split at h
    · exact sA_nil
    · cases h
  | .cons a is, X, W, g, w, n, hot, gd, tb, hu, es, h => by
    unfold okEs at h; split at h
    · rw [Bool.and_eq_true] at h
      exact sA_cons (sE a gd tb hu h.1) (sEs is gd tb hu h.2) (sh_star (okE_sh h.1) _ _)
    · cases h
theorem sO : ∀ (o : Eo) {X : Cx} {W : WX} {g : G} {w : Wr} {n : Nat} {hot : Bool} (gd : Gd X W g w n hot) (tb : Tab g w) (hu : X.A.units + 66 < cLine) {e : Option Expr}, okO g X.N hot o X.env.scope e = true → PO X e (tO g (cal g n) w W o)
  | .none, X, W, g, w, n, hot, gd, tb, hu, es, h => by
    unfold okO at h; split at h
    · exact sO_none
    · cases h
  | .some a, X, W, g, w, n, hot, gd, tb, hu, es, h => by
    unfold okO at h; split at h
    · exact sO_some (sE a gd tb hu h)
    · cases h
theorem sC : ∀ (o : Eo) {X : Cx} {g : G} {w : Wr} {n : Nat} {hot : Bool} (gd : Gd X Wf g w n hot) (tb : Tab g w) (hu : X.A.units + 66 < cLine) {e : List Expr}, okC g X.N hot o X.env.scope e = true → PTs X e (tC' g (cal g n) w o)
  | .none, X, g, w, n, hot, gd, tb, hu, es, h => by
    unfold okC at h; split at h
    · exact sC_none
    · cases h
  | .some a, X, g, w, n, hot, gd, tb, hu, es, h => by
    unfold okC at h; split at h
    · exact sC_some (sT a gd tb hu h).1
    · cases h
theorem sI : ∀ (o : It) {X : Cx} {W : WX} {g : G} {w : Wr} {n : Nat} {hot : Bool} (gd : Gd X W g w n hot) (tb : Tab g w) (hu : X.A.units + 66 < cLine) {tg e : Expr}, okI g X.N hot o X.env.scope e = true → PI X tg e (tI g (cal g n) w W o)
  | .it a, X, W, g, w, n, hot, gd, tb, hu, tg, e, h => by
    unfold okI at h
    exact sI_it gd.fx.hK (sE a gd tb hu h)
  | .rng1 a, X, W, g, w, n, hot, gd, tb, hu, tg, e, h => by
    unfold okI at h; split at h
    · simp only [Bool.and_eq_true, decide_eq_true_eq] at h
      obtain ⟨⟨⟨h1, h2⟩, h3⟩, h4⟩ := h
      subst h1
      exact sI_rng1 gd.fx (glB_ok h2) h3 (sE a gd tb hu h4) (sh_star (okE_sh h4) _ _)
    · cases h
  | .rng2 a b, X, W, g, w, n, hot, gd, tb, hu, tg, e, h => by
    unfold okI at h; split at h
    · simp only [Bool.and_eq_true, decide_eq_true_eq] at h
      obtain ⟨⟨⟨⟨h1, h2⟩, h3⟩, h4⟩, h5⟩ := h
      subst h1
      exact sI_rng2 gd.fx (glB_ok h2) h3 (sE a gd tb hu h4) (sE b gd tb hu h5) (sh_star (okE_sh h4) _ _) (sh_star (okE_sh h5) _ _)
    · cases h
  | .rng3 _ _ _, X, W, g, w, n, hot, gd, tb, hu, tg, e, h => by unfold okI at h; cases h
  | .rev a, X, W, g, w, n, hot, gd, tb, hu, tg, e, h => by
    unfold okI at h; split at h
    · simp only [Bool.and_eq_true, decide_eq_true_eq] at h
      obtain ⟨⟨⟨h1, h2⟩, h3⟩, h4⟩ := h
      subst h1
      exact sI_rev gd.fx.hK gd.fx (glB_ok h2) h3 (sE a gd tb hu h4) (sh_star (okE_sh h4) _ _)
    · cases h
  | .enum _, X, W, g, w, n, hot, gd, tb, hu, tg, e, h => by unfold okI at h; cases h
  | .items _, X, W, g, w, n, hot, gd, tb, hu, tg, e, h => by unfold okI at h; cases h
  | .vals _, X, W, g, w, n, hot, gd, tb, hu, tg, e, h => by unfold okI at h; cases h
theorem sT : ∀ (ir : E) {X : Cx} {W : WX} {g : G} {w : Wr} {n : Nat} {hot : Bool} (gd : Gd X W g w n hot) (tb : Tab g w) (hu : X.A.units + 66 < cLine) {e : Expr}, okT g X.N hot ir X.env.scope e = true → PT X e (tT g (cal g n) w W ir) ∧ (∀ op vs pos, e = .BoolOp op vs pos → PW X e (tT g (cal g n) w W ir))
  | .not a, X, W, g, w, n, hot, gd, tb, hu, e, h => by
    unfold okT at h; split at h
    · exact ⟨sT_not (sT a gd tb hu h).1, fun _ _ _ z => by cases z⟩
    · cases h
  | .and a b, X, W, g, w, n, hot, gd, tb, hu, e, h => by
    unfold okT at h; split at h
    · rename_i x y rest pos
      rw [Bool.and_eq_true] at h
      have q := sT b gd tb hu h.2
      have r : PW X (.BoolOp .And (x :: y :: rest) pos) (tT g (cal g n) w W (.and a b)) := by
        refine sT_and (sT a gd tb hu h.1).1 ?_
        cases rest with
        | nil => exact pw_and1 q.1
        | cons _ _ => exact q.2 _ _ _ rfl
      exact ⟨PW.pt r, fun _ _ _ _ => r⟩
    · cases h
  | .or a b, X, W, g, w, n, hot, gd, tb, hu, e, h => by
    unfold okT at h; split at h
    · rename_i x y rest pos
      rw [Bool.and_eq_true] at h
      have q := sT b gd tb hu h.2
      have r : PW X (.BoolOp .Or (x :: y :: rest) pos) (tT g (cal g n) w W (.or a b)) := by
        refine sT_or (sT a gd tb hu h.1).1 ?_
        cases rest with
        | nil => exact pw_or1 q.1
        | cons _ _ => exact q.2 _ _ _ rfl
      exact ⟨PW.pt r, fun _ _ _ _ => r⟩
    · cases h
  | .cmp o a b, X, W, g, w, n, hot, gd, tb, hu, e, h => by
    unfold okT at h; split at h
    · simp only [Bool.and_eq_true, decide_eq_true_eq, Bool.not_eq_true'] at h
      obtain ⟨⟨⟨h1, h2⟩, h3⟩, h4⟩ := h
      subst h1
      exact ⟨sT_cmp (sE a gd tb hu h3) (sE b gd tb hu h4) gd.fx.hK hu o h2, fun _ _ _ z => by cases z⟩
    · cases h
  | .chain o p a b c, X, W, g, w, n, hot, gd, tb, hu, e, h => by
    unfold okT at h; split at h
    · simp only [Bool.and_eq_true, decide_eq_true_eq, Bool.not_eq_true'] at h
      obtain ⟨⟨⟨⟨⟨h1, h2⟩, h3⟩, h4⟩, h5⟩, h6⟩ := h
      subst h1; subst h2
      exact ⟨sT_chain (sE a gd tb hu h4) (sE b gd tb hu h5) (sE c gd tb hu h6) gd.fx.hK hu o p h3, fun _ _ _ z => by cases z⟩
    · cases h
  | .bl b, X, W, g, w, n, hot, gd, tb, hu, e, h => by
    unfold okT at h; split at h
    · cases (beq_iff_eq.mp h)
      exact ⟨sT_val (sE_val pe_bl (fun _ => rfl) fun _ _ => rfl) gd.fx.hK (fun _ => by rfl) (fun _ => rfl), fun _ _ _ z => by cases z⟩
    · cases h
  | .var i, X, W, g, w, n, hot, gd, tb, hu, e, h => by
    unfold okT at h; split at h
    · unfold vrB at h
      simp only [Bool.and_eq_true, decide_eq_true_eq] at h
      exact ⟨sT_val (sE_var h.1.1 (visB_ok h.1.2) (nm2 h.2).1 (nm2 h.2).2) gd.fx.hK (fun _ => by rfl) (fun _ => rfl), fun _ _ _ z => by cases z⟩
    · cases h
  | .ix a b, X, W, g, w, n, hot, gd, tb, hu, e, h => by
    have q : PE X e (tE g (cal g n) w W (.ix a b)) := by
      unfold okT at h; split at h
      · rw [Bool.and_eq_true] at h
        have hb := sE b gd tb hu h.2
        have hs := sh_ix (okE_sh h.2)
        by_cases hv : ∃ i, a = .var i
        · obtain ⟨i, rfl⟩ := hv
          have h1 := h.1
          unfold okE at h1; split at h1
          · unfold vrB at h1
            simp only [Bool.and_eq_true, decide_eq_true_eq] at h1
            exact sE_ixv hb gd.fx.hK h1.1.1 (visB_ok h1.1.2) (nm2 h1.2).1 (nm2 h1.2).2 hs
          · cases h1
        · exact sE_ix (sE a gd tb hu h.1) hb gd.fx.hK hs fun i z => hv ⟨i, z⟩
      · cases h
    refine ⟨sT_val q gd.fx.hK ?_ (fun _ => rfl), fun op vs pos z => ?_⟩
    · unfold okT at h; split at h
      · intro _; rfl
      · cases h
    · subst z; unfold okT at h; cases h
  | .isi a b, X, W, g, w, n, hot, gd, tb, hu, e, h => by
    have q : PE X e (tE g (cal g n) w W (.isi a b)) := by
      unfold okT at h; split at h
      · simp only [Bool.and_eq_true, decide_eq_true_eq] at h
        obtain ⟨⟨⟨⟨⟨⟨h1, h2⟩, h3⟩, h4⟩, h5⟩, h6⟩, h7⟩ := h
        subst h1; subst h4
        exact sE_isi gd.fx b (glB_ok h2) h3 (glB_ok h5) h6 (sE a gd tb hu h7) (sh_star (okE_sh h7) _ _)
      · cases h
    refine ⟨sT_val q gd.fx.hK ?_ isi_tst, fun op vs pos z => ?_⟩
    · unfold okT at h; split at h
      · intro _; rfl
      · cases h
    · subst z; unfold okT at h; cases h
  | .isx i c, X, W, g, w, n, hot, gd, tb, hu, e, h => by
    have q : PE X e (tE g (cal g n) w W (.isx i c)) := by
      unfold okT at h; split at h
      · exact sE_isx0 gd h
      · cases h
    refine ⟨sT_val q gd.fx.hK ?_ isx_tst, fun op vs pos z => ?_⟩
    · unfold okT at h; split at h
      · intro _; rfl
      · cases h
    · subst z; unfold okT at h; cases h
  | .call f es, X, W, g, w, n, hot, gd, tb, hu, e, h => by
    have q : PE X e (tE g (cal g n) w W (.call f es)) := by
      unfold okT at h; split at h
      · simp only [Bool.and_eq_true, decide_eq_true_eq] at h
        obtain ⟨⟨⟨⟨⟨h0, h1⟩, h2⟩, h3⟩, h4⟩, h5⟩ := h
        have h0 : hot = false := by simpa using h0
        subst h0
        subst h1
        cases es with
        | nil =>
          unfold okEs at h5; split at h5
          · exact sE_call0 gd h4 (glB_ok h2) (nm1 h3)
          · cases h5
        | cons i is =>
          have hp := okEs_plain (X := X) h5
          have hs := sEs (.cons i is) gd tb hu h5
          unfold okEs at h5; split at h5
          · exact sE_call gd h4 (glB_ok h2) (nm1 h3) hs hp
          · cases h5
      · cases h
    refine ⟨sT_val q gd.fx.hK ?_ (fun _ => rfl), fun op vs pos z => ?_⟩
    · unfold okT at h; split at h
      · intro _; rfl
      · cases h
    · subst z; unfold okT at h; cases h
  | .bi f es, X, W, g, w, n, hot, gd, tb, hu, e, h => by
    have q : PE X e (tE g (cal g n) w W (.bi f es)) := by
      unfold okT at h; split at h
      · simp only [Bool.and_eq_true, decide_eq_true_eq, Bool.or_eq_true] at h
        obtain ⟨⟨⟨⟨⟨h0, h1⟩, h2⟩, h3⟩, h4⟩, h5⟩ := h
        subst h1
        exact sE_bi gd hu f (h0.symm.imp id fun z => gd.calm (by simpa using z)) h2 (glB_ok h3) h4 (sEs es gd tb hu h5) (okEs_plain h5)
      · cases h
    refine ⟨sT_val q gd.fx.hK ?_ (fun _ => rfl), fun op vs pos z => ?_⟩
    · unfold okT at h; split at h
      · intro _; rfl
      · cases h
    · subst z; unfold okT at h; cases h
  | .me m a es, X, W, g, w, n, hot, gd, tb, hu, e, h => by
    have q : PE X e (tE g (cal g n) w W (.me m a es)) := by
      unfold okT at h; split at h
      · simp only [Bool.and_eq_true, decide_eq_true_eq] at h
        obtain ⟨⟨⟨⟨⟨⟨h0, h1⟩, h2⟩, h3⟩, h4⟩, h6⟩, h5⟩ := h
        have h0 : hot = false := by simpa using h0
        subst h0
        subst h1
        cases es with
        | nil =>
          unfold okEs at h5; split at h5
          · exact sE_me0 gd (sE a gd tb hu h6) (meB_base h4) h2
          · cases h5
        | cons i is =>
          have hp := okEs_plain (X := X) h5
          have hs := sEs (.cons i is) gd tb hu h5
          unfold okEs at h5; split at h5
          · exact sE_me gd (sE a gd tb hu h6) (meB_base h4) hs hp h3 h2
          · cases h5
      · cases h
    refine ⟨sT_val q gd.fx.hK ?_ (fun _ => rfl), fun op vs pos z => ?_⟩
    · unfold okT at h; split at h
      · intro _; rfl
      · cases h
    · subst z; unfold okT at h; cases h
  | .non, X, W, g, w, n, hot, gd, tb, hu, e, h => by unfold okT at h; cases h
  | .int _, X, W, g, w, n, hot, gd, tb, hu, e, h => by unfold okT at h; cases h
  | .str _, X, W, g, w, n, hot, gd, tb, hu, e, h => by unfold okT at h; cases h
  | .g _, X, W, g, w, n, hot, gd, tb, hu, e, h => by unfold okT at h; cases h
  | .bin _ _ _, X, W, g, w, n, hot, gd, tb, hu, e, h => by unfold okT at h; cases h
  | .neg _, X, W, g, w, n, hot, gd, tb, hu, e, h => by unfold okT at h; cases h
  | .ife _ _ _, X, W, g, w, n, hot, gd, tb, hu, e, h => by unfold okT at h; cases h
  | .tup _, X, W, g, w, n, hot, gd, tb, hu, e, h => by unfold okT at h; cases h
  | .lst _, X, W, g, w, n, hot, gd, tb, hu, e, h => by unfold okT at h; cases h
  | .emp, X, W, g, w, n, hot, gd, tb, hu, e, h => by unfold okT at h; cases h
  | .sl _ _ _, X, W, g, w, n, hot, gd, tb, hu, e, h => by unfold okT at h; cases h
  | .fld _ _, X, W, g, w, n, hot, gd, tb, hu, e, h => by unfold okT at h; cases h
  | .xfl _ _, X, W, g, w, n, hot, gd, tb, hu, e, h => by unfold okT at h; cases h
  | .new _ _, X, W, g, w, n, hot, gd, tb, hu, e, h => by unfold okT at h; cases h
  | .hsm _ _, X, W, g, w, n, hot, gd, tb, hu, e, h => by unfold okT at h; cases h
  | .rvt _, X, W, g, w, n, hot, gd, tb, hu, e, h => by unfold okT at h; cases h
  | .rvl _, X, W, g, w, n, hot, gd, tb, hu, e, h => by unfold okT at h; cases h
  | .lsv _, X, W, g, w, n, hot, gd, tb, hu, e, h => by unfold okT at h; cases h
  | .rgt _ _, X, W, g, w, n, hot, gd, tb, hu, e, h => by unfold okT at h; cases h
  | .dl1 _ _, X, W, g, w, n, hot, gd, tb, hu, e, h => by unfold okT at h; cases h
  | .srk _ _, X, W, g, w, n, hot, gd, tb, hu, e, h => by unfold okT at h; cases h
  | .hcall _ _, X, W, g, w, n, hot, gd, tb, hu, e, h => by unfold okT at h; cases h
  | .bm _ _ _, X, W, g, w, n, hot, gd, tb, hu, e, h => by unfold okT at h; cases h
  | .join _ _, X, W, g, w, n, hot, gd, tb, hu, e, h => by unfold okT at h; cases h
  | .lc _ _ _ _, X, W, g, w, n, hot, gd, tb, hu, e, h => by unfold okT at h; cases h
  | .dc _ _ _ _, X, W, g, w, n, hot, gd, tb, hu, e, h => by unfold okT at h; cases h
end
end S2

set_option maxHeartbeats 4000000
/-! S2o: the slots of a def in between. -/
namespace S2
open PySem PySem.Spec PyProof.Rows L2

def SlotOk (w : Wr) (H : Hp) (P : Addr → Prop) (ow : List Addr) : Own → D → V → Prop
  | .sh, d, v => ow = [] ∧ Rep w H P d v
  | .o1, d, v => ∃ p, ow = [p] ∧ v = .ref p ∧ isLD d = true ∧ RepK w H P d v
  | .o2, d, v => ∃ p qs l, ow = p :: qs ∧ (p :: qs).Nodup ∧ d = .lst l ∧ v = .ref p ∧ H p = some (.lst (qs.map V.ref)) ∧ Kids w H P l qs
  | .oi, d, v => ∃ p c ns ds, ow = [p] ∧ d = .ob c ns ds ∧ v = .ref p ∧ RepK w H P d v
  | .ex, d, v => ow = [] ∧ v = .ref w.xi.a ∧ XR w H P w.xi.cls w.xi.dd d
/-- all that is owned -/
def Pof (P0 : Addr → Prop) (own : Nat → List Addr) : Addr → Prop := fun a => P0 a ∨ ∃ i, a ∈ own i
structure EnvS (w : Wr) (H0 : Hp) (P0 : Addr → Prop) (X0 : Addr) (H : Hp) (σ : L2.St) (env : Env) (own : Nat → List Addr) : Prop where
  len : env.length = σ.length
  same : Same H0 H
  dom0 : Dom P0 H0
  dis : ∀ i j a, a ∈ own i → a ∈ own j → i = j
  new : ∀ i a, a ∈ own i → H0 a = none
  slot : ∀ i o d, env[i]? = some (some (o, d)) → ∃ v, σ[i]? = some (some v) ∧ SlotOk w H (Pof P0 own) (own i) o d v
  emp : ∀ i, (∀ o d, env[i]? ≠ some (some (o, d))) → own i = []
  one : ∀ (i : Nat) (d : D) (v : V), env[i]? = some (some (Own.oi, d)) → σ[i]? = some (some v) → v = V.ref X0
section
variable {w : Wr} {H0 H H1 : Hp} {P0 P P' : Addr → Prop} {X0 : Addr} {σ : L2.St} {env : Env} {own : Nat → List Addr} {ow : List Addr}
theorem SlotOk.wide (s : ∀ a, P' a → P a ∨ H a = none) : ∀ {o : Own} {d : D} {v : V}, SlotOk w H P ow o d v → SlotOk w H P' ow o d v
  | .sh, _, _, ⟨e, r⟩ => ⟨e, Rep.wide s _ _ r⟩
  | .o1, _, _, ⟨p, e, e2, l, r⟩ => ⟨p, e, e2, l, RepK.wide s _ _ r⟩
  | .o2, _, _, ⟨p, qs, l, e, nd, e1, e2, h, k⟩ => ⟨p, qs, l, e, nd, e1, e2, h, k.wide s⟩
  | .oi, _, _, ⟨p, c, ns, ds, e, e1, e2, r⟩ => ⟨p, c, ns, ds, e, e1, e2, RepK.wide s _ _ r⟩
  | .ex, _, _, e => ⟨e.1, e.2.1, e.2.2.wide s⟩
theorem SlotOk.same (s : Same H H1) : ∀ {o : Own} {d : D} {v : V}, SlotOk w H P ow o d v → SlotOk w H1 P ow o d v
  | .sh, _, _, ⟨e, r⟩ => ⟨e, Rep.same s _ _ r⟩
  | .o1, _, _, ⟨p, e, e2, l, r⟩ => ⟨p, e, e2, l, RepK.same s _ _ r⟩
  | .o2, _, _, ⟨p, qs, l, e, nd, e1, e2, h, k⟩ => ⟨p, qs, l, e, nd, e1, e2, s _ _ h, k.same s⟩
  | .oi, _, _, ⟨p, c, ns, ds, e, e1, e2, r⟩ => ⟨p, c, ns, ds, e, e1, e2, RepK.same s _ _ r⟩
  | .ex, _, _, e => ⟨e.1, e.2.1, e.2.2.same s⟩
theorem EnvS.later (E : EnvS w H0 P0 X0 H σ env own) (s : Same H H1) : EnvS w H0 P0 X0 H1 σ env own :=
  ⟨E.len, E.same.trans s, E.dom0, E.dis, E.new, fun i o d e => (E.slot i o d e).imp fun _ q => ⟨q.1, q.2.same s⟩, E.emp, E.one⟩
/-- what stands at an owned address -/
def OwnObj (w : Wr) (x : Option HO) : Prop := Mut x
theorem repK_mut {d : D} {v : V} {p : Addr} (e : v = .ref p) (r : RepK w H P d v) (h : isLD d = true ∨ ∃ c ns ds, d = .ob c ns ds) : Mut (H p) := by
  rcases h with h | ⟨c, ns, ds, rfl⟩
  · cases d <;> simp only [isLD, Bool.false_eq_true] at h
    · obtain ⟨_, vs, e3, hp, _⟩ := r
      rw [e] at e3; cases e3
      rw [hp]; trivial
    · obtain ⟨_, e3, hp⟩ := r
      rw [e] at e3; cases e3
      rcases hp with ⟨_, hp, _⟩ | ⟨_, hp, _⟩ <;> (rw [hp]; trivial)
  · obtain ⟨_, dx, fs, e3, hp, _⟩ := r
    rw [e] at e3; cases e3
    rw [hp]; trivial
theorem SlotOk.muts {o : Own} {d : D} {v : V} (h : SlotOk w H P ow o d v) : ∀ a ∈ ow, Mut (H a) := by
  intro a m
  cases o with
  | sh => rw [h.1] at m; cases m
  | ex => rw [h.1] at m; cases m
  | o1 =>
    obtain ⟨p, e, e2, l, r⟩ := h
    rw [e] at m
    cases List.mem_singleton.mp m
    exact repK_mut e2 r (.inl l)
  | oi =>
    obtain ⟨p, c, ns, ds, e, e1, e2, r⟩ := h
    rw [e] at m
    cases List.mem_singleton.mp m
    exact repK_mut e2 r (.inr ⟨_, _, _, e1⟩)
  | o2 =>
    obtain ⟨p, qs, l, e, nd, e1, e2, h, k⟩ := h
    rw [e] at m
    rcases List.mem_cons.mp m with z | z
    · rw [z, h]; trivial
    · obtain ⟨us, q⟩ := k.there a z
      rw [q]; trivial
theorem EnvS.at_ (E : EnvS w H0 P0 X0 H σ env own) {i : Nat} {a : Addr} (m : a ∈ own i) : ∃ o d v, env[i]? = some (some (o, d)) ∧ σ[i]? = some (some v) ∧ SlotOk w H (Pof P0 own) (own i) o d v := by
  by_cases z : ∃ o d, env[i]? = some (some (o, d))
  · obtain ⟨o, d, e⟩ := z
    obtain ⟨v, h1, h2⟩ := E.slot i o d e
    exact ⟨o, d, v, e, h1, h2⟩
  · have := E.emp i fun o d e => z ⟨o, d, e⟩
    rw [this] at m; cases m
theorem EnvS.mut (E : EnvS w H0 P0 X0 H σ env own) {i : Nat} {a : Addr} (m : a ∈ own i) : Mut (H a) := by
  obtain ⟨o, d, v, _, _, s⟩ := E.at_ m
  exact s.muts a m
theorem EnvS.dom (E : EnvS w H0 P0 X0 H σ env own) : Dom (Pof P0 own) H := fun a z => by
  rcases z with z | ⟨i, z⟩
  · exact E.dom0.same E.same a z
  · intro e
    have := E.mut z
    rw [e] at this
    exact this
/-- an owned address is none of the caller's -/
theorem EnvS.notP0 (E : EnvS w H0 P0 X0 H σ env own) {i : Nat} {a : Addr} (m : a ∈ own i) : ¬ P0 a := fun z => E.dom0 a z (E.new i a m)

/-! ### freezing -/
theorem frzA_get (is : List (Nat × Bool)) : ∀ (env : Env) (k j : Nat), (frzA is k env)[j]? = (env[j]?).map (frzS is (k + j))
  | [], _, _ => by simp [frzA]
  | s :: r, k, 0 => by simp [frzA]
  | s :: r, k, j + 1 => by
    show (frzA is (k + 1) r)[j]? = _
    rw [frzA_get is r (k + 1) j]
    simp only [List.getElem?_cons_succ]
    rw [show k + 1 + j = k + (j + 1) by omega]
theorem frz_get {is : List (Nat × Bool)} {env : Env} {j : Nat} : (frz is env)[j]? = (env[j]?).map (frzS is j) := by
  unfold frz
  rw [frzA_get, Nat.zero_add]
theorem frzA_len (is : List (Nat × Bool)) : ∀ (env : Env) (k : Nat), (frzA is k env).length = env.length
  | [], _ => rfl
  | s :: r, k => by
    show (frzA is (k + 1) r).length + 1 = _
    rw [frzA_len is r (k + 1)]; rfl
/-- what stays owned -/
def kept (is : List (Nat × Bool)) (env : Env) (own : Nat → List Addr) (k : Nat) : List Addr := match env[k]? with
  | some (some (.o1, _)) => if is.contains (k, true) = true then [] else own k
  | some (some (.o2, _)) => if is.contains (k, true) = true then [] else if is.contains (k, false) = true then (own k).take 1 else own k
  | _ => own k
theorem kept_sub {is : List (Nat × Bool)} {k : Nat} : ∀ a ∈ kept is env own k, a ∈ own k := by
  intro a m
  unfold kept at m
  split at m
  · split at m
    · cases m
    · exact m
  · split at m
    · cases m
    · split at m
      · exact List.mem_of_mem_take m
      · exact m
  · exact m
theorem pof_kept {is : List (Nat × Bool)} : ∀ a, Pof P0 (kept is env own) a → Pof P0 own a := fun a z => z.imp id fun ⟨i, m⟩ => ⟨i, kept_sub a m⟩
theorem EnvS.frz (E : EnvS w H0 P0 X0 H σ env own) (is : List (Nat × Bool)) : EnvS w H0 P0 X0 H σ (frz is env) (kept is env own) where
  len := by unfold S2.frz; rw [frzA_len]; exact E.len
  same := E.same
  dom0 := E.dom0
  dis := fun i j a h1 h2 => E.dis i j a (kept_sub a h1) (kept_sub a h2)
  new := fun i a h => E.new i a (kept_sub a h)
  one := fun i d v e hv => by
    rw [frz_get] at e
    cases q : env[i]? with
    | none => rw [q] at e; cases e
    | some s =>
      rw [q] at e
      have e : frzS is i s = some (.oi, d) := Option.some.inj e
      have : s = some (.oi, d) := by
        cases s with
        | none => cases e
        | some od =>
          obtain ⟨o1, d1⟩ := od
          cases o1 <;> unfold frzS at e <;> (repeat' split at e) <;> cases e <;> rfl
      exact E.one i d v (by rw [q, this]) hv
  emp := fun i h => by
    have : own i = [] := E.emp i fun o d e => by
      have q : (S2.frz is env)[i]? = some (frzS is i (some (o, d))) := by rw [frz_get, e]; rfl
      have : ∃ o' d', frzS is i (some (o, d)) = some (o', d') := by
        cases o <;> unfold frzS <;> (repeat' split) <;> exact ⟨_, _, rfl⟩
      obtain ⟨o', d', q'⟩ := this
      exact h o' d' (by rw [q, q'])
    refine List.eq_nil_iff_forall_not_mem.mpr fun a m => ?_
    have := kept_sub a m
    rw [‹own i = []›] at this
    cases this
  slot := fun i o d e => by
    rw [frz_get] at e
    cases q : env[i]? with
    | none => rw [q] at e; cases e
    | some s =>
      rw [q] at e
      have e : frzS is i s = some (o, d) := Option.some.inj e
      cases s with
      | none => cases e
      | some od =>
        obtain ⟨o1, d1⟩ := od
        obtain ⟨v, hv, so⟩ := E.slot i o1 d1 q
        refine ⟨v, hv, ?_⟩
        have sub : ∀ a, Pof P0 (kept is env own) a → Pof P0 own a ∨ H a = none := fun a z => .inl (pof_kept a z)
        have none_of : ∀ a ∈ own i, kept is env own i = [] → ¬ Pof P0 (kept is env own) a := fun a m k z => by
          rcases z with z | ⟨j, z⟩
          · exact E.notP0 m z
          · have := E.dis j i a (kept_sub a z) m
            subst this
            rw [k] at z; cases z
        cases o1 with
        | sh =>
          cases e
          have : kept is env own i = own i := by unfold kept; rw [q]
          rw [this]; exact so.wide sub
        | oi =>
          cases e
          have : kept is env own i = own i := by unfold kept; rw [q]
          rw [this]; exact so.wide sub
        | ex =>
          cases e
          have : kept is env own i = own i := by unfold kept; rw [q]
          rw [this]; exact so.wide sub
        | o1 =>
          have e : (if is.contains (i, true) = true then some (Own.sh, d1) else some (Own.o1, d1)) = some (o, d) := e
          split at e
          · rename_i hc
            cases e
            have k : kept is env own i = [] := by unfold kept; rw [q]; simp only [hc, if_true]
            obtain ⟨p, e1, e2, l, r⟩ := so
            refine ⟨k, ?_⟩
            have np := none_of p (by rw [e1]; exact List.mem_singleton.mpr rfl) k
            have r := RepK.wide sub _ _ r
            subst e2
            cases d <;> simp only [isLD, Bool.false_eq_true] at l
            · obtain ⟨a', vs, e3, hp, rr⟩ := r
              cases e3
              exact ⟨p, vs, rfl, hp, np, rr⟩
            · obtain ⟨a', e3, hp⟩ := r
              cases e3
              exact ⟨p, rfl, np, hp⟩
          · rename_i hc
            cases e
            have k : kept is env own i = own i := by unfold kept; rw [q]; simp only [hc]; rfl
            rw [k]; exact so.wide sub
        | o2 =>
          have e : (if is.contains (i, true) = true then some (Own.sh, d1) else if is.contains (i, false) = true then some (Own.o1, d1) else some (Own.o2, d1)) = some (o, d) := e
          split at e
          · rename_i hc
            cases e
            have k : kept is env own i = [] := by unfold kept; rw [q]; simp only [hc, if_true]
            obtain ⟨p, qs, l, e1, nd, e2, e3, hp, ks⟩ := so
            have np : ∀ a ∈ own i, ¬ Pof P0 (kept is env own) a := fun a m => none_of a m k
            rw [e1] at np
            subst e2; subst e3
            exact ⟨k, p, _, rfl, hp, np p List.mem_cons_self, Kids.reps (fun a z => pof_kept a z) (fun a m => np a (List.mem_cons_of_mem _ m)) ks⟩
          · rename_i hc
            split at e
            · rename_i hc2
              cases e
              obtain ⟨p, qs, l, e1, nd, e2, e3, hp, ks⟩ := so
              have k : kept is env own i = [p] := by unfold kept; rw [q]; simp only [hc, hc2]; rw [e1]; rfl
              subst e2; subst e3
              refine ⟨p, k, rfl, rfl, p, _, rfl, hp, Kids.reps (fun a z => pof_kept a z) (fun a m z => ?_) ks⟩
              rcases z with z | ⟨j, z⟩
              · exact E.notP0 (i := i) (by rw [e1]; exact List.mem_cons_of_mem _ m) z
              · have := E.dis j i a (kept_sub a z) (by rw [e1]; exact List.mem_cons_of_mem _ m)
                subst this
                rw [k] at z
                cases List.mem_singleton.mp z
                exact (List.nodup_cons.mp nd).1 m
            · rename_i hc2
              cases e
              have k : kept is env own i = own i := by unfold kept; rw [q]; simp only [hc, hc2]; rfl
              rw [k]; exact so.wide sub
/-- the slots as an expression reads them -/
theorem EnvS.enter (E : EnvS w H0 P0 X0 H σ env own) (is : List (Nat × Bool)) : EnvE w H (Pof P0 (kept is env own)) σ env is := by
  refine ⟨⟨E.len, fun i m d e => ?_⟩, fun i m o d e ox oy => ?_⟩
  · have q : (S2.frz is env)[i.1]? = some (some (.ex, d)) := by rw [frz_get, e]; rfl
    obtain ⟨v, hv, so⟩ := (E.frz is).slot i.1 _ _ q
    exact ⟨by rw [hv, so.2.1], so.2.2⟩
  have q : (S2.frz is env)[i.1]? = some (frzS is i.1 (some (o, d))) := by rw [frz_get, e]; rfl
  obtain ⟨i, b⟩ := i
  have mc : is.contains (i, b) = true := by simpa using m
  have F := (E.frz is).slot i
  cases o with
  | ex => exact absurd rfl ox
  | sh =>
    obtain ⟨v, hv, so⟩ := F _ _ q
    refine ⟨v, hv, ?_⟩
    split
    · exact so.2
    · exact so.2.k
  | oi =>
    obtain ⟨v, hv, so⟩ := F _ _ q
    refine ⟨v, hv, ?_⟩
    split
    · exact absurd rfl (oy (by assumption))
    · obtain ⟨_, _, _, _, _, _, _, r⟩ := so
      exact r
  | o1 =>
    cases b with
    | true =>
      have q : (S2.frz is env)[i]? = some (some (.sh, d)) := by rw [q]; unfold frzS; simp only [mc, if_true]
      obtain ⟨v, hv, so⟩ := F _ _ q
      exact ⟨v, hv, so.2⟩
    | false =>
      by_cases hc : is.contains (i, true) = true
      · have q : (S2.frz is env)[i]? = some (some (.sh, d)) := by rw [q]; unfold frzS; simp only [hc, if_true]
        obtain ⟨v, hv, so⟩ := F _ _ q
        exact ⟨v, hv, so.2.k⟩
      · have q : (S2.frz is env)[i]? = some (some (.o1, d)) := by rw [q]; unfold frzS; simp only [hc]; rfl
        obtain ⟨v, hv, so⟩ := F _ _ q
        obtain ⟨_, _, _, _, r⟩ := so
        exact ⟨v, hv, r⟩
  | o2 =>
    cases b with
    | true =>
      have q : (S2.frz is env)[i]? = some (some (.sh, d)) := by rw [q]; unfold frzS; simp only [mc, if_true]
      obtain ⟨v, hv, so⟩ := F _ _ q
      exact ⟨v, hv, so.2⟩
    | false =>
      by_cases hc : is.contains (i, true) = true
      · have q : (S2.frz is env)[i]? = some (some (.sh, d)) := by rw [q]; unfold frzS; simp only [hc, if_true]
        obtain ⟨v, hv, so⟩ := F _ _ q
        exact ⟨v, hv, so.2.k⟩
      · have q : (S2.frz is env)[i]? = some (some (.o1, d)) := by rw [q]; unfold frzS; simp only [hc, mc]; rfl
        obtain ⟨v, hv, so⟩ := F _ _ q
        obtain ⟨_, _, _, _, r⟩ := so
        exact ⟨v, hv, r⟩
end
end S2

set_option maxHeartbeats 4000000
/-! S2p: what a statement makes of the slots. -/
namespace S2
open PySem PySem.Spec PyProof.Rows L2

section
variable {w : Wr} {H0 H H1 : Hp} {O P0 P P' : Addr → Prop} {X0 : Addr} {σ σ' : L2.St} {env env' : Env} {own : Nat → List Addr} {ow : List Addr} {v : OD} {x : V}
theorem IsLD.same (s : Same H H1) {p : Addr} (h : IsLD (H p)) : IsLD (H1 p) := by
  cases e : H p with
  | none => rw [e] at h; exact h.elim
  | some o => rw [s _ _ e, ← e]; exact h
/-- what is given up by freezing are lists and dicts -/
theorem EnvS.ld (E : EnvS w H0 P0 X0 H σ env own) {is : List (Nat × Bool)} {a : Addr} (h : Pof P0 own a) : Pof P0 (kept is env own) a ∨ IsLD (H a) := by
  rcases h with h | ⟨i, h⟩
  · exact .inl (.inl h)
  · by_cases z : a ∈ kept is env own i
    · exact .inl (.inr ⟨i, z⟩)
    · obtain ⟨o, d, v, e, _, so⟩ := E.at_ h
      cases o with
      | sh => rw [so.1] at h; cases h
      | ex => rw [so.1] at h; cases h
      | oi =>
        have : kept is env own i = own i := by unfold kept; rw [e]
        rw [this] at z
        exact absurd h z
      | o1 =>
        obtain ⟨p, e1, e2, l, r⟩ := so
        rw [e1] at h
        cases List.mem_singleton.mp h
        refine .inr ?_
        cases d <;> simp only [isLD, Bool.false_eq_true] at l
        · obtain ⟨_, vs, e3, hp, _⟩ := r
          rw [e2] at e3; cases e3
          rw [hp]; trivial
        · obtain ⟨_, e3, hp⟩ := r
          rw [e2] at e3; cases e3
          rcases hp with ⟨_, hp, _⟩ | ⟨_, hp, _⟩ <;> (rw [hp]; trivial)
      | o2 =>
        obtain ⟨p, qs, l, e1, nd, e2, e3, hp, ks⟩ := so
        rw [e1] at h
        refine .inr ?_
        rcases List.mem_cons.mp h with q | q
        · rw [q, hp]; trivial
        · obtain ⟨us, y⟩ := ks.there a q
          rw [y]; trivial
theorem any_false {α : Type} {p : α → Bool} {l : List α} (h : l.any p = false) : ∀ a ∈ l, p a = false := by
  intro a m
  cases q : p a with
  | false => rfl
  | true => rw [List.any_eq_true.mpr ⟨a, m, q⟩] at h; cases h
theorem Kids.up (s : ∀ a, P' a → P a ∨ IsLD (H a)) : ∀ {l : List D} {qs : List Addr}, (l.any fun k => hasLs (kids k)) = false → Kids w H P l qs → Kids w H P' l qs
  | [], _, _, h => h
  | d :: l, _, a, ⟨m, q, r, us, e, e2, h, hr, t⟩ => by
    subst e
    rw [List.any_cons, Bool.or_eq_false_iff] at a
    exact ⟨m, q, r, us, rfl, e2, h, Reps.up s _ _ a.1 hr, Kids.up s a.2 t⟩
theorem VR.up (hl : leaks v = false) (dom : Dom P H) (s : ∀ a, P a → O a ∨ IsLD (H1 a)) (r : VR w H H1 O v x) : VR w H H1 P v x := by
  obtain ⟨o, d⟩ := v
  obtain ⟨r1, f⟩ := r
  cases o with
  | sh => exact ⟨Rep.up s _ _ hl r1, True.intro⟩
  | oi => exact f.elim
  | ex => exact f.elim
  | o1 =>
    obtain ⟨p, e, n, l, rk⟩ := f
    have s2 : ∀ a, (P a ∨ a = p) → (O a ∨ a = p) ∨ IsLD (H1 a) := fun a z => by
      rcases z with z | z
      · exact (s a z).imp .inl id
      · exact .inl (.inr z)
    have np : ¬ P p := dom.free n
    have hl : hasLs (kids d) = false := hl
    have rk' : RepK w H1 (fun a => P a ∨ a = p) d x := by
      cases d <;> simp only [isLD, Bool.false_eq_true] at l
      · obtain ⟨a, vs, e3, hp, rr⟩ := rk
        exact ⟨a, vs, e3, hp, Reps.up s2 _ _ hl rr⟩
      · obtain ⟨a, e3, hp⟩ := rk
        exact ⟨a, e3, hp.imp (fun ⟨kvs, q, k, r⟩ => ⟨kvs, q, k, Reps.up s2 _ _ hl r⟩) (fun ⟨kvs, q, k, r⟩ => ⟨kvs, q, k, Reps.up s2 _ _ hl r⟩)⟩
    refine ⟨?_, p, e, n, l, rk'⟩
    cases d <;> simp only [isLD, Bool.false_eq_true] at l
    · obtain ⟨a, vs, e3, hp, rr⟩ := rk'
      rw [e] at e3; cases e3
      exact ⟨p, vs, e, hp, np, Reps.mono (fun a z => .inl z) _ _ rr⟩
    · obtain ⟨a, e3, hp⟩ := rk'
      rw [e] at e3; cases e3
      exact ⟨p, e, np, hp.imp (fun ⟨kvs, q, k, r⟩ => ⟨kvs, q, k, Reps.mono (fun a z => .inl z) _ _ r⟩) (fun ⟨kvs, q, k, r⟩ => ⟨kvs, q, k, Reps.mono (fun a z => .inl z) _ _ r⟩)⟩
  | o2 =>
    obtain ⟨p, qs, l, e, e2, n, hp, nd, q, ks⟩ := f
    have e : d = .lst l := e
    subst e
    have hl : (l.any fun k => hasLs (kids k)) = false := hl
    have ks' : Kids w H1 (fun a => P a ∨ a ∈ p :: qs) l qs := Kids.up (fun a z => by
      rcases z with z | z
      · exact (s a z).imp .inl id
      · exact .inl (.inr z)) hl ks
    exact ⟨⟨p, _, e2, hp, dom.free n, Kids.reps (fun a z => .inl z) (fun a m => dom.free (q a m)) ks'⟩, p, qs, l, rfl, e2, n, hp, nd, q, ks'⟩
/-- behind an expression -/
theorem EnvS.aftI (E : EnvS w H0 P0 X0 H σ env own) (is : List (Nat × Bool)) (s : Same H H1) (r : VR w H H1 (Pof P0 (kept is env own)) v x) : ∃ own1, EnvS w H0 P0 X0 H σ (aftI is v env) own1 ∧ VR w H H1 (Pof P0 own1) v x := by
  unfold S2.aftI
  split
  · exact ⟨_, E.frz is, r⟩
  · rename_i hl
    refine ⟨own, E, VR.up (by simpa using hl) E.dom (fun a z => (E.ld z).imp id fun z => IsLD.same s z) r⟩
theorem EnvS.aft (E : EnvS w H0 P0 X0 H σ env own) (e : S2.E) (s : Same H H1) (r : VR w H H1 (Pof P0 (kept (rd e) env own)) v x) : ∃ own1, EnvS w H0 P0 X0 H σ (aft e v env) own1 ∧ VR w H H1 (Pof P0 own1) v x := E.aftI (rd e) s r
/-- the value's own addresses -/
theorem VR.owned (r : VR w H H1 P v x) : ∃ ov : List Addr, (∀ a ∈ ov, H a = none) ∧ ∀ P2 : Addr → Prop, (∀ a, P2 a → P a ∨ a ∈ ov) → SlotOk w H1 P2 ov v.1 v.2 x := by
  obtain ⟨o, d⟩ := v
  obtain ⟨r1, f⟩ := r
  cases o with
  | sh => exact ⟨[], fun _ m => absurd m (by simp), fun P2 s => ⟨rfl, Rep.mono (fun a z => (s a z).elim id fun m => absurd m (by simp)) _ _ r1⟩⟩
  | oi => exact f.elim
  | ex => exact f.elim
  | o1 =>
    obtain ⟨p, e, n, l, rk⟩ := f
    exact ⟨[p], fun a m => by rw [List.mem_singleton.mp m]; exact n, fun P2 s => ⟨p, rfl, e, l, RepK.wide (fun a z => .inl ((s a z).imp id fun m => List.mem_singleton.mp m)) _ _ rk⟩⟩
  | o2 =>
    obtain ⟨p, qs, l, e, e2, n, hp, nd, q, ks⟩ := f
    refine ⟨p :: qs, fun a m => ?_, fun P2 s => ⟨p, qs, l, rfl, nd, e, e2, hp, ks.wide fun a z => .inl (s a z)⟩⟩
    rcases List.mem_cons.mp m with z | z
    · rw [z]; exact n
    · exact q a z
/-- a slot gets the value -/
theorem EnvS.set (E : EnvS w H0 P0 X0 H σ env own) (s : Same H H1) (r : VR w H H1 (Pof P0 own) v x) (i : Nat) : ∃ own2, EnvS w H0 P0 X0 H1 (σ.set i (some x)) (env.set i (some v)) own2 := by
  by_cases hi : i < env.length
  · obtain ⟨ov, hn, ok⟩ := VR.owned r
    have sub : ∀ a, Pof P0 (fun j => if j = i then ov else own j) a → Pof P0 own a ∨ a ∈ ov := fun a z => by
      rcases z with z | ⟨j, z⟩
      · exact .inl (.inl z)
      · by_cases e : j = i
        · exact .inr (by simpa only [e, if_true] using z)
        · exact .inl (.inr ⟨j, by simpa only [e, if_false] using z⟩)
    refine ⟨fun j => if j = i then ov else own j, ?_, E.same.trans s, E.dom0, fun j k a h1 h2 => ?_, fun j a h => ?_, fun j o d e => ?_, fun j h => ?_, fun j d u e hu => ?_⟩
    · rw [List.length_set, List.length_set]; exact E.len
    · have no : ∀ j, a ∈ ov → a ∈ own j → False := fun j m1 m2 => by
        have := E.mut m2
        rw [hn a m1] at this
        exact this
      by_cases e1 : j = i
      · by_cases e2 : k = i
        · rw [e1, e2]
        · simp only [e1, if_true] at h1
          simp only [e2, if_false] at h2
          exact (no k h1 h2).elim
      · by_cases e2 : k = i
        · simp only [e1, if_false] at h1
          simp only [e2, if_true] at h2
          exact (no j h2 h1).elim
        · simp only [e1, if_false] at h1
          simp only [e2, if_false] at h2
          exact E.dis j k a h1 h2
    · by_cases e1 : j = i
      · simp only [e1, if_true] at h
        exact E.same.free (hn a h)
      · simp only [e1, if_false] at h
        exact E.new j a h
    · by_cases e1 : j = i
      · subst e1
        rw [List.getElem?_set_self hi] at e
        cases e
        refine ⟨x, List.getElem?_set_self (E.len ▸ hi), ?_⟩
        simp only [if_true]
        exact ok _ sub
      · rw [List.getElem?_set_ne (Ne.symm e1)] at e
        obtain ⟨u, h1, h2⟩ := E.slot j o d e
        refine ⟨u, by rw [List.getElem?_set_ne (Ne.symm e1)]; exact h1, ?_⟩
        simp only [e1, if_false]
        exact (h2.wide fun a z => (sub a z).imp id fun m => hn a m).same s
    · by_cases e1 : j = i
      · subst e1
        exact absurd (List.getElem?_set_self hi) (h v.1 v.2)
      · simp only [e1, if_false]
        exact E.emp j fun o d e => h o d (by rw [List.getElem?_set_ne (Ne.symm e1)]; exact e)
    · by_cases e1 : j = i
      · subst e1
        rw [List.getElem?_set_self hi] at e
        cases e
        exact r.2.elim
      · rw [List.getElem?_set_ne (Ne.symm e1)] at e hu
        exact E.one j d u e hu
  · refine ⟨own, ?_⟩
    have hl := E.len
    have h1 : σ.length ≤ i := by omega
    have h2 : env.length ≤ i := by omega
    rw [List.set_eq_of_length_le h1, List.set_eq_of_length_le h2]
    exact E.later s
/-- some slots get shared values -/
theorem EnvS.put (E : EnvS w H0 P0 X0 H σ env own) {is : List Nat} (p : Put w H (Pof P0 own) is env σ env' σ') : ∃ own2, EnvS w H0 P0 X0 H σ' env' own2 := by
  have sub : ∀ a, Pof P0 (fun j => if j ∈ is then [] else own j) a → Pof P0 own a := fun a z => by
    rcases z with z | ⟨j, z⟩
    · exact .inl z
    · by_cases e : j ∈ is
      · simp only [e, if_true] at z; cases z
      · exact .inr ⟨j, by simpa only [e, if_false] using z⟩
  have sub1 : ∀ j a, a ∈ (if j ∈ is then [] else own j) → a ∈ own j := fun j a z => by
    by_cases e : j ∈ is
    · simp only [e, if_true] at z; cases z
    · simpa only [e, if_false] using z
  refine ⟨fun j => if j ∈ is then [] else own j, by rw [p.le, p.ls]; exact E.len, E.same, E.dom0, fun j k a h1 h2 => E.dis j k a (sub1 j a h1) (sub1 k a h2), fun j a h => E.new j a (sub1 j a h), fun j o d e => ?_, fun j h => ?_, fun j d u e hu => ?_⟩
  · by_cases e1 : j ∈ is
    · have hn : j < env.length := by
        have := (List.getElem?_eq_some_iff.mp e).1
        rw [p.le] at this; exact this
      obtain ⟨d', u, h1, h2, r⟩ := p.at' j e1 hn
      rw [h1] at e
      cases e
      refine ⟨u, h2, ?_⟩
      simp only [e1, if_true]
      exact ⟨rfl, Rep.mono sub _ _ r⟩
    · obtain ⟨h1, h2⟩ := p.out j e1
      rw [h1] at e
      obtain ⟨u, h3, h4⟩ := E.slot j o d e
      refine ⟨u, by rw [h2]; exact h3, ?_⟩
      simp only [e1, if_false]
      exact h4.wide fun a z => .inl (sub a z)
  · by_cases e1 : j ∈ is
    · simp only [e1, if_true]
    · simp only [e1, if_false]
      exact E.emp j fun o d e => h o d (by rw [(p.out j e1).1]; exact e)
  · by_cases e1 : j ∈ is
    · have hn : j < env.length := by
        have := (List.getElem?_eq_some_iff.mp e).1
        rw [p.le] at this; exact this
      obtain ⟨d', u', h1, h2, r⟩ := p.at' j e1 hn
      rw [h1] at e
      cases e
    · obtain ⟨h1, h2⟩ := p.out j e1
      rw [h1] at e
      rw [h2] at hu
      exact E.one j d u e hu
/-! ### written in place -/
theorem RepK.writeAt {p a : Addr} {u : HO} (op : P p) (m : Mut (H p)) (ne : a ≠ p) : ∀ {d : D}, RepK w H P d (.ref a) → RepK w (upd H p u) P d (.ref a)
  | .non, h => h
  | .bl _, h => h
  | .int _, h => h
  | .str _, h => h
  | .scr l, h => Rep.write op m (.scr l) _ h
  | .tup l, h => Rep.write op m (.tup l) _ h
  | .lst l, ⟨a', vs, e, h, r⟩ => by cases e; exact ⟨a, vs, rfl, by rw [upd_ne ne]; exact h, Reps.write op m _ _ r⟩
  | .dct _ ds, ⟨a', e, h⟩ => by
    cases e
    exact ⟨a, rfl, h.imp (fun ⟨kvs, q, k, r⟩ => ⟨kvs, by rw [upd_ne ne]; exact q, k, Reps.write op m _ _ r⟩) (fun ⟨kvs, q, k, r⟩ => ⟨kvs, by rw [upd_ne ne]; exact q, k, Reps.write op m _ _ r⟩)⟩
  | .ob _ _ ds, ⟨a', dx, fs, e, h, k, r⟩ => by cases e; exact ⟨a, dx, fs, rfl, by rw [upd_ne ne]; exact h, k, Reps.write op m _ _ r⟩
theorem SlotOk.write {p : Addr} {u : HO} (op : P p) (m : Mut (H p)) (n : p ∉ ow) : ∀ {o : Own} {d : D} {v : V}, SlotOk w H P ow o d v → SlotOk w (upd H p u) P ow o d v
  | .sh, _, _, ⟨e, r⟩ => ⟨e, Rep.write op m _ _ r⟩
  | .o1, _, _, ⟨q, e, e2, l, r⟩ => ⟨q, e, e2, l, by subst e2; exact RepK.writeAt op m (fun z => n (by rw [e, z]; exact List.mem_singleton.mpr rfl)) r⟩
  | .o2, _, _, ⟨q, qs, l, e, nd, e1, e2, h, k⟩ => ⟨q, qs, l, e, nd, e1, e2, by rw [upd_ne (fun z => n (by rw [e, z]; exact List.mem_cons_self))]; exact h, k.write op m fun z => n (by rw [e]; exact List.mem_cons_of_mem _ z)⟩
  | .oi, _, _, ⟨q, c, ns, ds, e, e1, e2, r⟩ => ⟨q, c, ns, ds, e, e1, e2, by subst e2; exact RepK.writeAt op m (fun z => n (by rw [e, z]; exact List.mem_singleton.mpr rfl)) r⟩
  | .ex, _, _, e => ⟨e.1, e.2.1, e.2.2.write op m⟩
/-- one slot's own object is written -/
theorem EnvS.writ (E : EnvS w H0 P0 X0 H σ env own) {i : Nat} {p : Addr} {u : HO} {o : Own} {d : D} (m : p ∈ own i) (oi : o = .oi → ∃ d', env[i]? = some (some (.oi, d'))) (new : ∀ x, σ[i]? = some (some x) → SlotOk w (upd H p u) (Pof P0 own) (own i) o d x) : EnvS w H0 P0 X0 (upd H p u) σ (env.set i (some (o, d))) own := by
  obtain ⟨o1, d1, v1, e1, e2, so⟩ := E.at_ m
  have hi : i < env.length := (List.getElem?_eq_some_iff.mp e1).1
  have op : Pof P0 own p := .inr ⟨i, m⟩
  have mu := E.mut m
  refine ⟨by rw [List.length_set]; exact E.len, fun b x h => ?_, E.dom0, E.dis, E.new, fun j o' d' e => ?_, fun j h => ?_, fun j d' u' e hu => ?_⟩
  · have : b ≠ p := fun z => by rw [z, E.new i p m] at h; cases h
    rw [upd_ne this]
    exact E.same _ _ h
  · by_cases z : j = i
    · subst z
      rw [List.getElem?_set_self hi] at e
      cases e
      exact ⟨v1, e2, new v1 e2⟩
    · rw [List.getElem?_set_ne (Ne.symm z)] at e
      obtain ⟨x, h1, h2⟩ := E.slot j o' d' e
      exact ⟨x, h1, h2.write op mu fun q => z (E.dis j i p q m)⟩
  · by_cases z : j = i
    · subst z
      exact absurd (List.getElem?_set_self hi) (h o d)
    · exact E.emp j fun o' d' e => h o' d' (by rw [List.getElem?_set_ne (Ne.symm z)]; exact e)
  · by_cases z : j = i
    · subst z
      rw [List.getElem?_set_self hi] at e
      cases e
      obtain ⟨d2, e2⟩ := oi rfl
      exact E.one j d2 u' e2 hu
    · rw [List.getElem?_set_ne (Ne.symm z)] at e
      exact E.one j d' u' e hu
theorem EnvS.upd1 (E : EnvS w H0 P0 X0 H σ env own) {i : Nat} {l : List D} (e : env[i]? = some (some (.o1, .lst l))) : ∃ p vs, σ[i]? = some (some (.ref p)) ∧ H p = some (.lst vs) ∧ Reps w H (Pof P0 own) l vs ∧
    ∀ l' vs', Reps w H (Pof P0 own) l' vs' → EnvS w H0 P0 X0 (upd H p (.lst vs')) σ (env.set i (some (.o1, .lst l'))) own := by
  obtain ⟨x, hx, p, e1, e2, _, r⟩ := E.slot i _ _ e
  obtain ⟨_, vs, e3, hp, rr⟩ := r
  rw [e2] at e3; cases e3
  have m : p ∈ own i := by rw [e1]; exact List.mem_singleton.mpr rfl
  refine ⟨p, vs, by rw [hx, e2], hp, rr, fun l' vs' r' => E.writ m (fun z => by cases z) fun x' hx' => ?_⟩
  rw [hx] at hx'
  cases hx'
  exact ⟨p, e1, e2, rfl, p, vs', e2, upd_same, Reps.write (.inr ⟨i, m⟩) (E.mut m) _ _ r'⟩
theorem Kids.get : ∀ {l : List D} {qs : List Addr} {n : Nat} {m : List D}, Kids w H P l qs → l[n]? = some (.lst m) → ∃ q us, qs[n]? = some q ∧ H q = some (.lst us) ∧ Reps w H P m us
  | [], _, _, _, _, h => by simp at h
  | _ :: _, _, 0, m, ⟨m', q, r, us, e, e2, h, hr, _⟩, x => by
    subst e; subst e2
    cases (show D.lst m' = .lst m from Option.some.inj x)
    exact ⟨q, us, rfl, h, hr⟩
  | _ :: _, _, n + 1, m, ⟨_, q, r, us, e, e2, _, _, t⟩, x => by
    subst e2
    exact Kids.get (n := n) t x
theorem Kids.len : ∀ {l : List D} {qs : List Addr}, Kids w H P l qs → l.length = qs.length
  | [], _, h => by rw [show _ = [] from h]; rfl
  | _ :: _, _, ⟨_, q, r, us, e, e2, _, _, t⟩ => by rw [e2, List.length_cons, List.length_cons, Kids.len t]
theorem Kids.put {m' : List D} {us' : List V} {q : Addr} (op : P q) (mu : Mut (H q)) (hr : Reps w H P m' us') : ∀ {l : List D} {qs : List Addr} {n : Nat}, qs.Nodup → Kids w H P l qs → qs[n]? = some q → Kids w (upd H q (.lst us')) P (l.set n (.lst m')) qs
  | [], _, _, _, h, x => by rw [show _ = [] from h] at x; simp at x
  | _ :: _, _, 0, nd, ⟨m, q', r, us, e, e2, h, _, t⟩, x => by
    subst e; subst e2
    cases (show q' = q from Option.some.inj x)
    exact ⟨m', _, r, us', rfl, rfl, upd_same, Reps.write op mu _ _ hr, t.write op mu (List.nodup_cons.mp nd).1⟩
  | _ :: _, _, n + 1, nd, ⟨m, q', r, us, e, e2, h, hr', t⟩, x => by
    subst e; subst e2
    have x : r[n]? = some q := x
    have ne : q' ≠ q := fun z => (List.nodup_cons.mp nd).1 (by rw [z]; exact List.mem_of_getElem? x)
    exact ⟨m, q', r, us, rfl, rfl, by rw [upd_ne ne]; exact h, Reps.write op mu _ _ hr', Kids.put op mu hr (List.nodup_cons.mp nd).2 t x⟩
theorem EnvS.upd2 (E : EnvS w H0 P0 X0 H σ env own) {i n : Nat} {l m : List D} (e : env[i]? = some (some (.o2, .lst l))) (hn : l[n]? = some (.lst m)) : ∃ (p : Addr) (qs : List Addr) (q : Addr) (us : List V), σ[i]? = some (some (.ref p)) ∧ H p = some (.lst (qs.map V.ref)) ∧ qs.length = l.length ∧ qs[n]? = some q ∧ H q = some (.lst us) ∧ Reps w H (Pof P0 own) m us ∧
    ∀ m' us', Reps w H (Pof P0 own) m' us' → EnvS w H0 P0 X0 (upd H q (.lst us')) σ (env.set i (some (.o2, .lst (l.set n (.lst m'))))) own := by
  obtain ⟨x, hx, p, qs, l', e1, nd, e2, e3, hp, ks⟩ := E.slot i _ _ e
  cases e2
  obtain ⟨q, us, hq, hq2, hr⟩ := ks.get hn
  have mq : q ∈ qs := List.mem_of_getElem? hq
  have m1 : q ∈ own i := by rw [e1]; exact List.mem_cons_of_mem _ mq
  refine ⟨p, qs, q, us, by rw [hx, e3], hp, ks.len.symm, hq, hq2, hr, fun m' us' r' => E.writ m1 (fun z => by cases z) fun x' hx' => ?_⟩
  rw [hx] at hx'
  cases hx'
  have ne : p ≠ q := fun z => (List.nodup_cons.mp nd).1 (by rw [z]; exact mq)
  exact ⟨p, qs, _, e1, nd, rfl, e3, by rw [upd_ne ne]; exact hp, Kids.put (.inr ⟨i, m1⟩) (E.mut m1) r' (List.nodup_cons.mp nd).2 ks hq⟩
theorem putF_set {f : Str} {d : D} {y : V} : ∀ {ns : List Str} {ds : List D} {fs : List (Str × V)}, fs.map (·.1) = ns → Reps w H P ds (fs.map (·.2)) → Rep w H P d y → (putF f y fs).map (·.1) = (setF f d ns ds).1 ∧ Reps w H P (setF f d ns ds).2 ((putF f y fs).map (·.2))
  | [], ds, fs, e, r, ry => by
    have : fs = [] := by cases fs <;> first | rfl | cases e
    subst this
    have : ds = [] := by cases ds <;> first | rfl | (obtain ⟨_, _, z, _⟩ := r; cases z)
    subst this
    exact ⟨rfl, y, [], rfl, ry, rfl⟩
  | n :: ns, [], fs, e, r, ry => by
    have z : fs.map (·.2) = [] := r
    have : fs = [] := by cases fs <;> first | rfl | cases z
    subst this
    cases e
  | n :: ns, x :: ds, [], e, _, _ => by cases e
  | n :: ns, x :: ds, (m, v) :: fs, e, r, ry => by
    obtain ⟨v', r', e2, h1, h2⟩ := r
    have e1 : m = n := (List.cons.inj e).1
    have e3 : fs.map (·.1) = ns := (List.cons.inj e).2
    have e4 := List.cons.inj e2
    subst e1
    by_cases z : m = f
    · have p1 : putF f y ((m, v) :: fs) = (m, y) :: fs := by show (if m = f then _ else _) = _; rw [if_pos z]
      have p2 : setF f d (m :: ns) (x :: ds) = (m :: ns, d :: ds) := by show (if m = f then _ else _) = _; rw [if_pos z]
      rw [p1, p2]
      exact ⟨by rw [List.map_cons, e3], y, fs.map (·.2), rfl, ry, by rw [show fs.map (·.2) = r' from e4.2]; exact h2⟩
    · have p1 : putF f y ((m, v) :: fs) = (m, v) :: putF f y fs := by show (if m = f then _ else _) = _; rw [if_neg z]
      have p2 : setF f d (m :: ns) (x :: ds) = (m :: (setF f d ns ds).1, x :: (setF f d ns ds).2) := by show (if m = f then _ else _) = _; rw [if_neg z]
      obtain ⟨q1, q2⟩ := putF_set (f := f) e3 (by rw [show fs.map (·.2) = r' from e4.2]; exact h2) ry
      rw [p1, p2]
      exact ⟨by rw [List.map_cons, q1], v, _, rfl, by rw [show v = v' from e4.1]; exact h1, q2⟩
theorem EnvS.updI (E : EnvS w H0 P0 X0 H σ env own) {i : Nat} {c : Str} {ns : List Str} {ds : List D} (e : env[i]? = some (some (.oi, .ob c ns ds))) : ∃ p dx fs, σ[i]? = some (some (.ref p)) ∧ H p = some (.ins (w.ca c) dx fs) ∧ w.cl c = true ∧ fs.length = ns.length ∧
    ∀ f d y, Rep w H (Pof P0 own) d y → EnvS w H0 P0 X0 (upd H p (.ins (w.ca c) dx (putF f y fs))) σ (env.set i (some (.oi, .ob c (setF f d ns ds).1 (setF f d ns ds).2))) own := by
  obtain ⟨x, hx, p, c', ns', ds', e1, e0, e2, r⟩ := E.slot i _ _ e
  cases e0
  obtain ⟨_, dx, fs, e3, hp, ⟨hc, hk⟩, rr⟩ := r
  rw [e2] at e3; cases e3
  have m : p ∈ own i := by rw [e1]; exact List.mem_singleton.mpr rfl
  refine ⟨p, dx, fs, by rw [hx, e2], hp, hc, by rw [← hk, List.length_map], fun f d y ry => E.writ m (fun _ => ⟨_, e⟩) fun x' hx' => ?_⟩
  rw [hx] at hx'
  cases hx'
  obtain ⟨q1, q2⟩ := putF_set (f := f) hk rr ry
  exact ⟨p, c, _, _, e1, rfl, e2, p, dx, _, e2, upd_same, ⟨hc, q1⟩, Reps.write (.inr ⟨i, m⟩) (E.mut m) _ _ q2⟩
/-- a value with no list in it, among all that is owned -/
theorem EnvS.flat (E : EnvS w H0 P0 X0 H σ env own) {is : List (Nat × Bool)} {d : D} (s : Same H H1) (hl : hasL d = false) (r : Rep w H1 (Pof P0 (kept is env own)) d x) : Rep w H1 (Pof P0 own) d x :=
  Rep.up (fun a z => (E.ld z).imp id fun z => IsLD.same s z) _ _ hl r
/-- a value that leaves the def -/
theorem VR.back (E : EnvS w H0 P0 X0 H σ env own) (s : Same H H1) (sub : ∀ a, P0 a → O a) (r : VR w H H1 O v x) : VR w H0 H1 P0 v x := by
  obtain ⟨o, d⟩ := v
  obtain ⟨r1, f⟩ := r
  refine ⟨Rep.mono sub _ _ r1, ?_⟩
  have sub2 : ∀ (Z : Addr → Prop) a, (P0 a ∨ Z a) → (O a ∨ Z a) ∨ H1 a = none := fun Z a z => .inl (z.imp (sub a) id)
  cases o with
  | sh => exact True.intro
  | oi => exact f.elim
  | ex => exact f.elim
  | o1 =>
    obtain ⟨p, e, n, l, rk⟩ := f
    exact ⟨p, e, E.same.free n, l, RepK.wide (sub2 _) _ _ rk⟩
  | o2 =>
    obtain ⟨p, qs, l, e, e2, n, hp, nd, q, ks⟩ := f
    exact ⟨p, qs, l, e, e2, E.same.free n, hp, nd, fun a m => E.same.free (q a m), ks.wide (sub2 _)⟩
/-- a slot's value that leaves the def -/
theorem EnvS.gone (E : EnvS w H0 P0 X0 H σ env own) {i : Nat} {o : Own} {d : D} (e : env[i]? = some (some (o, d))) (ox : o ≠ .ex) (oy : o ≠ .oi) : ∃ x, σ[i]? = some (some x) ∧ VR w H0 H P0 (o, d) x := by
  obtain ⟨x, hx, so⟩ := E.slot i o d e
  refine ⟨x, hx, ?_⟩
  have sub : ∀ a, P0 a → Pof P0 own a := fun a z => .inl z
  cases o with
  | sh => exact ⟨Rep.mono sub _ _ so.2, True.intro⟩
  | oi => exact absurd rfl oy
  | ex => exact absurd rfl ox
  | o1 =>
    obtain ⟨p, e1, e2, l, r⟩ := so
    have m : p ∈ own i := by rw [e1]; exact List.mem_singleton.mpr rfl
    have np := E.notP0 m
    have rk : RepK w H (fun a => P0 a ∨ a = p) d x := RepK.wide (fun a z => .inl (z.elim .inl fun z => .inr ⟨i, by rw [z]; exact m⟩)) _ _ r
    subst e2
    refine ⟨?_, p, rfl, E.new i p m, l, rk⟩
    cases d <;> simp only [isLD, Bool.false_eq_true] at l
    · obtain ⟨a', vs, e3, hp, rr⟩ := r
      cases e3
      exact ⟨p, vs, rfl, hp, np, Reps.mono sub _ _ rr⟩
    · obtain ⟨a', e3, hp⟩ := r
      cases e3
      exact ⟨p, rfl, np, hp.imp (fun ⟨kvs, q, k, r⟩ => ⟨kvs, q, k, Reps.mono sub _ _ r⟩) (fun ⟨kvs, q, k, r⟩ => ⟨kvs, q, k, Reps.mono sub _ _ r⟩)⟩
  | o2 =>
    obtain ⟨p, qs, l, e1, nd, e2, e3, hp, ks⟩ := so
    have m : ∀ a ∈ p :: qs, a ∈ own i := fun a h => by rw [e1]; exact h
    subst e2
    exact ⟨⟨p, _, e3, hp, E.notP0 (m p List.mem_cons_self), Kids.reps sub (fun a h => E.notP0 (m a (List.mem_cons_of_mem _ h))) ks⟩, p, qs, l, rfl, e3, E.new i p (m p List.mem_cons_self), hp, nd, fun a h => E.new i a (m a (List.mem_cons_of_mem _ h)), ks.wide fun a z => .inl (z.imp id fun z => ⟨i, m a z⟩)⟩
end
end S2

set_option maxHeartbeats 4000000
/-! S2q: one rule for each form of statement. -/
namespace S2
open PySem PySem.Spec PyProof.Rows L2

/-- a statement's end, and what is wanted of it -/
def fO (w : Wr) (W : WX) (H0 : Hp) (P0 : Addr → Prop) (X0 : Addr) (D : Ends) : Out → Prop
  | .nx env => ∀ σ H own, EnvS w H0 P0 X0 H σ env own → D.nx σ H
  | .ret o d => ∀ x H, Same H0 H → VR w H0 H P0 (o, d) x → D.rt x H
  | .brk env => ∀ σ H own, EnvS w H0 P0 X0 H σ env own → D.bk σ H
  | .ct env => ∀ σ H own, EnvS w H0 P0 X0 H σ env own → D.ct σ H
  | .exc env e => ∀ σ H own cls dd, EnvS w H0 P0 X0 H σ env own → XR w H (Pof P0 own) cls dd e → W cls dd σ H
  | .no => False
def tSt (w : Wr) (W : WX) (f : Env → Out) : TS := fun D σ H => ∃ H0 P0 X0 env own, EnvS w H0 P0 X0 H σ env own ∧ fO w W H0 P0 X0 D (f env)
abbrev tS (g : G) (C : Cal) (w : Wr) (W : WX) (s : S) : TS := tSt w W (exS g C s)
abbrev tSs (g : G) (C : Cal) (w : Wr) (W : WX) (s : Ss) : TS := tSt w W (exs g C s)
theorem PS.imp {X : Cx} {e : Stmt} {t t' : TS} (h : PS X e t) (k : ∀ D σ H, t' D σ H → t D σ H) : PS X e t' := ⟨fun pins s σ H Q I q => h.run pins s σ H Q I (k Q σ H q)⟩
theorem PSs.imp {X : Cx} {e : List Stmt} {t t' : TS} (h : PSs X e t) (k : ∀ D σ H, t' D σ H → t D σ H) : PSs X e t' := ⟨fun pins s σ H Q I q => h.run pins s σ H Q I (k Q σ H q)⟩
section
variable {X : Cx} {W : WX} {g : G} {w : Wr} {n : Nat} {C : Cal} {H0 : Hp} {P0 : Addr → Prop} {X0 : Addr} {a b e : Expr} {ia ib ie : E} {pos p : Pos}
/-- into an expression of a statement -/
theorem ev_in {α β : Type} {rel : (Addr → Prop) → Hp → Hp → α → β → Prop} {D : Ends} {σ : L2.St} {H : Hp} {env : Env} {own : Nat → List Addr} {r : Env → R α} {is : List (Nat × Bool)} {f : α → Out} {Q : β → Hp → Prop} (E : EnvS w H0 P0 X0 H σ env own) (h : fO w W H0 P0 X0 D ((r env).to is env f))
    (k : ∀ v x H1, Same H H1 → rel (Pof P0 (kept is env own)) H H1 v x → fO w W H0 P0 X0 D (f v) → Q x H1) : tF w W rel r is σ H Q := by
  refine ⟨env, Pof P0 (kept is env own), (E.frz is).dom, E.enter is, ?_⟩
  cases q : r env with
  | ok v => rw [q] at h; exact fun x H1 s1 r1 => k v x H1 s1 r1 h
  | exc d =>
    rw [q] at h
    exact fun cls dd H' s x => h σ H' _ cls dd ((E.frz is).later s) x
  | no => rw [q] at h; exact h
theorem sS_nil : PSs X [] (tSs g C w W .nil) := PSs.imp pss_nil fun D σ H ⟨H0, P0, X0, env, own, E, f⟩ => f σ H own E
theorem sS_cons {st : Stmt} {rest : List Stmt} {s : S} {ss : Ss} (h1 : PS X st (tS g C w W s)) (h2 : PSs X rest (tSs g C w W ss)) : PSs X (st :: rest) (tSs g C w W (.cons s ss)) :=
  PSs.imp (pss_cons h1 h2) fun D σ H ⟨H0, P0, X0, env, own, E, f⟩ => by
    refine ⟨H0, P0, X0, env, own, E, ?_⟩
    have f : fO w W H0 P0 X0 D (match exS g C s env with
      | .nx env' => exs g C ss env'
      | o => o) := f
    cases q : exS g C s env with
    | nx env' => rw [q] at f; exact fun σ' H' own' E' => ⟨H0, P0, X0, env', own', E', f⟩
    | ret o d => rw [q] at f; exact f
    | brk env' => rw [q] at f; exact f
    | ct env' => rw [q] at f; exact f
    | exc env' e => rw [q] at f; exact f
    | no => rw [q] at f; exact f
theorem sS_pass : PS X (.Pass pos) (tS g C w W .pass) := PS.imp ps_pass fun D σ H ⟨H0, P0, X0, env, own, E, f⟩ => f σ H own E
theorem sS_doc {x j} : PS X (.Expr (.Constant (.str x) j p) pos) (tS g C w W .doc) := PS.imp ps_doc fun D σ H ⟨H0, P0, X0, env, own, E, f⟩ => f σ H own E
theorem sS_brk : PS X (.Break pos) (tS g C w W .brk) := PS.imp ps_break fun D σ H ⟨H0, P0, X0, env, own, E, f⟩ => f σ H own E
theorem sS_cont : PS X (.Continue pos) (tS g C w W .cont) := PS.imp ps_continue fun D σ H ⟨H0, P0, X0, env, own, E, f⟩ => f σ H own E
theorem sS_retn : PS X (.Return none pos) (tS g C w W .retn) := PS.imp ps_retN fun D σ H ⟨H0, P0, X0, env, own, E, f⟩ => f .non H E.same (VR.sh rfl)
/-- name = e -/
theorem asg_in {i : Nat} {D : Ends} {σ : L2.St} {H : Hp} (h : tS g C w W (.asg i ie) D σ H) : tAsg (tE g C w W ie) (gName i) D σ H := by
  obtain ⟨H0, P0, X0, env, own, E, f⟩ := h
  refine ev_in E f fun v x H1 s1 r1 k => ?_
  obtain ⟨own1, E1, r2⟩ := E.aft ie s1 r1
  obtain ⟨own2, E2⟩ := E1.set s1 r2 i
  exact k _ _ own2 E2
theorem sS_ex (he : PE X e (tE g C w W ie)) (hs : swapsWith e none pos.line X.env = pure false) : PS X (.Expr e pos) (tS g C w W (.ex ie)) :=
  PS.imp (ps_expr he hs) fun D σ H ⟨H0, P0, X0, env, own, E, f⟩ => ev_in E f fun v x H1 s1 r1 k => k σ H1 own (E.later s1)
theorem sS_if {x y : List Stmt} {sx sy : Ss} (hc : PT X a (tT g C w W ia)) (hx : PSs X x (tSs g C w W sx)) (hy : PSs X y (tSs g C w W sy)) : PS X (.If a x y pos) (tS g C w W (.ife ia sx sy)) :=
  PS.imp (ps_if hc hx hy) fun D σ H ⟨H0, P0, X0, env, own, E, f⟩ => ev_in (rel := rI Bool) E f fun v x H1 s1 r1 k => by
    have r1 : x = v := r1
    subst r1
    cases x with
    | true => exact ⟨H0, P0, X0, env, own, E.later s1, k⟩
    | false => exact ⟨H0, P0, X0, env, own, E.later s1, k⟩
/-- (a, b) = e -/
theorem sS_tup {is : List Nat} {t : Expr} (hw : w.K = X.K) (he : PE X e (tE g C w W ie)) (hg : PG X t (gT X.K (.tp is))) (hs : swapsWithSole [t] e pos.line X.env = pure false) (hw2 : swappedStores [t] e X.env = pure none) (h1 : (assignEach [t] X.env).map (·.2) = [assign t X.env]) :
    PS X (.Assign [t] e pos) (tS g C w W (.tup is ie)) :=
  PS.imp (ps_asg he hg hs hw2 h1) fun D σ H ⟨H0, P0, X0, env, own, E, f⟩ => ev_in E f fun v x H1 s1 r1 k => by
    have r1 : VR w H H1 (Pof P0 (kept (rd ie) env own)) v x := r1
    obtain ⟨own1, E1, r2⟩ := E.aft (v := (.sh, v.2)) ie s1 (VR.sh r1.1)
    cases q : bindT (.tp is) v.2 (aft ie (.sh, v.2) env) with
    | none => rw [q] at k; exact k.elim
    | some env' =>
      rw [q] at k
      have E2 := E1.later s1
      obtain ⟨σ', gq, pu⟩ := put_tg E2.len q r2.1
      obtain ⟨own2, E3⟩ := E2.put pu
      rw [← hw]
      exact gq _ (k _ _ own2 E3)
/-- return e -/
theorem sS_ret (he : PE X e (tE g C w W ie)) (hv : ∀ i, ie ≠ .var i) : PS X (.Return (some e) pos) (tS g C w W (.ret ie)) :=
  PS.imp (ps_ret he) fun D σ H ⟨H0, P0, X0, env, own, E, f⟩ => by
    have q : exS g C (.ret ie) env = (ev g C ie env).to (rd ie) env fun v => .ret v.1 v.2 := by
      show (retV ie env (ev g C ie env)).to (rd ie) env (fun v => .ret v.1 v.2) = _
      cases ie <;> first | rfl | exact absurd rfl (hv _)
    rw [q] at f
    exact ev_in E f fun v x H1 s1 r1 k => k x H1 (E.same.trans s1) (VR.back E s1 (fun a z => .inl z) r1)
theorem sS_retv {i : Nat} {x : Str} (hN : X.N[i]? = some x) (hv : Vis X.env.scope x) (hd : (x == ("__debug__" : Str)) = false) (hcd : (x == ("__classdict__" : Str)) = false) : PS X (.Return (some (.Name x p)) pos) (tS g C w W (.ret (.var i))) :=
  PS.imp (ps_ret (pe_var hN hv hd hcd)) fun D σ H ⟨H0, P0, X0, env, own, E, f⟩ => by
    have f : fO w W H0 P0 X0 D ((match env[i]? with
      | some (some (.oi, _)) => R.no
      | some (some (.ex, _)) => .no
      | some (some (o, d)) => .ok (o, d)
      | _ => .no).to [(i, true)] env fun v => .ret v.1 v.2) := f
    split at f
    · exact f.elim
    · exact f.elim
    · rename_i o d n1 n2 e
      obtain ⟨v, hx, r⟩ := E.gone e (fun z => by subst z; exact n2 rfl) (fun z => by subst z; exact n1 rfl)
      exact ⟨v, hx, f v H E.same r⟩
    · exact f.elim
end
end S2

set_option maxHeartbeats 4000000
/-! S2r: lists and instances written, loops. -/
namespace S2
open PySem PySem.Spec PyProof.Rows L2

section
variable {X : Cx} {W : WX} {g : G} {w : Wr} {n : Nat} {C : Cal} {a b e : Expr} {ia ib ie : E} {pos p p2 : Pos}
theorem own1_ok {x : Nat} {env : Env} {o : Own} {l : List D} (h : own1 x env = some (o, l)) : env[x]? = some (some (.o1, .lst l)) := by
  unfold own1 at h
  split at h
  · rename_i l' e
    cases h
    exact e
  · cases h
theorem own2_ok {x : Nat} {env : Env} {l : List D} (h : own2 x env = some l) : env[x]? = some (some (.o2, .lst l)) := by
  unfold own2 at h
  split at h
  · rename_i l' e
    cases h
    exact e
  · cases h
theorem isL_ok {w : Wr} {H0 H : Hp} {P0 : Addr → Prop} {X0 : Addr} {σ : L2.St} {env : Env} {own : Nat → List Addr} {x : Nat} (E : EnvS w H0 P0 X0 H σ env own) (h : isL x env = true) : ∃ p vs, σ[x]? = some (some (.ref p)) ∧ H p = some (.lst vs) := by
  unfold isL at h
  split at h
  · rename_i l e
    obtain ⟨v, hv, q, e1, e2, _, r⟩ := E.slot _ _ _ e
    obtain ⟨a, vs, e3, hp, _⟩ := r
    exact ⟨a, vs, by rw [hv, e3], hp⟩
  · rename_i l e
    obtain ⟨v, hv, q, qs, l', e1, nd, e2, e3, hp, _⟩ := E.slot _ _ _ e
    exact ⟨q, _, by rw [hv, e3], hp⟩
  · cases h
theorem sS_app {i : Nat} {x : Str} {apos : Pos} (hN : X.N[i]? = some x) (hv : Vis X.env.scope x) (hd : (x == ("__debug__" : Str)) = false) (hcd : (x == ("__classdict__" : Str)) = false) (he : PE X e (tE g C w W ie)) (hp : Plain X [e]) (hl : (apos.endLine == p2.line) = true) :
    PS X (.Expr (.Call (.Attribute (.Name x p) "append" apos) [e] [] p2) pos) (tS g C w W (.app i ie)) := by
  refine PS.imp (ps_expr (pe_bm PySem.F.plainAttrs_list PySem.F.slot_list_append (by kernel_rfl) mt_append (pe_var hN hv hd hcd) (pa_cons he pa_nil hp.1) (by rfl) ?_ hl hp.1 (hp.2.any p2)) (by rfl)) fun D σ H ⟨H0, P0, X0, env, own, E, f⟩ => ?_
  · have := hp.form (pos := p2) (show 1 < 30 by decide)
    have hk : backToKw p2 (keywordEach [] X.env) = [] := by rfl
    rw [hk]
    unfold methodCallForm at this
    simpa using this
  · have f : fO w W H0 P0 X0 D (if isL i env = true then (ev g C ie env).to (rd ie) env fun v => (match own1 i (frz [(i, false)] (aft ie v env)) with
      | some (_, l) => if decide (l.length < szL) then .nx ((frz [(i, false)] (aft ie v env)).set i (some (.o1, .lst (l ++ [v.2])))) else .no
      | none => .no) else .no) := f
    split at f
    case isFalse => exact f.elim
    rename_i hi
    obtain ⟨q, vs, hq, hq2⟩ := isL_ok E hi
    refine ⟨.ref q, hq, .inl ⟨rfl, vs, SqL.of hq2⟩, ev_in E f fun v y H1 s1 r1 k => ?_⟩
    obtain ⟨own1', E1, r2⟩ := E.aft ie s1 r1
    have E2 := (E1.frz [(i, false)]).later s1
    cases z : own1 i (frz [(i, false)] (aft ie v env)) with
    | none => rw [z] at k; exact k.elim
    | some ol =>
      obtain ⟨o, l⟩ := ol
      rw [z] at k
      obtain ⟨q', vs', h1, h2, h3, mk⟩ := E2.upd1 (own1_ok z)
      rw [hq] at h1
      cases h1
      have k : fO w W H0 P0 X0 D (if decide (l.length < szL) = true then .nx ((frz [(i, false)] (aft ie v env)).set i (some (.o1, .lst (l ++ [v.2])))) else .no) := k
      split at k
      · rename_i hz
        have hz := of_decide_eq_true hz
        rw [szL_eq, h3.length] at hz
        exact ⟨q, vs', y, rfl, rfl, h2, hz, k _ _ _ (mk _ _ (Reps.append h3 (Reps.one (Rep.mono (fun a z => pof_kept a z) _ _ r2.1))))⟩
      · exact k.elim
theorem sS_rev {i : Nat} {x : Str} {apos : Pos} (hN : X.N[i]? = some x) (hv : Vis X.env.scope x) (hd : (x == ("__debug__" : Str)) = false) (hcd : (x == ("__classdict__" : Str)) = false) (hl : (apos.endLine == p2.line) = true) :
    PS X (.Expr (.Call (.Attribute (.Name x p) "reverse" apos) [] [] p2) pos) (tS g C w W (.rev i)) := by
  refine PS.imp (ps_expr (pe_bm0 PySem.F.plainAttrs_list PySem.F.slot_list_reverse (by kernel_rfl) mt_reverse (pe_var hN hv hd hcd) (by rfl) hl) (by rfl)) fun D σ H ⟨H0, P0, X0, env, own, E, f⟩ => ?_
  have f : fO w W H0 P0 X0 D (match own1 i (frz [(i, false)] env) with
    | some (_, l) => .nx ((frz [(i, false)] env).set i (some (.o1, .lst l.reverse)))
    | none => .no) := f
  have E2 := E.frz [(i, false)]
  cases z : own1 i (frz [(i, false)] env) with
  | none => rw [z] at f; exact f.elim
  | some ol =>
    obtain ⟨o, l⟩ := ol
    rw [z] at f
    obtain ⟨q, vs, h1, h2, h3, mk⟩ := E2.upd1 (own1_ok z)
    exact ⟨.ref q, h1, .inl ⟨rfl, vs, SqL.of h2⟩, q, vs, rfl, rfl, h2, f _ _ _ (mk _ _ (Reps.reverse h3))⟩
theorem EnvS.wr1 {w : Wr} {H0 H : Hp} {P0 : Addr → Prop} {X0 : Addr} {σ : L2.St} {env : Env} {own : Nat → List Addr} (E : EnvS w H0 P0 X0 H σ env own) {i : Nat} {l : List D} (e : env[i]? = some (some (.o1, .lst l))) {q : Addr} (hq : σ[i]? = some (some (.ref q))) {d : D} {v : V} {u : HO} (r : Rep w H (Pof P0 own) d v) : Rep w (upd H q u) (Pof P0 own) d v := by
  obtain ⟨x, hx, q', e1, e2, _, _⟩ := E.slot i _ _ e
  rw [hq] at hx
  cases hx
  cases e2
  have m : q ∈ own i := by rw [e1]; exact List.mem_singleton.mpr rfl
  exact Rep.write (.inr ⟨i, m⟩) (E.mut m) _ _ r
theorem sS_popd {i : Nat} {x : Str} {apos : Pos} (hN : X.N[i]? = some x) (hv : Vis X.env.scope x) (hd : (x == ("__debug__" : Str)) = false) (hcd : (x == ("__classdict__" : Str)) = false) (hl : (apos.endLine == p2.line) = true) :
    PS X (.Expr (.Call (.Attribute (.Name x p) "pop" apos) [] [] p2) pos) (tS g C w W (.popd i .none)) := by
  refine PS.imp (ps_expr (pe_bm0 PySem.F.plainAttrs_list PySem.F.slot_list_pop (by kernel_rfl) mt_pop (pe_var hN hv hd hcd) (by rfl) hl) (by rfl)) fun D σ H ⟨H0, P0, X0, env, own, E, f⟩ => ?_
  have f : fO w W H0 P0 X0 D (match own1 i env with
    | some (_, l) => if l.isEmpty = true then .no else .nx (env.set i (some (.o1, .lst l.dropLast)))
    | none => .no) := f
  cases z : own1 i env with
  | none => rw [z] at f; exact f.elim
  | some ol =>
    obtain ⟨o, l⟩ := ol
    rw [z] at f
    have f : fO w W H0 P0 X0 D (if l.isEmpty = true then .no else .nx (env.set i (some (.o1, .lst l.dropLast)))) := f
    split at f
    · exact f.elim
    rename_i hl
    obtain ⟨q, vs, h1, h2, h3, mk⟩ := E.upd1 (own1_ok z)
    have hne : vs ≠ [] := fun e => hl (by
      rw [e] at h3
      have := h3.length
      rw [List.length_nil] at this
      rw [List.length_eq_zero_iff.mp this]; rfl)
    have hlt : vs.length - 1 < vs.length := Nat.sub_lt (List.length_pos_iff.mpr hne) Nat.one_pos
    exact ⟨.ref q, h1, .inl ⟨rfl, vs, SqL.of h2⟩, q, vs, vs[vs.length - 1], rfl, rfl, h2, List.getElem?_eq_getElem hlt, f _ _ _ (mk _ _ (by rw [List.dropLast_eq_take, List.dropLast_eq_take, ← h3.length]; exact Reps.take _ h3))⟩
theorem sS_appop {i j : Nat} {x y : Str} {apos bpos p3 p4 : Pos} (hN : X.N[i]? = some x) (hv : Vis X.env.scope x) (hd : (x == ("__debug__" : Str)) = false) (hcd : (x == ("__classdict__" : Str)) = false)
    (hN2 : X.N[j]? = some y) (hv2 : Vis X.env.scope y) (hd2 : (y == ("__debug__" : Str)) = false) (hcd2 : (y == ("__classdict__" : Str)) = false) (he : PE X e (tE g C w W ie)) (hp : Plain X [e]) (hl : (apos.endLine == p2.line) = true) (hl2 : (bpos.endLine == p4.line) = true) :
    PS X (.Expr (.Call (.Attribute (.Name x p) "append" apos) [.Call (.Attribute (.Name y p3) "pop" bpos) [e] [] p4] [] p2) pos) (tS g C w W (.appop i j (.some ie))) := by
  have form : ∀ {e : Expr} {p2 : Pos}, Plain X [e] → ((backTo p2 (starEach [e] X.env)).all (fun x => !x.1) && (backToKw p2 (keywordEach [] X.env)).all (fun x => x.1.isSome) && decide ([e].length + ([] : List Keyword).length + (if ([] : List Keyword).isEmpty then 0 else 1) < 30)) = true := fun {e p2} hp => by
    have := hp.form (pos := p2) (show 1 < 30 by decide)
    have hk : backToKw p2 (keywordEach [] X.env) = [] := by rfl
    rw [hk]
    unfold methodCallForm at this
    simpa using this
  have hq : PE X (.Call (.Attribute (.Name y p3) "pop" bpos) [e] [] p4) _ := pe_bm PySem.F.plainAttrs_list PySem.F.slot_list_pop (by kernel_rfl) mt_popAt (pe_var hN2 hv2 hd2 hcd2) (pa_cons he pa_nil hp.1) (by rfl) (form hp) hl2 hp.1 (hp.2.any p4)
  have hs2 : starEach [.Call (.Attribute (.Name y p3) "pop" bpos) [e] [] p4] X.env = (false, eval (.Call (.Attribute (.Name y p3) "pop" bpos) [e] [] p4) X.env) :: starEach [] X.env := by rfl
  have hp2 : Plain X [.Call (.Attribute (.Name y p3) "pop" bpos) [e] [] p4] := ⟨hs2, trivial⟩
  refine PS.imp (ps_expr (pe_bm PySem.F.plainAttrs_list PySem.F.slot_list_append (by kernel_rfl) mt_append (pe_var hN hv hd hcd) (pa_cons hq pa_nil hs2) (by rfl) (form hp2) hl hs2 (hp2.2.any p2)) (by rfl)) fun D σ H ⟨H0, P0, X0, env, own, E, f⟩ => ?_
  have f : fO w W H0 P0 X0 D (if (isL i env && isL j env) = true then (ev g C ie env).to (rd ie) env fun k => popA i j k.2 (frz [(i, false), (j, false)] (aft ie k env)) else .no) := f
  split at f
  case isFalse => exact f.elim
  rename_i hi
  rw [Bool.and_eq_true] at hi
  obtain ⟨q, vs, hq1, hq2⟩ := isL_ok E hi.1
  obtain ⟨qy, vy, hy1, hy2⟩ := isL_ok E hi.2
  refine ⟨.ref q, hq1, .inl ⟨rfl, vs, SqL.of hq2⟩, .ref qy, hy1, .inl ⟨rfl, vy, SqL.of hy2⟩, ev_in E f fun k yv H1 s1 r1 f1 => ?_⟩
  obtain ⟨own1', E1, r2⟩ := E.aft ie s1 r1
  have E2 := (E1.frz [(i, false), (j, false)]).later s1
  obtain ⟨ko, kd⟩ := k
  cases kd <;> try exact f1.elim
  rename_i jj
  obtain rfl : yv = .int jj := r1.1
  generalize frz [(i, false), (j, false)] (aft ie (ko, .int jj) env) = env2 at f1 E2
  have f1 : fO w W H0 P0 X0 D (popA i j (.int jj) env2) := f1
  unfold popA at f1
  cases z1 : own1 j env2 with
  | none => simp only [z1] at f1; exact f1.elim
  | some ol =>
    obtain ⟨o, l⟩ := ol
    simp only [z1] at f1
    cases z2 : L2.ixN l.length jj with
    | none => simp only [z2] at f1; exact f1.elim
    | some m =>
      simp only [z2] at f1
      cases z3 : l[m]? with
      | none => simp only [z3] at f1; exact f1.elim
      | some d =>
        simp only [z3] at f1
        obtain ⟨q', vs', h1, h2, h3, mk⟩ := E2.upd1 (own1_ok z1)
        rw [hy1] at h1
        cases h1
        have E3 := mk (l.eraseIdx m) (vs'.eraseIdx m) (Reps.erase m h3)
        obtain ⟨dv, hd1, hd2⟩ := Reps.get h3 z3
        cases z4 : own1 i (env2.set j (some (.o1, .lst (l.eraseIdx m)))) with
        | none => simp only [z4] at f1; exact f1.elim
        | some ol =>
          obtain ⟨o2, l2⟩ := ol
          simp only [z4] at f1
          split at f1
          case isFalse => exact f1.elim
          rename_i hz
          simp only [Bool.and_eq_true, decide_eq_true_eq] at hz
          obtain ⟨q2, us, g1, g2, g3, mk2⟩ := E3.upd1 (own1_ok z4)
          rw [hq1] at g1
          cases g1
          obtain ⟨b1, b2⟩ := absLe_ok hz.2
          have hz1 := hz.1
          rw [szL_eq, g3.length] at hz1
          refine ⟨qy, vs', jj, m, dv, rfl, rfl, h2, by omega, by omega, ?_, hd1, q, us, dv, rfl, rfl, g2, hz1, f1 _ _ _ (mk2 _ _ (Reps.append g3 (Reps.one ?_)))⟩
          · rw [← h3.length]; exact (ixN_seq z2).1
          · exact E2.wr1 (own1_ok z1) hy1 hd2
theorem sS_appat {i : Nat} {x : Str} {apos p3 : Pos} (hN : X.N[i]? = some x) (hv : Vis X.env.scope x) (hd : (x == ("__debug__" : Str)) = false) (hcd : (x == ("__classdict__" : Str)) = false) (ha : PE X a (tE g C w W ia)) (hix : PlainIx a) (he : PE X e (tE g C w W ie)) (hp : Plain X [e]) (hl : (apos.endLine == p2.line) = true) :
    PS X (.Expr (.Call (.Attribute (.Subscript (.Name x p) a p3) "append" apos) [e] [] p2) pos) (tS g C w W (.appat i ia ie)) := by
  refine PS.imp (ps_expr (pe_bm PySem.F.plainAttrs_list PySem.F.slot_list_append (by kernel_rfl) mt_append (pe_ix ix_list (pe_var hN hv hd hcd) ha hix) (pa_cons he pa_nil hp.1) (by rfl) ?_ hl hp.1 (hp.2.any p2)) (by rfl)) fun D σ H ⟨H0, P0, X0, env, own, E, f⟩ => ?_
  · have := hp.form (pos := p2) (show 1 < 30 by decide)
    have hk : backToKw p2 (keywordEach [] X.env) = [] := by rfl
    rw [hk]
    unfold methodCallForm at this
    simpa using this
  · cases z : own2 i env with
    | none =>
      have f : fO w W H0 P0 X0 D (exS g C (.appat i ia ie) env) := f
      unfold exS at f
      rw [z] at f; exact f.elim
    | some l =>
      have f : fO w W H0 P0 X0 D (exS g C (.appat i ia ie) env) := f
      unfold exS at f
      rw [z] at f
      have e0 := own2_ok z
      obtain ⟨v0, hv0, q0, qs0, l0, e1, nd, e2, e3, hp0, ks0⟩ := E.slot _ _ _ e0
      cases e2
      refine ⟨v0, hv0, ev_in E f fun k y H1 s1 r1 f1 => ?_⟩
      obtain ⟨ko, kd⟩ := k
      cases kd <;> try exact f1.elim
      rename_i j
      have ry : y = .int j := r1.1
      have f1 : fO w W H0 P0 X0 D (match L2.ixN l.length j with
        | some n => (match l[n]? with
          | some (.lst m) => (ev g C ie env).to (rd ie) env fun v => (match own2 i (aft ie v env) with
            | some l2 => (match l2[n]? with
              | some (.lst m2) => if decide (m2.length < szL) then .nx ((aft ie v env).set i (some (.o2, .lst (l2.set n (.lst (m2 ++ [v.2])))))) else .no
              | _ => .no)
            | none => .no)
          | _ => .no)
        | none => .no) := f1
      cases hn : L2.ixN l.length j with
      | none => rw [hn] at f1; exact f1.elim
      | some n =>
        rw [hn] at f1
        have f1 : fO w W H0 P0 X0 D (match l[n]? with
          | some (.lst m) => (ev g C ie env).to (rd ie) env fun v => (match own2 i (aft ie v env) with
            | some l2 => (match l2[n]? with
              | some (.lst m2) => if decide (m2.length < szL) then .nx ((aft ie v env).set i (some (.o2, .lst (l2.set n (.lst (m2 ++ [v.2])))))) else .no
              | _ => .no)
            | none => .no)
          | _ => .no) := f1
        split at f1
        case h_2 => exact f1.elim
        rename_i m hm
        obtain ⟨q, us, hq, hq2, hr⟩ := ks0.get hm
        have hat : L2.atI (qs0.map V.ref) j = some (.ref q) := by
          unfold L2.atI
          rw [List.length_map, ← ks0.len, hn]
          show (qs0.map V.ref)[n]? = _
          rw [List.getElem?_map, hq]; rfl
        refine ⟨q0, qs0.map V.ref, j, .ref q, e3, ry, SqL.of (s1 _ _ hp0), hat, .inl ⟨rfl, us, SqL.of (s1 _ _ hq2)⟩, ?_⟩
        have E1 := E.later s1
        refine ev_in E1 f1 fun v u H2 s2 r2 f2 => ?_
        obtain ⟨own', E2, r3⟩ := E1.aft ie s2 r2
        have E3 := E2.later s2
        cases z2 : own2 i (aft ie v env) with
        | none => rw [z2] at f2; exact f2.elim
        | some l2 =>
          rw [z2] at f2
          have f2 : fO w W H0 P0 X0 D (match l2[n]? with
              | some (.lst m2) => if decide (m2.length < szL) then .nx ((aft ie v env).set i (some (.o2, .lst (l2.set n (.lst (m2 ++ [v.2])))))) else .no
              | _ => .no) := f2
          split at f2
          case h_2 => exact f2.elim
          rename_i m2 hm2
          obtain ⟨p', qs', q', us', g1, g2, g3, g4, g5, g6, mk⟩ := E3.upd2 (own2_ok z2) hm2
          rw [hv0, e3] at g1
          cases g1
          have hh := s2 _ _ (s1 _ _ hp0)
          rw [hh] at g2
          have eq : qs0 = qs' := by
            have e : qs0.map V.ref = qs'.map V.ref := by injection g2 with g2; injection g2
            exact List.map_inj_right (fun a b h => by cases h; rfl) |>.mp e
          subst eq
          rw [hq] at g4
          cases g4
          split at f2
          · rename_i hz
            have hz := of_decide_eq_true hz
            rw [szL_eq, g6.length] at hz
            exact ⟨q, us', u, rfl, rfl, g5, hz, f2 _ _ _ (mk _ _ (Reps.append g6 (Reps.one r3.1)))⟩
          · exact f2.elim
theorem sub_shape {o a : Expr} {p2 : Pos} (h : shB a = true) (env : PySem.Env) : ∀ v, assign (.Subscript o a p2) env v = (do
      let ov ← holding [v] (eval o env)
      let iv ← holding [v, ov] (eval a env)
      standAt p2
      holding [v, ov, iv] (setItem ov iv v)
      release [v, ov, iv] []) := by
  cases a <;> first | (intro v; rfl) | (exact absurd h Bool.false_ne_true)
/-- x[i] = e -/
theorem sS_asgix {i : Nat} {x : Str} (hN : X.N[i]? = some x) (hv : Vis X.env.scope x) (hd : (x == ("__debug__" : Str)) = false) (hcd : (x == ("__classdict__" : Str)) = false) (ha : PE X a (tE g C w W ia)) (hsh : shB a = true) (he : PE X e (tE g C w W ie)) (hs : swapsWithSole [.Subscript (.Name x p) a p2] e pos.line X.env = pure false) (hw : swappedStores [.Subscript (.Name x p) a p2] e X.env = pure none) :
    PS X (.Assign [.Subscript (.Name x p) a p2] e pos) (tS g C w W (.asgix i ia ie)) :=
  PS.imp (ps_asg he (pg_sub (pe_var hN hv hd hcd) ha set_list (sub_shape hsh _)) hs hw) fun D σ H ⟨H0, P0, X0, env, own, E, h⟩ => by
    have h : fO w W H0 P0 X0 D ((ev g C ie env).to (rd ie) env fun v => if isL i (aft ie v env) = true then (ev g C ia (aft ie v env)).to (rd ia) (aft ie v env) fun k => (match k.2 with
      | .int j => (match own1 i (frz [(i, false)] (aft ie v env)) with
        | some (_, l) => (match L2.ixN l.length j with
          | some n => .nx ((frz [(i, false)] (aft ie v env)).set i (some (.o1, .lst (l.set n v.2))))
          | none => .no)
        | none => .no)
      | _ => .no) else .no) := h
    refine ev_in E h fun v y H1 s1 r1 k => ?_
    obtain ⟨own', E1, r2⟩ := E.aft ie s1 r1
    have E2 := E1.later s1
    split at k
    case isFalse => exact k.elim
    rename_i hi
    obtain ⟨q, vs, hq, hq2⟩ := isL_ok E2 hi
    refine ⟨.ref q, hq, ev_in E2 k fun u z H2 s2 r3 f => ?_⟩
    obtain ⟨uo, ud⟩ := u
    cases ud <;> try exact f.elim
    rename_i j
    have rz : z = .int j := r3.1
    have E3 := (E2.frz [(i, false)]).later s2
    have f : fO w W H0 P0 X0 D (match own1 i (frz [(i, false)] (aft ie v env)) with
        | some (_, l) => (match L2.ixN l.length j with
          | some n => .nx ((frz [(i, false)] (aft ie v env)).set i (some (.o1, .lst (l.set n v.2))))
          | none => .no)
        | none => .no) := f
    cases zo : own1 i (frz [(i, false)] (aft ie v env)) with
    | none => rw [zo] at f; exact f.elim
    | some ol =>
      obtain ⟨o, l⟩ := ol
      rw [zo] at f
      obtain ⟨q', vs', h1, h2, h3, mk⟩ := E3.upd1 (own1_ok zo)
      rw [hq] at h1
      cases h1
      have f : fO w W H0 P0 X0 D (match L2.ixN l.length j with
          | some n => .nx ((frz [(i, false)] (aft ie v env)).set i (some (.o1, .lst (l.set n v.2))))
          | none => .no) := f
      cases hn : L2.ixN l.length j with
      | none => rw [hn] at f; exact f.elim
      | some n =>
        rw [hn] at f
        exact ⟨q, vs', j, n, rfl, rz, h2, by rw [← h3.length]; exact hn, f _ _ _ (mk _ _ (Reps.set n h3 (Rep.mono (fun a z => pof_kept a z) _ _ (Rep.same s2 _ _ r2.1))))⟩
/-- self.f = e -/
theorem sS_fld {i : Nat} {x f : Str} (fx : Fx X.K X.mg g w) (hf : g.nf f = true) (hN : X.N[i]? = some x) (hv : Vis X.env.scope x) (hd : (x == ("__debug__" : Str)) = false) (hcd : (x == ("__classdict__" : Str)) = false) (he : PE X e (tE g C w W ie)) (hs : swapsWith e (some (.Attribute (.Name x p) f p2)) pos.line X.env = pure false) :
    PS X (.Assign [.Attribute (.Name x p) f p2] e pos) (tS g C w W (.fld i f ie)) :=
  PS.imp (ps_fld (pe_var hN hv hd hcd) he hs) fun D σ H ⟨H0, P0, X0, env, own, E, h⟩ => by
    refine ev_in E h fun v y H1 s1 r1 k => ?_
    obtain ⟨own', E1, r2⟩ := E.aft ie s1 r1
    have E2 := E1.later s1
    have k : fO w W H0 P0 X0 D (match (aft ie v env)[i]? with
      | some (some (.oi, .ob c ns vs)) => if decide (ns.length < 900) then .nx ((aft ie v env).set i (some (.oi, .ob c (setF f v.2 ns vs).1 (setF f v.2 ns vs).2))) else .no
      | _ => .no) := k
    split at k
    case h_2 => exact k.elim
    rename_i c ns vs e1
    split at k
    case isFalse => exact k.elim
    rename_i hz
    have hz := of_decide_eq_true hz
    obtain ⟨q, dx, fs, h1, h2, h3, h4, mk⟩ := E2.updI e1
    exact ⟨.ref q, h1, q, _, dx, fs, rfl, h2, fx.cls c h3, fx.nf c f h3 hf, by omega, k _ _ _ (mk f v.2 y r2.1)⟩
/-! ### loops -/
theorem Walk.at_ {O : Addr → Prop} {J : L2.It} {xs : List D} {H1 H : Hp} (h : Walk w O J xs H1) (e : Ext O H1 H) : (∀ i d, xs[i]? = some d → J.go i H ∧ ∀ x H', J.yld i H x H' → Same H H' ∧ Rep w H' O d x) ∧ J.stop xs.length H := by
  obtain ⟨L, l0, lk, ls⟩ := h
  exact ls H (lk _ _ l0 e)
/-- the ground of a loop: all that is not owned -/
noncomputable def ground (own : Nat → List Addr) (H : Hp) : Hp := open Classical in fun a => if ∃ i, a ∈ own i then none else H a
theorem ground_in {own : Nat → List Addr} {H : Hp} {a : Addr} {o : HO} (h : ground own H a = some o) : (¬ ∃ i, a ∈ own i) ∧ H a = some o := by
  unfold ground at h
  split at h
  · cases h
  · rename_i z; exact ⟨z, h⟩
theorem ground_out {own : Nat → List Addr} {H : Hp} {a : Addr} (h : ¬ ∃ i, a ∈ own i) : ground own H a = H a := by
  unfold ground
  rw [if_neg h]
theorem ground_own {own : Nat → List Addr} {H : Hp} {a : Addr} {i : Nat} (h : a ∈ own i) : ground own H a = none := by
  unfold ground
  rw [if_pos ⟨i, h⟩]
theorem EnvS.grounded {H0 H : Hp} {P0 : Addr → Prop} {X0 : Addr} {σ : L2.St} {env : Env} {own : Nat → List Addr} (E : EnvS w H0 P0 X0 H σ env own) : EnvS w (ground own H) P0 X0 H σ env own :=
  ⟨E.len, fun a o h => (ground_in h).2, fun a z h => by
    rw [ground_out fun ⟨i, m⟩ => E.notP0 m z] at h
    exact E.dom0.same E.same a z h, E.dis, fun i a m => ground_own m, E.slot, E.emp, E.one⟩
theorem EnvS.ungrounded {H0 HG H : Hp} {P0 : Addr → Prop} {X0 : Addr} {σ : L2.St} {env : Env} {own : Nat → List Addr} (s : Same H0 HG) (d : Dom P0 H0) (E : EnvS w HG P0 X0 H σ env own) : EnvS w H0 P0 X0 H σ env own :=
  ⟨E.len, s.trans E.same, d, E.dis, fun i a m => s.free (E.new i a m), E.slot, E.emp, E.one⟩
theorem fO_ground {H0 HG : Hp} {P0 : Addr → Prop} {X0 : Addr} {D : Ends} (s : Same H0 HG) (d : Dom P0 H0) : ∀ {o : Out}, fO w W H0 P0 X0 D o → fO w W HG P0 X0 D o
  | .nx env, h => fun σ H own E => h σ H own (E.ungrounded s d)
  | .ret o v, h => fun x H s' r => h x H (s.trans s') ⟨r.1, r.2.pre s⟩
  | .brk env, h => fun σ H own E => h σ H own (E.ungrounded s d)
  | .ct env, h => fun σ H own E => h σ H own (E.ungrounded s d)
  | .exc env e, h => fun σ H own cls dd E => h σ H own cls dd (E.ungrounded s d)
  | .no, h => h
def forB (g : G) (C : Cal) (tg : Tg) (b : Ss) : D → Env → Out := fun x env' => match bindT tg x env' with
  | some env2 => exs g C b env2
  | none => .no
theorem sS_for {e' : Stmt} {tg : Tg} {t i : Expr} {it : It} {bd : Ss} {body : List Stmt} (hw : w.K = X.K) (hp : PassesOwn (model X.prog X.w) X.A X.env X.xe) (hc : X.calm = true) (hi : PI X t i (tI g C w W it)) (hg : PG X t (gT X.K tg)) (hb : PSs X body (tSs g C w W bd))
    (rule : PS X e' (tFor (tI g C w W it) (gT X.K tg) (tSs g C w W bd))) : PS X e' (tS g C w W (.for_ tg it bd)) :=
  PS.imp rule fun D σ H ⟨H0, P0, X0, env, own, E, f⟩ => by
    have f : fO w W H0 P0 X0 D ((items g C it env).to (rdi it) env fun xs => forL (forB g C tg bd) xs.2 (aftI (rdi it) xs.1 env)) := f
    refine ev_in (rel := rIt w) E f fun v q H1 s1 r1 k => ?_
    obtain ⟨v, xs⟩ := v
    obtain ⟨J, x⟩ := q
    obtain ⟨own1, E1, r2⟩ := E.aftI (rdi it) s1 r1.1
    have E2 := E1.later s1
    have E3 := E2.grounded
    have sg : Same H0 (ground own1 H1) := fun a o h => by
      rw [ground_out fun ⟨i, m⟩ => by rw [E2.new i a m] at h; cases h]
      exact E2.same _ _ h
    have k := fO_ground sg E2.dom0 k
    have wid : ∀ a, (Pof P0 own1 a ∨ H1 a = none) → Pof P0 own1 a ∨ H1 a = none := fun a z => z
    have wk := r1.2 (fun a => Pof P0 own1 a ∨ H1 a = none) H1 (Rep.wide wid _ _ r2.1)
    have ext : ∀ {H}, Same (ground own1 H1) H → Ext (fun a => Pof P0 own1 a ∨ H1 a = none) H1 H := fun {H} s a o h n => by
      have hno : ¬ ∃ i, a ∈ own1 i := fun ⟨i, m⟩ => by
        have := E2.mut m
        rw [h] at this
        exact n (.inl (.inr ⟨i, m⟩)) this
      exact s a o ((ground_out hno).trans h)
    refine ⟨fun i m σ H => i ≤ xs.length ∧ m = xs.length - i ∧ ∃ env' own', EnvS w (ground own1 H1) P0 X0 H σ env' own' ∧ fO w W (ground own1 H1) P0 X0 D (forL (forB g C tg bd) (xs.drop i) env'), ⟨_, Nat.zero_le _, rfl, _, own1, E3, by rw [List.drop_zero]; exact k⟩, ?_⟩
    rintro i m σ2 H2 ⟨hi, rfl, env2, own2, E4, k2⟩
    obtain ⟨w1, w2⟩ := wk.at_ (ext E4.same)
    by_cases hlt : i < xs.length
    · obtain ⟨go, yl⟩ := w1 i xs[i] (by simp [hlt])
      rw [List.drop_eq_getElem_cons hlt] at k2
      refine .inr ⟨go, fun σ' H' => ∃ env' own', EnvS w (ground own1 H1) P0 X0 H' σ' env' own' ∧ fO w W (ground own1 H1) P0 X0 D (forL (forB g C tg bd) (xs.drop (i + 1)) env'), fun σ' H' ⟨env', own', E', k'⟩ => ⟨xs.length - (i + 1), by omega, by omega, rfl, env', own', E', k'⟩, fun x' H3 y => ?_⟩
      obtain ⟨s3, r3⟩ := yl x' H3 y
      have k2 : fO w W (ground own1 H1) P0 X0 D (match forB g C tg bd xs[i] env2 with
        | .nx env' => forL (forB g C tg bd) (xs.drop (i + 1)) env'
        | .ct env' => forL (forB g C tg bd) (xs.drop (i + 1)) env'
        | .brk env' => .nx env'
        | o => o) := k2
      have E5 := E4.later s3
      have sub : ∀ a, Pof P0 own2 a → Pof P0 own1 a ∨ H1 a = none := fun a z => by
        rcases z with z | ⟨j, z⟩
        · exact .inl (.inl z)
        · have := E4.new j a z
          by_cases q : ∃ i, a ∈ own1 i
          · exact .inl (.inr q)
          · rw [ground_out q] at this
            exact .inr this
      cases hbd : bindT tg xs[i] env2 with
      | none =>
        have : forB g C tg bd xs[i] env2 = .no := by unfold forB; rw [hbd]
        rw [this] at k2
        exact k2.elim
      | some env3 =>
        have e3 : forB g C tg bd xs[i] env2 = exs g C bd env3 := by unfold forB; rw [hbd]
        rw [e3] at k2
        obtain ⟨σ', gq, pu⟩ := put_tg E5.len hbd (Rep.mono sub _ _ r3)
        obtain ⟨own3, E6⟩ := E5.put pu
        rw [← hw]
        refine gq _ ⟨ground own1 H1, P0, X0, env3, own3, E6, ?_⟩
        cases q : exs g C bd env3 with
        | nx env' => rw [q] at k2; exact fun σ H own E => ⟨env', own, E, k2⟩
        | ct env' => rw [q] at k2; exact fun σ H own E => ⟨env', own, E, k2⟩
        | brk env' => rw [q] at k2; exact k2
        | ret o d => rw [q] at k2; exact k2
        | exc env' e => rw [q] at k2; exact k2
        | no => rw [q] at k2; exact k2
    · have e : i = xs.length := by omega
      subst e
      rw [List.drop_length] at k2
      exact .inl ⟨w2, k2 σ2 H2 own2 E4⟩
theorem sS_while {c : Expr} {ic : E} {bd : Ss} {body : List Stmt} (hp : PassesOwn (model X.prog X.w) X.A X.env X.xe) (hc : PT X c (tT g C w W ic)) (hb : PSs X body (tSs g C w W bd)) : PS X (.While c body [] pos) (tS g C w W (.while_ ic bd)) :=
  PS.imp (ps_while hp hc hb) fun D σ H ⟨H0, P0, X0, env, own, E, f⟩ => by
    refine ⟨fun m σ H => ∃ env own, EnvS w H0 P0 X0 H σ env own ∧ fO w W H0 P0 X0 D (whileL (rd ic) (tst g C ic) (exs g C bd) m env), ⟨wFuel, env, own, E, f⟩, ?_⟩
    rintro m σ2 H2 ⟨env2, own2, E2, f2⟩
    cases m with
    | zero => exact f2.elim
    | succ m =>
      refine ev_in (rel := rI Bool) E2 f2 fun v b H3 s3 r3 k => ?_
      have r3 : b = v := r3
      subst r3
      have E3 := E2.later s3
      cases b with
      | false =>
        simp only [Bool.false_eq_true, if_false] at k ⊢
        exact k σ2 H3 own2 E3
      | true =>
        simp only [if_true] at k ⊢
        refine ⟨fun σ' H' => ∃ env own, EnvS w H0 P0 X0 H' σ' env own ∧ fO w W H0 P0 X0 D (whileL (rd ic) (tst g C ic) (exs g C bd) m env), fun σ' H' h => ⟨m, Nat.lt_succ_self m, h⟩, H0, P0, X0, env2, own2, E3, ?_⟩
        cases q : exs g C bd env2 with
        | nx env' => rw [q] at k; exact fun σ H own E => ⟨env', own, E, k⟩
        | ct env' => rw [q] at k; exact fun σ H own E => ⟨env', own, E, k⟩
        | brk env' => rw [q] at k; exact k
        | ret o d => rw [q] at k; exact k
        | exc env' e => rw [q] at k; exact k
        | no => rw [q] at k; exact k
end
end S2

set_option maxHeartbeats 4000000
/-! S2w: the caught exception: isinstance, with its own dict or without. -/
namespace S2
open PySem PySem.Spec PyProof.Rows L2

def rIsX (K : PySem.W.Frag) (D a : Addr) (d : Option Addr) : List V → Hp → VK → Prop := fun xs H Q => ∃ (c : V) (cv : Value) (b : Bool), xs = [.ref a, c] ∧ (∀ u, RelV c u → u = cv) ∧ PySem.W.kitOne K (.ref D) cv = some b ∧ (∀ dd, d = some dd → ∃ fs, H dd = some (.xd fs)) ∧ Q (.bl b) H
theorem call_isX {X : Cx} {a D : Addr} {oe : Obj} {d : Option Addr} {pn : List (Addr × Obj)} (C : ExcC X.K D) (hz : Zc (.ref D) d oe) (hf : ∃ vs, oe.data = .fields vs) : CallR (X.suite a ((a, oe) :: pn)) (.builtin "isinstance") (rIsX X.K D a d) := by
  intro pins s σ H xs us Q I r h
  obtain ⟨c, cv, b, rfl, hcv, e, hd, q⟩ := h
  cases r with
  | cons rx rr =>
    cases rr with
    | cons rt rr =>
      cases rr
      cases rx
      have ec := hcv _ rt
      subst ec
      obtain ⟨hget, _⟩ := I.pin (a, oe) (List.mem_append.mpr (.inl List.mem_cons_self))
      obtain ⟨vs, hv⟩ := hf
      have hcl : (PySem.W.clsIn X.K D).isSome = true := by
        obtain ⟨cd, hc, _⟩ := PySem.W.any_some C.hd
        rw [hc]; rfl
      cases d with
      | none =>
        have J : PySem.W.InstAt s.heap a oe D none := ⟨hget, hz.1, by unfold PySem.W.notCls; rw [hv] <;> rfl, by rw [hz.2]; trivial⟩
        exact PySem.W.kia_one (PySem.W.kitx_exc hcl C.hg C.hk C.hs C.ha C.hn C.ht C.hm) I.kIn J e (fun z => nomatch z) fun tk => ⟨.bl b, H, I.kept (t' := tk) fun _ _ z => z, rfl, q⟩
      | some dd =>
        obtain ⟨fs, hx⟩ := hd dd rfl
        have hok : ObjOk X.prog X.w H s.heap dd (.xd fs) := I.hok dd _ hx
        obtain ⟨mA, hns, hr⟩ := hok
        obtain ⟨od, ho, hl⟩ := lookIn_ns hns
        have J : PySem.W.InstAt s.heap a oe D (some od) := ⟨hget, hz.1, by unfold PySem.W.notCls; rw [hv] <;> rfl, by rw [hz.2]; exact ho⟩
        exact PySem.W.kia_one (PySem.W.kitx_exc hcl C.hg C.hk C.hs C.ha C.hn C.ht C.hm) I.kIn J e (fun z => nomatch z) fun tk => ⟨.bl b, H, I.kept (t' := tk) fun _ _ z => z, rfl, q⟩
/-- what is known of the exception classes -/
structure Ex (K : PySem.W.Frag) (mg : Str → Option Value) (g : G) (w : Wr) : Prop where
  exc : ∀ k, (g.exf k).isSome = true → ExcC K (w.ca k) ∧ XfC K (w.ca k)
  own : ∀ c, (g.exf c).isSome = true → mg c = some (.ref (w.ca c))
  kit : ∀ k c, (g.exf k).isSome = true → (g.exf c).isSome = true → PySem.W.kitOne K (.ref (w.ca k)) (.ref (w.ca c)) = some (g.sub k c)
  ve : ∀ k, (g.exf k).isSome = true → PySem.W.kitOne K (.ref (w.ca k)) (.type "ValueError") = some (g.sub k (Str.ofString "ValueError"))
  exm : ∀ k c, (g.exf k).isSome = true → (g.exf c).isSome = true → PySem.W.exmOne K (.ref (w.ca k)) (.ref (w.ca c)) = some (g.sub k c)
  fno : ∀ k f, (g.exf k).isSome = true → g.nf f = true → PySem.W.findIn K (.ref (w.ca k)) f = some none
section
variable {X : Cx} {W : WX} {g : G} {w : Wr} {C : Cal} {a : Addr} {oe : Obj} {cls : Value} {d : Option Addr} {pn : List (Addr × Obj)} {i : Nat} {x c : Str} {p p1 p2 pos : Pos}
theorem xr_dd {H : Hp} {O : Addr → Prop} {k : Str} {ns : List Str} {vs : List D} (h : XR w H O cls d (.ob k ns vs)) : ∀ dd, d = some dd → ∃ fs, H dd = some (.xd fs) := by
  intro dd e
  obtain ⟨_, h⟩ := h
  rcases h with ⟨_, _, h⟩ | ⟨b, fs, h1, h2, _⟩
  · rw [h] at e; cases e
  · rw [h1] at e; cases e; exact ⟨fs, h2⟩
/-- isinstance(e, c): c an own exception class, or ValueError -/
theorem sE_isx (ex : Ex X.K X.mg g w) (fr : ∀ y, g.fr y = true → X.mg y = none) (hz : Zc cls d oe) (hf : ∃ vs, oe.data = .fields vs) (hN : X.N[i]? = some x) (hv : Vis X.env.scope x) (hd : (x == ("__debug__" : Str)) = false) (hcd : (x == ("__classdict__" : Str)) = false)
    (hg : Gl X "isinstance") (hr : g.fr "isinstance" = true) (hg2 : Gl X c) (hc : ((g.exf c).isSome = true ∧ (c == ("__debug__" : Str)) = false) ∨ (c = Str.ofString "ValueError" ∧ g.fr (Str.ofString "ValueError") = true)) :
    PE (X.suite a ((a, oe) :: pn)) (.Call (.Name "isinstance" p) [.Name x p1, .Name c p2] [] pos) (tE g C (w.at_ ⟨a, cls, d⟩) W (.isx i c)) := by
  refine ⟨fun pins s σ H Q I ⟨env, O, dom, en, h⟩ => ?_⟩
  have h : fR (w.at_ ⟨a, cls, d⟩) W σ O (rV (w.at_ ⟨a, cls, d⟩) O) H (match env[i]? with
    | some (some (.ex, .ob k _ _)) => if (g.exf k).isSome = true then .ok (.sh, .bl (g.sub k c)) else .no
    | _ => .no) Q := h
  split at h
  case h_2 => exact h.elim
  rename_i k ns vs e
  split at h
  case isFalse => exact h.elim
  rename_i hk
  obtain ⟨h1, h2⟩ := en.1.2 (i, false) (List.mem_singleton.mpr rfl) _ e
  obtain ⟨ec, _⟩ := id h2
  have ec : cls = .ref (w.ca k) := ec
  subst ec
  have q := h.ok (VR.sh (x := .bl (g.sub k c)) rfl)
  have st : starEach [.Name x p1, .Name c p2] (X.suite a ((a, oe) :: pn)).env = (false, eval (.Name x p1) (X.suite a ((a, oe) :: pn)).env) :: starEach [.Name c p2] (X.suite a ((a, oe) :: pn)).env := by rfl
  have px : PE (X.suite a ((a, oe) :: pn)) (.Name x p1) (tVar i) := pe_var hN hv hd hcd
  rcases hc with ⟨hc, hdb⟩ | ⟨hc, hrv⟩
  · have pc : PE (X.suite a ((a, oe) :: pn)) (.Name c p2) (tC (.ref (w.ca c))) := pe_glob hg2 (ex.own c hc) rfl hdb
    refine (pe_callB (call_isX (X := X) (pn := pn) (ex.exc k hk).1 hz hf) hg (fr _ hr) boot_isinstance (pa_cons px (pa_cons pc pa_nil (by rfl)) st) (by decide) (by decide) st (by rfl)).run pins s σ H Q I ?_
    exact ⟨.ref a, h1, .ref (w.ca c), .ref (w.ca c), g.sub k c, rfl, fun u r => r, ex.kit k c hk hc, xr_dd h2, q⟩
  · subst hc
    have pc : PE (X.suite a ((a, oe) :: pn)) (.Name (Str.ofString "ValueError") p2) (tC (.ty "ValueError")) := pe_bltn hg2 (fr _ hrv) (by rfl) rfl (by decide) (by decide)
    refine (pe_callB (call_isX (X := X) (pn := pn) (ex.exc k hk).1 hz hf) hg (fr _ hr) boot_isinstance (pa_cons px (pa_cons pc pa_nil (by rfl)) st) (by decide) (by decide) st (by rfl)).run pins s σ H Q I ?_
    exact ⟨.ref a, h1, .ty "ValueError", .type "ValueError", _, rfl, fun u r => r, ex.ve k hk, xr_dd h2, q⟩
/-- e.f -/
theorem sE_xfl {f : Str} (ex : Ex X.K X.mg g w) (hz : Zc cls d oe) (hf : ∃ vs, oe.data = .fields vs) (hN : X.N[i]? = some x) (hv : Vis X.env.scope x) (hd : (x == ("__debug__" : Str)) = false) (hcd : (x == ("__classdict__" : Str)) = false)
    (hb : attributeBase (.Name x p1) f X.env (eval (.Name x p1) X.env) = eval (.Name x p1) X.env) (hno : ∀ k, (g.exf k).isSome = true → PySem.W.findIn X.K (.ref (w.ca k)) f = some none) :
    PE (X.suite a ((a, oe) :: pn)) (.Attribute (.Name x p1) f pos) (tE g C (w.at_ ⟨a, cls, d⟩) W (.xfl i f)) := by
  refine ⟨fun pins s σ H Q I ⟨env, O, dom, en, h⟩ => ?_⟩
  have h : fR (w.at_ ⟨a, cls, d⟩) W σ O (rV (w.at_ ⟨a, cls, d⟩) O) H (match env[i]? with
    | some (some (.ex, .ob k ns vs)) => if (g.exf k).isSome = true then shD (fldD f (.ob k ns vs)).tame else .no
    | _ => .no) Q := h
  split at h
  case h_2 => exact h.elim
  rename_i k ns vs e
  split at h
  case isFalse => exact h.elim
  rename_i hk
  obtain ⟨h1, h2⟩ := en.1.2 (i, false) (List.mem_singleton.mpr rfl) _ e
  obtain ⟨ec, h3⟩ := h2
  have ec : cls = .ref (w.ca k) := ec
  subst ec
  have h : fR (w.at_ ⟨a, .ref (w.ca k), d⟩) W σ O (rV (w.at_ ⟨a, .ref (w.ca k), d⟩) O) H ((fldD f (.ob k ns vs)).tame.bind fun d => .ok (.sh, d)) Q := h
  obtain ⟨d', e', h⟩ := h.tame
  have e' : (match fldL f ns vs with | some d => R.ok d | none => .no) = .ok d' := e'
  split at e'
  case h_2 => cases e'
  rename_i d2 e2
  cases e'
  rcases h3 with ⟨z1, z2, z3⟩ | ⟨b, fs, z1, z2, z3, z4⟩
  · rw [z1, z2] at e2
    unfold fldL at e2
    cases e2
  · obtain ⟨v, l, rv⟩ := fld_get z3 z4 e2
    have px : PE (X.suite a ((a, oe) :: pn)) (.Name x p1) (tVar i) := pe_var hN hv hd hcd
    exact (pe_xf (X := X) (pn := pn) (ex.exc k hk).2 (hno k hk) hz hf px hb).run pins s σ H Q I ⟨.ref a, h1, rfl, rfl, b, fs, v, z1, z2, l, fR.ok (rel := rV (w.at_ ⟨a, .ref (w.ca k), d⟩) O) h (VR.sh rv)⟩
/-- the suite's words -/
theorem sx_suite (ex : Ex X.K X.mg g w) (fr : ∀ y, g.fr y = true → X.mg y = none) (hz : Zc cls d oe) (hf : ∃ vs, oe.data = .fields vs) : Sx (X.suite a ((a, oe) :: pn)) g (w.at_ ⟨a, cls, d⟩) where
  isx := fun C W i x c p p1 p2 pos hN hv hd hcd hg hr hg2 hc => sE_isx ex fr hz hf hN hv hd hcd hg hr hg2 hc
  xfl := fun C W i x f p1 pos hN hv hd hcd hnf => sE_xfl ex hz hf hN hv hd hcd (by rfl) fun k hk => ex.fno k f hk hnf
end
end S2

set_option maxHeartbeats 4000000
/-! S2x: into an except suite's words and back. -/
namespace S2
open PySem PySem.Spec PyProof.Rows L2

section
variable {w : Wr} {H0 H H' : Hp} {O P0 P : Addr → Prop} {X0 : Addr} {σ : L2.St} {env : Env} {own : Nat → List Addr} {ow : List Addr} {v : OD} {x : V}
theorem at_back (z : XI) : (w.at_ z).at_ w.xi = w := rfl
theorem VR.xi (z : XI) (r : VR w H H' O v x) : VR (w.at_ z) H H' O v x := by
  obtain ⟨o, d⟩ := v
  obtain ⟨r1, f⟩ := r
  refine ⟨Rep.xi z _ _ r1, ?_⟩
  cases o with
  | sh => exact True.intro
  | oi => exact f.elim
  | ex => exact f.elim
  | o1 => obtain ⟨p, e, n, l, rk⟩ := f; exact ⟨p, e, n, l, RepK.xi z _ _ rk⟩
  | o2 => obtain ⟨p, qs, l, e, e2, n, hp, nd, q, ks⟩ := f; exact ⟨p, qs, l, e, e2, n, hp, nd, q, ks.xi z⟩
theorem XR.xi (z : XI) {cls : Value} {dd : Option Addr} : ∀ {d : D}, XR w H O cls dd d → XR (w.at_ z) H O cls dd d
  | .ob _ _ _, ⟨e, h⟩ => ⟨e, h.imp id fun ⟨a, fs, h1, h2, h3, h4⟩ => ⟨a, fs, h1, h2, h3, Reps.xi z _ _ h4⟩⟩
theorem SlotOk.xi (z : XI) : ∀ {o : Own} {d : D} {v : V}, o ≠ .ex → SlotOk w H P ow o d v → SlotOk (w.at_ z) H P ow o d v
  | .sh, _, _, _, ⟨e, r⟩ => ⟨e, Rep.xi z _ _ r⟩
  | .o1, _, _, _, ⟨p, e, e2, l, r⟩ => ⟨p, e, e2, l, RepK.xi z _ _ r⟩
  | .o2, _, _, _, ⟨p, qs, l, e, nd, e1, e2, h, k⟩ => ⟨p, qs, l, e, nd, e1, e2, h, k.xi z⟩
  | .oi, _, _, _, ⟨p, c, ns, ds, e, e1, e2, r⟩ => ⟨p, c, ns, ds, e, e1, e2, RepK.xi z _ _ r⟩
  | .ex, _, _, n, _ => absurd rfl n
/-- where no slot holds an exception, the suite's words and the def's say the same -/
theorem EnvS.xi (z : XI) (E : EnvS w H0 P0 X0 H σ env own) (n : ∀ (i : Nat) (d : D), env[i]? ≠ some (some (Own.ex, d))) : EnvS (w.at_ z) H0 P0 X0 H σ env own :=
  ⟨E.len, E.same, E.dom0, E.dis, E.new, fun i o d e => (E.slot i o d e).imp fun _ q => ⟨q.1, q.2.xi z fun h => by subst h; exact n i d e⟩, E.emp, E.one⟩
end
section
variable {w : Wr} {H0 H : Hp} {P0 : Addr → Prop} {X0 : Addr} {σ : L2.St} {env : Env} {own : Nat → List Addr}
/-- a slot gets what owns nothing, or is emptied -/
theorem EnvS.setN (E : EnvS w H0 P0 X0 H σ env own) (i : Nat) (s : Slot) (u : Option V) (hs : ∀ P' : Addr → Prop, (∀ a, P' a → Pof P0 own a) → ∀ o d, s = some (o, d) → o ≠ .oi ∧ ∃ v, u = some v ∧ SlotOk w H P' [] o d v) : ∃ own2, EnvS w H0 P0 X0 H (σ.set i u) (env.set i s) own2 := by
  let own2 : Nat → List Addr := fun j => if j = i then [] else own j
  have sub1 : ∀ j a, a ∈ own2 j → a ∈ own j := fun j a m => by
    by_cases e : j = i
    · simp only [own2, e, if_true] at m; cases m
    · simpa only [own2, e, if_false] using m
  have sub : ∀ a, Pof P0 own2 a → Pof P0 own a := fun a z => z.imp id fun ⟨j, m⟩ => ⟨j, sub1 j a m⟩
  refine ⟨own2, ?_, E.same, E.dom0, fun j k a h1 h2 => E.dis j k a (sub1 _ _ h1) (sub1 _ _ h2), fun j a h => E.new j a (sub1 _ _ h), fun j o d e => ?_, fun j h => ?_, fun j d v e hv => ?_⟩
  · rw [List.length_set, List.length_set]; exact E.len
  · by_cases e1 : j = i
    · subst e1
      by_cases hl : j < env.length
      · rw [List.getElem?_set_self hl] at e
        obtain ⟨_, v, hu, ok⟩ := hs (Pof P0 own2) sub o d (Option.some.inj e)
        refine ⟨v, by rw [List.getElem?_set_self (by rw [← E.len]; exact hl), hu], ?_⟩
        have : own2 j = [] := if_pos rfl
        rw [this]; exact ok
      · rw [List.getElem?_eq_none (by rw [List.length_set]; omega)] at e; cases e
    · rw [List.getElem?_set_ne (Ne.symm e1)] at e
      obtain ⟨v, hv, ok⟩ := E.slot j o d e
      refine ⟨v, by rw [List.getElem?_set_ne (Ne.symm e1)]; exact hv, ?_⟩
      have : own2 j = own j := if_neg e1
      rw [this]; exact ok.wide fun a z => .inl (sub a z)
  · by_cases e1 : j = i
    · exact if_pos e1
    · have : own2 j = own j := if_neg e1
      rw [this]
      exact E.emp j fun o d e => h o d (by rw [List.getElem?_set_ne (Ne.symm e1)]; exact e)
  · by_cases e1 : j = i
    · subst e1
      by_cases hl : j < env.length
      · rw [List.getElem?_set_self hl] at e
        obtain ⟨n, _⟩ := hs (Pof P0 own2) sub .oi d (Option.some.inj e)
        exact absurd rfl n
      · rw [List.getElem?_eq_none (by rw [List.length_set]; omega)] at e; cases e
    · rw [List.getElem?_set_ne (Ne.symm e1)] at e hv
      exact E.one j d v e hv
theorem EnvS.drop (E : EnvS w H0 P0 X0 H σ env own) (i : Nat) : ∃ own2, EnvS w H0 P0 X0 H (σ.set i none) (env.set i none) own2 := E.setN i none none fun _ _ _ _ h => by cases h
theorem noX_ok : ∀ {env : Env}, noX env = true → ∀ (i : Nat) (d : D), env[i]? ≠ some (some (Own.ex, d))
  | [], _, i, d => fun z => by rw [List.getElem?_nil] at z; cases z
  | s :: r, h, i, d => fun z => by
    have hr : noX r = true ∧ ∀ d, s ≠ some (Own.ex, d) := by
      cases s with
      | none => exact ⟨h, fun _ z => by cases z⟩
      | some od =>
        obtain ⟨o, d'⟩ := od
        cases o <;> first | exact ⟨h, fun _ z => by cases z⟩ | (exact absurd h Bool.false_ne_true)
    cases i with
    | zero => exact hr.2 d (by simpa using z)
    | succ i => exact noX_ok hr.1 i d (by simpa using z)
end
end S2

set_option maxHeartbeats 4000000
/-! S2s: every checked statement does what the evaluator says. -/
namespace S2
open PySem PySem.Spec PyProof.Rows L2

/-- how an own exception is made -/
def ExF (X : Cx) (w : Wr) (c : Str) : List Str → Prop
  | [] => ∀ (x : Str) (j : Nat) (p1 p2 pos : Pos), Gl X c → L2N.PMk X (.Call (.Name c p1) [.Constant (.str x) j p2] [] pos) (fun _ H Q => Q (.ref (w.ca c)) none H)
  | [f] => ∀ (e : Expr) (te : TE) (p1 pos : Pos), Gl X c → PE X e te → Plain X [e] → L2N.PMk X (.Call (.Name c p1) [e] [] pos) (fun σ H Q => te σ H fun y H1 => ∀ a, H1 a = none → Q (.ref (w.ca c)) (some a) (upd H1 a (.xd [(f, y)])))
  | _ => False
/-- how exceptions are made, in any body -/
def ExA (P : Program) (wd : World) (K : PySem.W.Frag) (mg : Str → Option Value) (g : G) (w : Wr) : Prop := ∀ X : Cx, X.prog = P → X.w = wd → X.K = K → X.mg = mg → X.calm = true → Room 0 X.A → ∀ c ns, g.exf c = some ns → ExF X w c ns
structure GdS (X : Cx) (W : WX) (g : G) (w : Wr) (n : Nat) (hot : Bool := false) : Prop where
  gd : Gd X W g w n hot
  hp : PassesOwn (model X.prog X.w) X.A X.env X.xe
  fn : ∀ x, X.fn x = true
  stk : X.stack = X.env :: X.outer
  frm : X.env.frame = some X.env.locals
  kind : X.env.scope.kind = .function
  hu : X.A.units + 66 < cLine
  tb : Tab g w
  ea : ExA X.prog X.w X.K X.mg g w
  ex : Ex X.K X.mg g w
def isLC : Expr → Bool
  | .ListComp _ _ _ _ => true
  | _ => false
def isTupE : Expr → Bool
  | .Tuple _ _ _ => true
  | _ => false
def lcSw (sc : Scope) (x : Str) (px : Pos) : Expr → Bool
  | .ListComp _ _ scope pos => decide (sc.names.lookup x = some .local) && (px.line == pos.line) && !(scope.names.any fun (n, k) => n == x && (k == .local || k == .cell))
  | _ => false
mutual
def okS (g : G) (N : List Str) (hot : Bool := false) : S → Scope → Stmt → Bool
  | .pass, _, st => match st with | .Pass _ => true | _ => false
  | .doc, _, st => match st with | .Expr (.Constant (.str _) _ _) _ => true | _ => false
  | .asg i e, sc, st => match st with | .Assign [.Name x px] v _ => decide (N[i]? = some x) && locB sc x && okE g N hot e sc v && (!isLC v || lcSw sc x px v) | _ => false
  | .tup is e, sc, st => match st with | .Assign [.Tuple es k p] v _ => !hot && okTg N sc (.tp is) (.Tuple es k p) && okE g N hot e sc v && !isLC v && !isTupE v | _ => false
  | .asgix i a e, sc, st => match st with | .Assign [.Subscript (.Name x _) y _] v _ => vrB N sc i x && okE g N hot a sc y && okE g N hot e sc v && !isLC v | _ => false
  | .app i e, sc, st => match st with | .Expr (.Call (.Attribute (.Name x _) m apos) [v] [] p2) _ => decide (m = "append") && vrB N sc i x && okE g N hot e sc v && (apos.endLine == p2.line) | _ => false
  | .rev i, sc, st => match st with | .Expr (.Call (.Attribute (.Name x _) m apos) [] [] p2) _ => decide (m = "reverse") && vrB N sc i x && (apos.endLine == p2.line) | _ => false
  | .popd i .none, sc, st => match st with | .Expr (.Call (.Attribute (.Name x _) m apos) [] [] p2) _ => decide (m = "pop") && vrB N sc i x && (apos.endLine == p2.line) | _ => false
  | .appop i j (.some e), sc, st => match st with | .Expr (.Call (.Attribute (.Name x _) m apos) [.Call (.Attribute (.Name y _) m2 bpos) [v] [] p4] [] p2) _ => decide (m = "append") && decide (m2 = "pop") && vrB N sc i x && vrB N sc j y && okE g N hot e sc v && (apos.endLine == p2.line) && (bpos.endLine == p4.line) | _ => false
  | .appat i a e, sc, st => match st with | .Expr (.Call (.Attribute (.Subscript (.Name x _) y _) m apos) [v] [] p2) _ => decide (m = "append") && vrB N sc i x && okE g N hot a sc y && okE g N hot e sc v && (apos.endLine == p2.line) | _ => false
  | .fld i f e, sc, st => match st with | .Assign [.Attribute (.Name x _) f' _] v _ => decide (f' = f) && g.nf f && vrB N sc i x && okE g N hot e sc v && !isLC v | _ => false
  | .ex e, sc, st => match st with | .Expr v _ => okE g N hot e sc v && !isLC v | _ => false
  | .ife c a b, sc, st => match st with | .If t x y _ => okT g N hot c sc t && okSs g N hot a sc x && okSs g N hot b sc y | _ => false
  | .for_ tg it b, sc, st => match st with | .For t i x [] _ => !hot && okTg N sc tg t && okI g N hot it sc i && okSs g N hot b sc x | _ => false
  | .while_ c b, sc, st => match st with | .While t x [] _ => okT g N hot c sc t && okSs g N hot b sc x | _ => false
  | .ret e, sc, st => match st with | .Return (some v) _ => okE g N hot e sc v | _ => false
  | .retn, _, st => match st with | .Return none _ => true | _ => false
  | .brk, _, st => match st with | .Break _ => true | _ => false
  | .cont, _, st => match st with | .Continue _ => true | _ => false
  | .raise_ c es, sc, st => match st with
    | .Raise (some (.Call (.Name x _) l [] _)) none _ => !hot && decide (x = c) && glB sc c && (match g.exf c, es, l with
      | some [], .nil, [.Constant (.str _) _ _] => true
      | some [_], .cons e .nil, [v] => okE g N hot e sc v
      | _, _, _ => false)
    | _ => false
  | .try_ b (.cons c (some i) hb .nil), sc, st => match st with
    | .Try body [.ExceptHandler (some (.Name x _)) (some nm) (b0 :: su) _] [] [] _ => !hot && decide (x = c) && glB sc c && nmB1 c && (g.exf c).isSome && decide (N[i]? = some nm) && decide (sc.names.lookup nm = some .local) && okSs g N false b sc body && okSs g N true hb sc (b0 :: su)
    | _ => false
  | _, _, _ => false
def okSs (g : G) (N : List Str) (hot : Bool := false) : Ss → Scope → List Stmt → Bool
  | .nil, _, l => match l with | [] => true | _ => false
  | .cons s ss, sc, l => match l with | x :: r => okS g N hot s sc x && okSs g N hot ss sc r | _ => false
end
theorem sw_no {v : Expr} (h : isLC v = false) (hs : shB v = true) (t : Option Expr) (l : Nat) (env : PySem.Env) : swapsWith v t l env = pure false := by
  cases v <;> first | (exact absurd hs Bool.false_ne_true) | (exact Bool.noConfusion (show true = false from h)) | rfl
theorem st_no {v t : Expr} (h : isTupE v = false) (hs : shB v = true) (env : PySem.Env) : swappedStores [t] v env = pure none := by
  cases v <;> first | (exact absurd hs Bool.false_ne_true) | (exact Bool.noConfusion (show true = false from h)) | (cases t <;> rfl)
theorem st_sub {x a v : Expr} {p : Pos} (env : PySem.Env) : swappedStores [.Subscript x a p] v env = pure none := by
  cases v <;> rfl
section
variable {X : Cx} {W : WX} {g : G} {w : Wr} {n : Nat}
/-- name = [..] on one line -/
theorem sS_lc {hot : Bool} {i : Nat} {e : E} {x : Str} {px pos : Pos} {v : Expr} (q : GdS X W g w n hot) (hi : X.N[i]? = some x) (h : okE g X.N hot e X.env.scope v = true) (hl : lcSw X.env.scope x px v = true) : PS X (.Assign [.Name x px] v pos) (tS g (cal g n) w W (.asg i e)) := by
  obtain ⟨elt, tg, it, c, rfl⟩ : ∃ elt tg it c, e = .lc elt tg it c := by
    cases e with
    | lc elt tg it c => exact ⟨elt, tg, it, c, rfl⟩
    | hsm i j =>
      unfold okE at h
      obtain ⟨_, _, _, _, rfl⟩ := hsmB_sh h
      exact absurd hl Bool.false_ne_true
    | hcall f i =>
      unfold okE at h
      obtain ⟨_, _, _, _, rfl⟩ := hcallB_sh h
      exact absurd hl Bool.false_ne_true
    | _ => unfold okE at h; (repeat' split at h) <;> first | (exact absurd h Bool.false_ne_true) | (exact absurd hl Bool.false_ne_true)
  unfold okE at h
  split at h
  case h_2 => cases h
  rename_i x' t' i' ifs as scope p
  have gd := q.gd
  simp only [Bool.and_eq_true, decide_eq_true_eq] at h
  obtain ⟨⟨⟨⟨⟨⟨⟨⟨h0, h1⟩, h2⟩, h3⟩, h4⟩, h5⟩, h6⟩, h7⟩, h8⟩ := h
  have h0 : hot = false := by simpa using h0
  subst h0
  subst h1
  have hl : (decide (X.env.scope.names.lookup x = some .local) && (px.line == p.line) && !(scope.names.any fun (n, k) => n == x && (k == .local || k == .cell))) = true := hl
  simp only [Bool.and_eq_true, decide_eq_true_eq, Bool.not_eq_true'] at hl
  have hs : ∀ y, foldedSetIterable i' X.env y = pure y := sh_fold (okI_sh h6) _
  refine PS.imp (ps_setLc (g := gT X.K tg) (own := tgOwn tg t') (gd.calm rfl) gd.nd hi hl.1.1 (sw_true q.kind hl.1.1 hl.1.2 hl.2) (sI it gd q.tb q.hu h6) (blkOk_by h2)
        (fun s H C cl fp => sG (X := X.blk s H scope (compEnvC scope cl C X.env) fp) gd.nd (gd.calm rfl) (fun x => fn_blk' x) h4 h5)
        (fun s H C cl fp => sC c (X := X.blk s H scope (compEnvC scope cl C X.env) fp) (gd_blk gd s H scope _ fp) q.tb q.hu h8)
        (fun s H C cl fp => sE elt (X := X.blk s H scope (compEnvC scope cl C X.env) fp) (gd_blk gd s H scope _ fp) q.tb q.hu h7) hs) fun D σ H h => ?_
  have := asg_in h
  rw [h3]
  have := lc_in (fun j hj => hj) (fun j hj => hj) this
  rwa [gd.fx.hK] at this
theorem sS_raise0 {c : Str} {x : Str} {j : Nat} {p1 p2 p3 pos : Pos} (q : GdS X W g w n) (hx : g.exf c = some []) (hg : Gl X c) : PS X (.Raise (some (.Call (.Name c p1) [.Constant (.str x) j p2] [] p3)) none pos) (tS g (cal g n) w W (.raise_ c .nil)) :=
  PS.imp (L2N.ps_raise (q.gd.calm rfl) q.gd.takes (q.ea X rfl rfl rfl rfl (q.gd.calm rfl) ((q.gd.room rfl).mono (Nat.zero_le _)) c [] hx x j p1 p2 p3 hg)) fun D σ H ⟨H0, P0, X0, env, own, E, f⟩ => by
    have f : fO w W H0 P0 X0 D (match g.exf c with
      | some ns => if ns.length = 0 then .exc (frz [] env) (.ob c ns []) else .no
      | none => .no) := f
    rw [hx] at f
    exact f σ H _ _ _ (E.frz []) ⟨rfl, .inl ⟨rfl, rfl, rfl⟩⟩
theorem sS_raise1 {c f0 : Str} {e : E} {v : Expr} {p1 p3 pos : Pos} (q : GdS X W g w n) (hx : g.exf c = some [f0]) (hg : Gl X c) (he : PE X v (tE g (cal g n) w W e)) (hp : Plain X [v]) : PS X (.Raise (some (.Call (.Name c p1) [v] [] p3)) none pos) (tS g (cal g n) w W (.raise_ c (.cons e .nil))) :=
  PS.imp (L2N.ps_raise (q.gd.calm rfl) q.gd.takes (q.ea X rfl rfl rfl rfl (q.gd.calm rfl) ((q.gd.room rfl).mono (Nat.zero_le _)) c [f0] hx v _ p1 p3 hg he hp)) fun D σ H ⟨H0, P0, X0, env, own, E, f⟩ => by
    have f : fO w W H0 P0 X0 D ((((ev g (cal g n) e env).bind fun x => .ok [x])).to (rd e ++ []) env fun l => (match g.exf c with
      | some ns => if ns.length = l.length then .exc (frz (rd e ++ []) env) (.ob c ns (l.map (·.2))) else .no
      | none => .no)) := f
    rw [hx, List.append_nil] at f
    have f : fO w W H0 P0 X0 D ((ev g (cal g n) e env).to (rd e) env fun x => .exc (frz (rd e) env) (.ob c [f0] [x.2])) := by
      cases z : ev g (cal g n) e env with
      | ok v => rw [z] at f; exact f
      | exc d => rw [z] at f; exact f
      | no => rw [z] at f; exact f
    refine ev_in E f fun u y H1 s1 r1 k a ha => ?_
    have E1 := (E.frz (rd e)).later (s1.trans (same_new (o := .xd [(f0, y)]) ha))
    exact k σ _ _ _ _ E1 ⟨rfl, .inr ⟨a, [(f0, y)], rfl, upd_same, rfl, y, [], rfl, Rep.same (same_new ha) _ _ r1.1, rfl⟩⟩
theorem isVar_of {e : E} : (∃ i, e = .var i) ∨ ∀ i, e ≠ .var i := by
  cases e <;> first | (exact .inl ⟨_, rfl⟩) | (exact .inr fun i z => by cases z)
end
section
variable {X : Cx} {W W' : WX} {g : G} {w : Wr} {n : Nat}
theorem spH_xi {g : G} {w : Wr} {f : Str} (z : XI) {p : Addr × Obj} {xs : List V} {H : Hp} {Q : VK} (h : spH g (w.at_ z) f p xs H Q) : spH g w f p xs H Q := by
  obtain ⟨d, O, cls, dd, h1, h2, h3, h4, h5, h6⟩ := h
  refine ⟨d, O, cls, dd, h1, h2, h3, h4, h5.xi w.xi, ?_⟩
  cases e : hotR g f d with
  | ok v => rw [e] at h6; exact fun x H' s r => h6 x H' s (r.xi z)
  | exc _ => rw [e] at h6; exact h6
  | no => rw [e] at h6; exact h6
theorem HLv.xi {P : Program} {wd : World} {K : PySem.W.Frag} {mg : Str → Option Value} {base : Heap} {g : G} {w : Wr} (z : XI) (h : HLv P wd K mg base g w) : HLv P wd K mg base g (w.at_ z) := fun f hf => by
  obtain ⟨a, fd, ps, h1, h2, h3, F⟩ := h f hf
  exact ⟨a, fd, ps, h1, h2, h3, fun p xs H Q q => F.len p xs H Q (spH_xi z q), fun A out s H ar us xs Q p r ng hot pin en0 bnd rel q => F.run A out s H ar us xs Q p r ng hot pin en0 bnd rel (spH_xi z q)⟩
theorem hot_room {n : Nat} {A : Around} (r : Room n A) (hn : n ≠ 0) {h : Option Value} : L2H.RoomH 1 (A.mark h) :=
  ⟨by have := r.dp; show A.depth + 3 * 1 + 5 < _; omega, by have := r.un; show A.units + 16 * 1 + 200 < _; omega⟩
/-- the bundle of a try's body -/
theorem GdS.tr (q : GdS X W g w n) {pn : List (Addr × Obj)} {xe : Value → Shared → Prop} (tk : L2N.Takes (X.tr pn xe) W') (hp : PassesOwn (model X.prog X.w) X.A X.env xe) : GdS (X.tr pn xe) W' g w n :=
  ⟨⟨q.gd.fx, q.gd.nd, q.gd.calm, q.gd.room, tk, q.gd.ng, (fun z => by cases z), q.gd.hl, (fun z => by cases z), q.gd.lv, fun z => by cases z⟩, hp, q.fn, q.stk, q.frm, q.kind, q.hu, q.tb, q.ea, q.ex⟩
/-- the bundle of an except suite -/
theorem GdS.suite (q : GdS X W g w n) {a : Addr} {oe : Obj} {cls : Value} {d : Option Addr} (pn : List (Addr × Obj)) (hz : L2N.Zn cls d oe) (hf : ∃ vs, oe.data = .fields vs) : GdS (X.suite a ((a, oe) :: pn)) Wf g (w.at_ ⟨a, cls, d⟩) n true :=
  have fx' : Fx X.K X.mg g (w.at_ ⟨a, cls, d⟩) := ⟨q.gd.fx.hK, q.gd.fx.free, (fun x d e => by
    obtain ⟨v, u, h1, h2, h3⟩ := q.gd.fx.con x d e
    exact ⟨v, u, h1, h2, fun H O => Rep.xi _ _ _ (h3 H O)⟩), q.gd.fx.cls, q.gd.fx.nf⟩
  have gd' : Gd (X.suite a ((a, oe) :: pn)) Wf g (w.at_ ⟨a, cls, d⟩) n true := ⟨fx', q.gd.nd, (fun h => by cases h), (fun h => by cases h), (fun _ _ ⟨_, _, _, _, _, _, _, _, _, _, _, _, _, _, _, _, f⟩ => f.elim), q.gd.ng, (fun _ => ⟨(a, oe), ⟨rfl, hf.choose, hf.choose_spec, hz.2.2 _ hf.choose_spec⟩, List.mem_cons_self, rfl, hz, hf⟩), (fun hn => HLv.xi _ (q.gd.hl hn)), (fun _ hn => hot_room (q.gd.room rfl) hn), (fun h => by cases h), fun _ => sx_suite q.ex q.gd.fx.free hz.zc hf⟩
  ⟨gd', PassesOwn.never, q.fn, q.stk, q.frm, q.kind, q.hu, ⟨q.tb.cl⟩, (fun Y h1 h2 h3 h4 h5 h6 c ns e => by
      have := q.ea Y h1 h2 h3 h4 h5 h6 c ns e
      match ns, this with
      | [], t => exact t
      | [f], t => exact t
      | _ :: _ :: _, t => exact t), ⟨q.ex.exc, q.ex.own, q.ex.kit, q.ex.ve, q.ex.exm, q.ex.fno⟩⟩
/-- try: .. except c as nm: .. -/
theorem sS_try {i : Nat} {b hb : Ss} {c nm : Str} {body su : List Stmt} {b0 : Stmt} {np pos pos' : Pos} (q : GdS X W g w n) (hi : X.N[i]? = some nm) (hln : X.env.kindOf nm = some .local) (hg : Gl X c) (hd : (c == ("__debug__" : Str)) = false) (hx : (g.exf c).isSome = true)
    (hb' : ∀ (W' : WX) (pn : List (Addr × Obj)) (xe : Value → Shared → Prop), L2N.Takes (X.tr pn xe) W' → PassesOwn (model X.prog X.w) X.A X.env xe → PSs (X.tr pn xe) body (tSs g (cal g n) w W' b))
    (hsu : ∀ (a : Addr) (oe : Obj) (cls : Value) (d : Option Addr) (pn : List (Addr × Obj)), L2N.Zn cls d oe → (∃ vs, oe.data = .fields vs) → PSs (X.suite a ((a, oe) :: pn)) (b0 :: su) (tSs g (cal g n) (w.at_ ⟨a, cls, d⟩) Wf hb)) :
    PS X (.Try body [.ExceptHandler (some (.Name c np)) (some nm) (b0 :: su) pos'] [] [] pos) (tS g (cal g n) w W (.try_ b (.cons c (some i) hb .nil))) := by
  refine PS.imp (L2N.ps_try_as (c := .ref (w.ca c)) (tb := fun W' => tSs g (cal g n) w W' b) (ts := fun a cls d => tSs g (cal g n) (w.at_ ⟨a, cls, d⟩) Wf hb) (Wout := W) q.stk q.frm q.gd.nd hi hln ⟨hg, hd, .inl (q.ex.own c hx)⟩ q.gd.takes hb' hsu) fun D σ H ⟨H0, P0, X0, env, own, E, f⟩ => ?_
  refine ⟨H0, P0, X0, env, own, E, ?_⟩
  have f : fO w W H0 P0 X0 D (match exs g (cal g n) b env with
    | .exc env' (.ob k ns vs) => if ((g.exf k).isSome && (g.exf c).isSome && noX env') = true then (if g.sub k c = true then unx i (exs g (cal g n) hb (env'.set i (some (.ex, .ob k ns vs)))) else .exc env' (.ob k ns vs)) else .no
    | .exc _ _ => .no
    | o => o) := f
  cases z : exs g (cal g n) b env with
  | nx env' => rw [z] at f; exact f
  | ret o d => rw [z] at f; exact f
  | brk env' => rw [z] at f; exact f
  | ct env' => rw [z] at f; exact f
  | no => rw [z] at f; exact f
  | exc env' e =>
    rw [z] at f
    cases e with
    | ob k ns vs =>
      have f : fO w W H0 P0 X0 D (if ((g.exf k).isSome && (g.exf c).isSome && noX env') = true then (if g.sub k c = true then unx i (exs g (cal g n) hb (env'.set i (some (.ex, .ob k ns vs)))) else .exc env' (.ob k ns vs)) else .no) := f
      split at f
      case isFalse => exact f.elim
      rename_i hk
      simp only [Bool.and_eq_true] at hk
      obtain ⟨⟨hk, _⟩, hn⟩ := hk
      intro σ' H' own' cls dd E' xr
      have ec : cls = .ref (w.ca k) := xr.1
      subst ec
      refine ⟨g.sub k c, q.ex.exm k c hk hx, fun ht a ha => ?_, fun hfl => ?_⟩
      · rw [if_pos ht] at f
        obtain ⟨own2, E2⟩ := (E'.xi ⟨a, .ref (w.ca k), dd⟩ (noX_ok hn)).setN i (some (.ex, .ob k ns vs)) (some (.ref a)) fun P' hp o d e => by
          cases e
          exact ⟨(fun z => by cases z), .ref a, rfl, rfl, rfl, (xr.xi ⟨a, .ref (w.ca k), dd⟩).mono hp⟩
        refine ⟨H0, P0, X0, _, own2, E2, ?_⟩
        have back : ∀ {σ3 : L2.St} {H3 : Hp} {own3 : Nat → List Addr} {env3 : Env}, noX (env3.set i none) = true → EnvS (w.at_ ⟨a, .ref (w.ca k), dd⟩) H0 P0 X0 H3 σ3 env3 own3 → ∃ own4, EnvS w H0 P0 X0 H3 (σ3.set i none) (env3.set i none) own4 := fun {σ3 H3 own3 env3} hx3 E3 => by
          obtain ⟨own4, E4⟩ := E3.drop i
          exact ⟨own4, E4.xi w.xi (noX_ok hx3)⟩
        cases z2 : exs g (cal g n) hb (env'.set i (some (.ex, .ob k ns vs))) with
        | nx env3 =>
          rw [z2] at f
          have f : fO w W H0 P0 X0 D (if noX (env3.set i none) = true then .nx (env3.set i none) else .no) := f
          split at f
          case isFalse => exact f.elim
          rename_i h3
          exact fun σ3 H3 own3 E3 => (back h3 E3).elim fun own4 E4 => f _ _ own4 E4
        | brk env3 =>
          rw [z2] at f
          have f : fO w W H0 P0 X0 D (if noX (env3.set i none) = true then .brk (env3.set i none) else .no) := f
          split at f
          case isFalse => exact f.elim
          rename_i h3
          exact fun σ3 H3 own3 E3 => (back h3 E3).elim fun own4 E4 => f _ _ own4 E4
        | ct env3 =>
          rw [z2] at f
          have f : fO w W H0 P0 X0 D (if noX (env3.set i none) = true then .ct (env3.set i none) else .no) := f
          split at f
          case isFalse => exact f.elim
          rename_i h3
          exact fun σ3 H3 own3 E3 => (back h3 E3).elim fun own4 E4 => f _ _ own4 E4
        | ret o d =>
          rw [z2] at f
          exact fun x H3 s3 r3 => f x H3 s3 (r3.xi w.xi)
        | exc env3 e => rw [z2] at f; exact f.elim
        | no => rw [z2] at f; exact f.elim
      · rw [if_neg (by rw [hfl]; exact Bool.false_ne_true)] at f
        exact f σ' H' own' _ dd E' xr
    | _ => exact f.elim
end
section
mutual
theorem sS : ∀ (s : S) {X : Cx} {W : WX} {g : G} {w : Wr} {n : Nat} {hot : Bool} (q : GdS X W g w n hot) {st : Stmt}, okS g X.N hot s X.env.scope st = true → PS X st (tS g (cal g n) w W s)
  | .pass, X, W, g, w, n, hot, q, st, h => by
    unfold okS at h; split at h
    · exact sS_pass
    · cases h
  | .doc, X, W, g, w, n, hot, q, st, h => by
    unfold okS at h; split at h
    · exact sS_doc
    · cases h
  | .asg i e, X, W, g, w, n, hot, q, st, h => by
    unfold okS at h; split at h
    · rename_i x px v pos
      simp only [Bool.and_eq_true, decide_eq_true_eq, Bool.or_eq_true, Bool.not_eq_true'] at h
      obtain ⟨⟨⟨h1, h2⟩, h3⟩, h4⟩ := h
      rcases h4 with h4 | h4
      · exact PS.imp (ps_set q.gd.nd h1 (locB_ok h2) (sE e q.gd q.tb q.hu h3) (sw_no h4 (okE_sh h3) _ _ _) (.inl (q.fn x))) fun D σ H h => asg_in h
      · exact sS_lc q h1 h3 h4
    · cases h
  | .tup is e, X, W, g, w, n, hot, q, st, h => by
    unfold okS at h; split at h
    · rename_i es k p v pos
      simp only [Bool.and_eq_true, Bool.not_eq_true'] at h
      obtain ⟨⟨⟨⟨h0, h1⟩, h2⟩, h3⟩, h4⟩ := h
      subst h0
      exact sS_tup q.gd.fx.hK (sE e q.gd q.tb q.hu h2) (sG q.gd.nd (q.gd.calm rfl) (fun x _ => .inl (q.fn x)) h1 h1) (show swapsWith v (some (.Tuple es k p)) pos.line X.env = pure false from sw_no h3 (okE_sh h2) _ _ _) (st_no h4 (okE_sh h2) _) (by rfl)
    · cases h
  | .par _ _ _ _, X, W, g, w, n, hot, q, st, h => by unfold okS at h; cases h
  | .asgix i a e, X, W, g, w, n, hot, q, st, h => by
    unfold okS at h; split at h
    · rename_i x p y p2 v pos
      simp only [Bool.and_eq_true, Bool.not_eq_true'] at h
      obtain ⟨⟨⟨h1, h2⟩, h3⟩, h4⟩ := h
      unfold vrB at h1
      simp only [Bool.and_eq_true, decide_eq_true_eq] at h1
      exact sS_asgix h1.1.1 (visB_ok h1.1.2) (nm2 h1.2).1 (nm2 h1.2).2 (sE a q.gd q.tb q.hu h2) (okE_sh h2) (sE e q.gd q.tb q.hu h3) (show swapsWith v (some (.Subscript (.Name x p) y p2)) pos.line X.env = pure false from sw_no h4 (okE_sh h3) _ _ _) (st_sub _)
    · cases h
  | .app i e, X, W, g, w, n, hot, q, st, h => by
    unfold okS at h; split at h
    · simp only [Bool.and_eq_true, decide_eq_true_eq] at h
      obtain ⟨⟨⟨h1, h2⟩, h3⟩, h4⟩ := h
      subst h1
      unfold vrB at h2
      simp only [Bool.and_eq_true, decide_eq_true_eq] at h2
      exact sS_app h2.1.1 (visB_ok h2.1.2) (nm2 h2.2).1 (nm2 h2.2).2 (sE e q.gd q.tb q.hu h3) ⟨sh_star (okE_sh h3) _ _, trivial⟩ h4
    · cases h
  | .appat i a e, X, W, g, w, n, hot, q, st, h => by
    unfold okS at h; split at h
    · simp only [Bool.and_eq_true, decide_eq_true_eq] at h
      obtain ⟨⟨⟨⟨h1, h2⟩, h3⟩, h4⟩, h5⟩ := h
      subst h1
      unfold vrB at h2
      simp only [Bool.and_eq_true, decide_eq_true_eq] at h2
      exact sS_appat h2.1.1 (visB_ok h2.1.2) (nm2 h2.2).1 (nm2 h2.2).2 (sE a q.gd q.tb q.hu h3) (sh_ix (okE_sh h3)) (sE e q.gd q.tb q.hu h4) ⟨sh_star (okE_sh h4) _ _, trivial⟩ h5
    · cases h
  | .appop _ _ .none, X, W, g, w, n, hot, q, st, h => by unfold okS at h; cases h
  | .appop i j (.some e), X, W, g, w, n, hot, q, st, h => by
    unfold okS at h; split at h
    · simp only [Bool.and_eq_true, decide_eq_true_eq] at h
      obtain ⟨⟨⟨⟨⟨⟨h1, h2⟩, h3⟩, h4⟩, h5⟩, h6⟩, h7⟩ := h
      subst h1 h2
      unfold vrB at h3 h4
      simp only [Bool.and_eq_true, decide_eq_true_eq] at h3 h4
      exact sS_appop h3.1.1 (visB_ok h3.1.2) (nm2 h3.2).1 (nm2 h3.2).2 h4.1.1 (visB_ok h4.1.2) (nm2 h4.2).1 (nm2 h4.2).2 (sE e q.gd q.tb q.hu h5) ⟨sh_star (okE_sh h5) _ _, trivial⟩ h6 h7
    · cases h
  | .popto _ _ _, X, W, g, w, n, hot, q, st, h => by unfold okS at h; cases h
  | .poptup _ _ _, X, W, g, w, n, hot, q, st, h => by unfold okS at h; cases h
  | .retpop _ _, X, W, g, w, n, hot, q, st, h => by unfold okS at h; cases h
  | .popd _ (.some _), X, W, g, w, n, hot, q, st, h => by unfold okS at h; cases h
  | .popd i .none, X, W, g, w, n, hot, q, st, h => by
    unfold okS at h; split at h
    · simp only [Bool.and_eq_true, decide_eq_true_eq] at h
      obtain ⟨⟨h1, h2⟩, h3⟩ := h
      subst h1
      unfold vrB at h2
      simp only [Bool.and_eq_true, decide_eq_true_eq] at h2
      exact sS_popd h2.1.1 (visB_ok h2.1.2) (nm2 h2.2).1 (nm2 h2.2).2 h3
    · cases h
  | .rev i, X, W, g, w, n, hot, q, st, h => by
    unfold okS at h; split at h
    · simp only [Bool.and_eq_true, decide_eq_true_eq] at h
      obtain ⟨⟨h1, h2⟩, h3⟩ := h
      subst h1
      unfold vrB at h2
      simp only [Bool.and_eq_true, decide_eq_true_eq] at h2
      exact sS_rev h2.1.1 (visB_ok h2.1.2) (nm2 h2.2).1 (nm2 h2.2).2 h3
    · cases h
  | .ext _ _, X, W, g, w, n, hot, q, st, h => by unfold okS at h; cases h
  | .ins _ _ _, X, W, g, w, n, hot, q, st, h => by unfold okS at h; cases h
  | .sdapp _ _ _, X, W, g, w, n, hot, q, st, h => by unfold okS at h; cases h
  | .fld i f e, X, W, g, w, n, hot, q, st, h => by
    unfold okS at h; split at h
    · simp only [Bool.and_eq_true, decide_eq_true_eq, Bool.not_eq_true'] at h
      obtain ⟨⟨⟨⟨h1, h2⟩, h3⟩, h4⟩, h5⟩ := h
      subst h1
      unfold vrB at h3
      simp only [Bool.and_eq_true, decide_eq_true_eq] at h3
      exact sS_fld q.gd.fx h2 h3.1.1 (visB_ok h3.1.2) (nm2 h3.2).1 (nm2 h3.2).2 (sE e q.gd q.tb q.hu h4) (sw_no h5 (okE_sh h4) _ _ _)
    · cases h
  | .ex e, X, W, g, w, n, hot, q, st, h => by
    unfold okS at h; split at h
    · simp only [Bool.and_eq_true, Bool.not_eq_true'] at h
      exact sS_ex (sE e q.gd q.tb q.hu h.1) (sw_no h.2 (okE_sh h.1) _ _ _)
    · cases h
  | .ife c a b, X, W, g, w, n, hot, q, st, h => by
    unfold okS at h; split at h
    · simp only [Bool.and_eq_true] at h
      exact sS_if (sT c q.gd q.tb q.hu h.1.1).1 (sSs a q h.1.2) (sSs b q h.2)
    · cases h
  | .for_ tg it b, X, W, g, w, n, hot, q, st, h => by
    unfold okS at h; split at h
    · simp only [Bool.and_eq_true, Bool.not_eq_true'] at h
      have h0 := h.1.1.1
      subst h0
      have h : (okTg X.N X.env.scope tg _ = true ∧ okI g X.N false it X.env.scope _ = true) ∧ okSs g X.N false b X.env.scope _ = true := ⟨⟨h.1.1.2, h.1.2⟩, h.2⟩
      have hi := fun t => sI it q.gd q.tb q.hu (tg := t) h.1.2
      have hg := sG q.gd.nd (q.gd.calm rfl) (fun x _ => .inl (q.fn x)) h.1.1 h.1.1
      have hb := sSs b q h.2
      exact sS_for q.gd.fx.hK q.hp (q.gd.calm rfl) (hi _) hg hb (ps_for q.hp (q.gd.calm rfl) (hi _) hg hb (sh_fold (okI_sh h.1.2) _))
    · cases h
  | .while_ c b, X, W, g, w, n, hot, q, st, h => by
    unfold okS at h; split at h
    · simp only [Bool.and_eq_true] at h
      exact sS_while q.hp (sT c q.gd q.tb q.hu h.1).1 (sSs b q h.2)
    · cases h
  | .ret e, X, W, g, w, n, hot, q, st, h => by
    unfold okS at h; split at h
    · rcases isVar_of (e := e) with ⟨i, rfl⟩ | hv
      · unfold okE at h; split at h
        · unfold vrB at h
          simp only [Bool.and_eq_true, decide_eq_true_eq] at h
          exact sS_retv h.1.1 (visB_ok h.1.2) (nm2 h.2).1 (nm2 h.2).2
        · cases h
      · exact sS_ret (sE e q.gd q.tb q.hu h) hv
    · cases h
  | .retn, X, W, g, w, n, hot, q, st, h => by
    unfold okS at h; split at h
    · exact sS_retn
    · cases h
  | .brk, X, W, g, w, n, hot, q, st, h => by
    unfold okS at h; split at h
    · exact sS_brk
    · cases h
  | .cont, X, W, g, w, n, hot, q, st, h => by
    unfold okS at h; split at h
    · exact sS_cont
    · cases h
  | .raise_ c es, X, W, g, w, n, hot, q, st, h => by
    unfold okS at h; split at h
    · simp only [Bool.and_eq_true, decide_eq_true_eq, Bool.not_eq_true'] at h
      obtain ⟨⟨⟨hh, h1⟩, h0⟩, h2⟩ := h
      subst hh
      subst h1
      split at h2
      · rename_i hx
        exact sS_raise0 q hx (glB_ok h0)
      · rename_i hx
        exact sS_raise1 q hx (glB_ok h0) (sE _ q.gd q.tb q.hu h2) ⟨sh_star (okE_sh h2) _ _, trivial⟩
      · cases h2
    · cases h
  | .try_ b (.cons c (some i) hb .nil), X, W, g, w, n, hot, q, st, h => by
    unfold okS at h; split at h
    · simp only [Bool.and_eq_true, decide_eq_true_eq, Bool.not_eq_true'] at h
      obtain ⟨⟨⟨⟨⟨⟨⟨⟨h0, h1⟩, h2⟩, h3⟩, h4⟩, h5⟩, h6⟩, h7⟩, h8⟩ := h
      subst h0; subst h1
      exact sS_try q h5 h6 (glB_ok h2) (nm1 h3) h4 (fun W' pn xe tk hp => sSs b (q.tr tk hp) h7) (fun a oe cls d pn hz hf => sSs hb (q.suite pn hz hf) h8)
    · cases h
  | .try_ _ .nil, X, W, g, w, n, hot, q, st, h => by unfold okS at h; cases h
  | .try_ _ (.cons _ none _ _), X, W, g, w, n, hot, q, st, h => by unfold okS at h; cases h
  | .try_ _ (.cons _ (some _) _ (.cons _ _ _ _)), X, W, g, w, n, hot, q, st, h => by unfold okS at h; cases h
theorem sSs : ∀ (s : Ss) {X : Cx} {W : WX} {g : G} {w : Wr} {n : Nat} {hot : Bool} (q : GdS X W g w n hot) {st : List Stmt}, okSs g X.N hot s X.env.scope st = true → PSs X st (tSs g (cal g n) w W s)
  | .nil, X, W, g, w, n, hot, q, st, h => by
    unfold okSs at h; split at h
    · exact sS_nil
    · cases h
  | .cons s ss, X, W, g, w, n, hot, q, st, h => by
    unfold okSs at h; split at h
    · rw [Bool.and_eq_true] at h
      exact sS_cons (sS s q h.1) (sSs ss q h.2)
    · cases h
end
end
end S2

set_option maxHeartbeats 4000000
/-! S2t: defs and makers keep their promise. -/
namespace S2
open PySem PySem.Spec PyProof.Rows L2

section
variable {P : Program} {wd : World} {K : PySem.W.Frag} {mg : Str → Option Value} {base : Heap} {g : G} {w : Wr}
theorem room_hu {k : Nat} {A : Around} (r : Room k A) : A.units + 66 < cLine := by have := r.un; omega
/-- the body's bundle -/
theorem gdS_of {k : Nat} {N ps : List Str} {qual : Str} {scope : Scope} {f : Addr} {cd : Value} {A : Around} {outer : List PySem.Env} {s : Shared} {H : Hp} {E : XK} (S : FnScope N ps scope) (hr : Room k (A.deeper (envOfC qual scope s.heap.objs.size f cd))) (ng : NoG A)
    (fx : Fx K mg g w) (tb : Tab g w) (ea : ExA P wd K mg g w) (ex : Ex K mg g w) (hlv : HLv P wd K mg base g w) (lv : Lv P wd K mg base g w k) : GdS (cxOf (L2N.CX P wd) P wd K mg base N qual scope f cd A outer s H E) (fun cls d _ H => E cls d H) g w k where
  gd := ⟨fx, S.nd, fun _ => rfl, fun _ => hr, L2N.takes_of rfl rfl rfl rfl, ng, (fun z => by cases z), fun _ => hlv, (fun z => by cases z), fun _ => lv, fun z => (by cases z)⟩
  hp := passes_of rfl
  fn := fun _ => rfl
  stk := rfl
  frm := rfl
  kind := S.kind
  hu := room_hu hr
  tb := tb
  ea := ea
  ex := ex
theorem pof_nil {P0 : Addr → Prop} : ∀ a, Pof P0 (fun _ => []) a → P0 a := fun a z => z.elim id fun ⟨_, m⟩ => by cases m
theorem start_get {N : List Str} {vs : List V} {i : Nat} {v : V} (h : vs[i]? = some v) : (L2.start N vs)[i]? = some (some v) := by
  unfold L2.start
  have hi := (List.getElem?_eq_some_iff.mp h).1
  rw [List.getElem?_append_left (by simpa using hi), List.getElem?_map, h]
  rfl
theorem env0_get {fd : FD} {ds : List D} {i : Nat} {s : OD} (h : (env0 fd ds)[i]? = some (some s)) : ∃ d, ds[i]? = some d ∧ s = (.sh, d) := by
  unfold env0 at h
  by_cases hi : i < ds.length
  · rw [List.getElem?_append_left (by simpa using hi), List.getElem?_map] at h
    cases e : ds[i]? with
    | none => rw [e] at h; cases h
    | some d => rw [e] at h; cases h; exact ⟨d, rfl, rfl⟩
  · rw [List.getElem?_append_right (by simpa using hi), List.getElem?_replicate] at h
    split at h <;> cases h
theorem envS_start {H : Hp} {O : Addr → Prop} {N : List Str} {fd : FD} {ds : List D} {vs : List V} (dom : Dom O H) (r : Reps w H O ds vs) (hn : fd.ns = N.length) (hp : ds.length = fd.np) : EnvS w H O 0 H (L2.start N vs) (env0 fd ds) (fun _ => []) where
  len := by
    unfold env0 L2.start
    rw [List.length_append, List.length_append, List.length_map, List.length_map, List.length_replicate, List.length_replicate, r.length, hn, ← hp, r.length]
  same := Same.refl H
  dom0 := dom
  dis := fun i j a h => by cases h
  new := fun i a h => by cases h
  slot := fun i o d e => by
    obtain ⟨d', e1, e2⟩ := env0_get e
    cases e2
    obtain ⟨v, hv, rv⟩ := r.get e1
    exact ⟨v, start_get hv, rfl, Rep.mono (fun a z => pof_nil a z) _ _ rv⟩
  emp := fun _ _ => rfl
  one := fun i d v e _ => by
    obtain ⟨d', e1, e2⟩ := env0_get e
    cases e2
/-- THE RULE: a def, by the check of its body -/
theorem fn_ok {k : Nat} {f : Addr} {fn name qual : Str} {params : Arguments} {body : List Stmt} {scope : Scope} {dV kV doc pm cdv ct oc : Value} {an od : Option Addr} {osl : Array (Option Value)} {N ps : List Str} {fd : FD}
    (lk : K.lookup f = some ⟨oc, od, .func (PySem.W.fnOf name qual params body scope dV kV doc pm an cdv ct), osl⟩) (hcd : PySem.W.codeIn K cdv qual = true) (S : FnScope N ps scope)
    (fx : Fx K mg g w) (tb : Tab g w) (ea : ExA P wd K mg g w) (ex : Ex K mg g w) (hlv : HLv P wd K mg base g w) (lv : Lv P wd K mg base g w k) (hf : g.fn fn = some fd) (hn : fd.ns = N.length) (hp : fd.np = ps.length) (hc : okSs g N false fd.body scope body = true) :
    FnG P wd K mg base (L2N.CX P wd) (k + 1) f (PySem.W.fnOf name qual params body scope dV kV doc pm an cdv ct) ps (spF g w (k + 1) fn) := by
  have un : ∀ ds, callD g (k + 1) fn ds = if ds.length = fd.np then endR (exs g (cal g k) fd.body (env0 fd ds)) else .no := fun ds => by
    show (match g.fn fn with | some fd => if ds.length = fd.np then endR (exs g (cal g k) fd.body (env0 fd ds)) else .no | none => .no) = _
    rw [hf]
  refine fnG_of lk hcd S (fun vs H Q E ⟨ds, O, dom, r, m⟩ => ?_) fun A outer s H vs Q E hr ng ⟨ds, O, dom, r, m⟩ => ?_
  · rw [un] at m
    split at m
    · rename_i v e; split at e
      · rename_i hl; rw [← r.length, hl, hp]
      · cases e
    · rename_i v e; split at e
      · rename_i hl; rw [← r.length, hl, hp]
      · cases e
    · exact m.elim
  · rw [un] at m
    by_cases hl : ds.length = fd.np
    · rw [if_pos hl] at m
      have q := gdS_of (P := P) (wd := wd) (base := base) (outer := outer) (H := H) (E := E) S hr ng fx tb ea ex hlv lv
      refine ⟨_, sSs fd.body q hc, H, O, 0, env0 fd ds, _, envS_start dom r hn hl, ?_⟩
      cases z : exs g (cal g k) fd.body (env0 fd ds) with
      | nx env => rw [z] at m; exact fun σ H' own E' => m .non H' E'.same (VR.sh rfl)
      | ret o d => rw [z] at m; exact fun x H' s' r' => m x H' s' r'
      | brk env => rw [z] at m; exact m.elim
      | ct env => rw [z] at m; exact m.elim
      | exc env e => rw [z] at m; exact fun σ H' own cls dd E' x => m cls dd H' E'.same (x.mono fun a z => .inl z)
      | no => rw [z] at m; exact m.elim
    · rw [if_neg hl] at m; exact m.elim
/-- an __init__ -/
theorem init_ok {k : Nat} {f : Addr} {c name qual : Str} {params : Arguments} {body : List Stmt} {scope : Scope} {dV kV doc pm cdv ct oc : Value} {an od : Option Addr} {osl : Array (Option Value)} {N ps : List Str} {fd : FD}
    (lk : K.lookup f = some ⟨oc, od, .func (PySem.W.fnOf name qual params body scope dV kV doc pm an cdv ct), osl⟩) (hcd : PySem.W.codeIn K cdv qual = true) (S : FnScope N ps scope)
    (fx : Fx K mg g w) (tb : Tab g w) (ea : ExA P wd K mg g w) (ex : Ex K mg g w) (hlv : HLv P wd K mg base g w) (lv : Lv P wd K mg base g w k) (hf : g.fn (initName c) = some fd) (hw : w.cl c = true) (hn : fd.ns = N.length) (hp : fd.np = ps.length) (hc : okSs g N false fd.body scope body = true) :
    FnG P wd K mg base (L2N.CX P wd) (k + 1) f (PySem.W.fnOf name qual params body scope dV kV doc pm an cdv ct) ps (spI g w (k + 1) c) := by
  have un : ∀ ds, makeD g (k + 1 + 1) c ds = if ds.length + 1 = fd.np then endI (exs g (cal g k) fd.body (some (.oi, .ob c [] []) :: (env0 fd (.non :: ds)).tail)) else .no := fun ds => by
    show (match g.fn (initName c) with | some fd => if ds.length + 1 = fd.np then endI (exs g (cal g k) fd.body (some (.oi, .ob c [] []) :: (env0 fd (.non :: ds)).tail)) else .no | none => .no) = _
    rw [hf]
  refine fnG_of lk hcd S (fun vs H Q E ⟨x, dx, us, ds, O, ev, hx, nx, dom, r, m⟩ => ?_) fun A outer s H vs Q E hr ng ⟨x, dx, us, ds, O, ev, hx, nx, dom, r, m⟩ => ?_
  · rw [un] at m
    subst ev
    split at m
    · rename_i v e; split at e
      · rename_i hl; rw [List.length_cons, ← r.length, hl, hp]
      · cases e
    · rename_i v e; split at e
      · rename_i hl; rw [List.length_cons, ← r.length, hl, hp]
      · cases e
    · exact m.elim
  · rw [un] at m
    by_cases hl : ds.length + 1 = fd.np
    · rw [if_pos hl] at m
      subst ev
      have q := gdS_of (P := P) (wd := wd) (base := base) (outer := outer) (H := H) (E := E) S hr ng fx tb ea ex hlv lv
      have st : EnvS w (fun a => if a = x then none else H a) O x H (L2.start N (.ref x :: us)) (some (.oi, .ob c [] []) :: (env0 fd (.non :: ds)).tail) (fun i => if i = 0 then [x] else []) := by
        have tl : (env0 fd (.non :: ds)).tail = ds.map (fun d => some (.sh, d)) ++ List.replicate (fd.ns - fd.np) none := rfl
        refine ⟨?_, fun a o h => ?_, fun a z h => ?_, fun i j a h1 h2 => ?_, fun i a h => ?_, fun i o d e => ?_, fun i h => ?_, fun i d v e hv => ?_⟩
        · rw [tl]
          unfold L2.start
          rw [List.length_cons, List.length_append, List.length_append, List.length_map, List.length_map, List.length_replicate, List.length_replicate, List.length_cons, r.length, hn, ← hl, r.length]
          omega
        · split at h
          · cases h
          · exact h
        · split at h
          · rename_i e; subst e; exact nx z
          · exact dom a z h
        · by_cases e1 : i = 0
          · by_cases e2 : j = 0
            · rw [e1, e2]
            · simp only [e2, if_false] at h2; cases h2
          · simp only [e1, if_false] at h1; cases h1
        · by_cases e1 : i = 0
          · simp only [e1, if_true] at h
            cases List.mem_singleton.mp h
            simp
          · simp only [e1, if_false] at h; cases h
        · cases i with
          | zero =>
            cases e
            exact ⟨.ref x, start_get rfl, x, c, [], [], rfl, rfl, rfl, x, dx, [], rfl, hx, ⟨hw, rfl⟩, rfl⟩
          | succ i =>
            rw [tl] at e
            have e : (ds.map (fun d => some (Own.sh, d)) ++ List.replicate (fd.ns - fd.np) none)[i]? = some (some (o, d)) := e
            by_cases hi : i < ds.length
            · rw [List.getElem?_append_left (by simpa using hi), List.getElem?_map] at e
              cases q : ds[i]? with
              | none => rw [q] at e; cases e
              | some d' =>
                rw [q] at e; cases e
                obtain ⟨v, hv, rv⟩ := r.get q
                refine ⟨v, start_get (by rw [List.getElem?_cons_succ]; exact hv), rfl, Rep.mono (fun a z => ?_) _ _ rv⟩
                rcases z with z | ⟨j, z⟩
                · exact .inl z
                · by_cases e1 : j = 0
                  · simp only [e1, if_true] at z
                    exact .inr (List.mem_singleton.mp z)
                  · simp only [e1, if_false] at z; cases z
            · rw [List.getElem?_append_right (by simpa using hi), List.getElem?_replicate] at e
              split at e <;> cases e
        · cases i with
          | zero => exact absurd rfl (h .oi (.ob c [] []))
          | succ i => rfl
        · cases i with
          | zero =>
            cases e
            rw [start_get (i := 0) (vs := .ref x :: us) rfl] at hv
            cases hv; rfl
          | succ i =>
            rw [tl] at e
            have e : (ds.map (fun d => some (Own.sh, d)) ++ List.replicate (fd.ns - fd.np) none)[i]? = some (some (.oi, d)) := e
            by_cases hi : i < ds.length
            · rw [List.getElem?_append_left (by simpa using hi), List.getElem?_map] at e
              cases q : ds[i]? with
              | none => rw [q] at e; cases e
              | some d' => rw [q] at e; cases e
            · rw [List.getElem?_append_right (by simpa using hi), List.getElem?_replicate] at e
              split at e <;> cases e
      refine ⟨_, sSs fd.body q hc, _, O, x, _, _, st, ?_⟩
      have keep : ∀ {H' : Hp}, Same (fun a => if a = x then none else H a) H' → ∀ b o, H b = some o → b ≠ x → H' b = some o := fun {H'} s b o h n => s b o (by show (if b = x then none else H b) = some o; rw [if_neg n]; exact h)
      cases z : exs g (cal g k) fd.body (some (.oi, .ob c [] []) :: (env0 fd (.non :: ds)).tail) with
      | nx env =>
        rw [z] at m
        intro σ H' own E'
        cases env with
        | nil => exact m.elim
        | cons s0 rest =>
          cases s0 with
          | none => exact m.elim
          | some od =>
            obtain ⟨o, d⟩ := od
            cases o with
            | oi =>
              obtain ⟨v, hv, p, c', ns, vs', e1, e2, e3, rk⟩ := E'.slot 0 .oi d rfl
              have e4 := E'.one 0 d v rfl hv
              subst e4; subst e2
              obtain ⟨a, dx', fs, e5, hp', hk, rr⟩ := rk
              cases e5
              exact m H' (keep E'.same) ⟨x, dx', fs, rfl, hp', nx, hk, Reps.mono (fun a z => .inl z) _ _ rr⟩
            | _ => exact m.elim
      | ret o d => rw [z] at m; exact m.elim
      | brk env => rw [z] at m; exact m.elim
      | ct env => rw [z] at m; exact m.elim
      | exc env e => rw [z] at m; exact fun σ H' own cls dd E' x' => m cls dd H' (keep E'.same) (x'.mono fun a z => .inl z)
      | no => rw [z] at m; exact m.elim
    · rw [if_neg hl] at m; exact m.elim
/-- a def that is called with the caught exception -/
theorem hot_ok {f : Addr} {fn name qual : Str} {params : Arguments} {body : List Stmt} {scope : Scope} {dV kV doc pm cdv ct oc : Value} {an od : Option Addr} {osl : Array (Option Value)} {N ps : List Str} {fd : FD}
    (lk : K.lookup f = some ⟨oc, od, .func (PySem.W.fnOf name qual params body scope dV kV doc pm an cdv ct), osl⟩) (hcd : PySem.W.codeIn K cdv qual = true) (S : FnScope N ps scope)
    (fx : Fx K mg g w) (tb : Tab g w) (ea : ExA P wd K mg g w) (ex : Ex K mg g w) (hf : g.fn fn = some fd) (hn : fd.ns = N.length) (hp : fd.np = ps.length) (hc : okSs g N true fd.body scope body = true) :
    FnHG P wd K mg base 1 f (PySem.W.fnOf name qual params body scope dV kV doc pm an cdv ct) ps (spH g w fn) := by
  have un : ∀ d, hotR g fn d = if fd.np = 1 then endR (exs g cal0 fd.body (some (.ex, d) :: List.replicate (fd.ns - 1) none)) else .no := fun d => by
    show (match g.fn fn with | some fd => if fd.np = 1 then endR (exs g cal0 fd.body (some (.ex, d) :: List.replicate (fd.ns - 1) none)) else .no | none => .no) = _
    rw [hf]
  have c0 : cal g 0 = cal0 := rfl
  refine fnHG_of lk hcd S (fun p vs H Q ⟨d, O, cls, dd, e1, _, _, _, _, m⟩ => ?_) fun A outer s H vs Q p hr ng hot ⟨d, O, cls, dd, e1, hz, hfd, dom, xr, m⟩ => ?_
  · rw [un] at m
    by_cases h1 : fd.np = 1
    · rw [e1, ← hp, h1]; rfl
    · rw [if_neg h1] at m; exact m.elim
  · rw [un] at m
    by_cases h1 : fd.np = 1
    · rw [if_pos h1] at m
      subst e1
      have fx' : Fx K mg g (w.at_ ⟨p.1, cls, dd⟩) := ⟨fx.hK, fx.free, (fun x d e => by
        obtain ⟨v, u, h1, h2, h3⟩ := fx.con x d e
        exact ⟨v, u, h1, h2, fun H O => Rep.xi _ _ _ (h3 H O)⟩), fx.cls, fx.nf⟩
      have hu : A.units + 3 + 66 < cLine := by have := hr.un; change A.units + 3 + 16 * 0 + 200 < cLine at this; omega
      have q : GdS ((L2H.cxH (L2N.CX P wd) P wd K mg base N qual scope f cdv A outer s H (fun _ _ _ => False) p).suite p.1 [p]) Wf g (w.at_ ⟨p.1, cls, dd⟩) 0 true :=
        ⟨⟨fx', S.nd, (fun h => by cases h), (fun h => by cases h), (fun _ _ ⟨_, _, _, _, _, _, _, _, _, _, _, _, _, _, _, _, f⟩ => f.elim), ng, (fun _ => ⟨p, ⟨rfl, hot.2⟩, List.mem_cons_self, rfl, hz, hfd⟩), (fun h => absurd rfl h), (fun _ h => absurd rfl h), (fun h => by cases h),
          fun _ => sx_suite (X := L2H.cxH (L2N.CX P wd) P wd K mg base N qual scope f cdv A outer s H (fun _ _ _ => False) p) (pn := []) ex fx.free hz.zc hfd⟩, PassesOwn.never, fun _ => rfl, rfl, rfl, S.kind, hu, ⟨tb.cl⟩, (fun Y h1 h2 h3 h4 h5 h6 c ns e => by
          have := ea Y h1 h2 h3 h4 h5 h6 c ns e
          match ns, this with
          | [], t => exact t
          | [f], t => exact t
          | _ :: _ :: _, t => exact t), ⟨ex.exc, ex.own, ex.kit, ex.ve, ex.exm, ex.fno⟩⟩
      have st : EnvS (w.at_ ⟨p.1, cls, dd⟩) H O 0 H (L2.start N [V.ref p.1]) (some (.ex, d) :: List.replicate (fd.ns - 1) none) (fun _ => []) := by
        refine ⟨?_, Same.refl H, dom, (fun i j a h => by cases h), (fun i a h => by cases h), fun i o d' e => ?_, fun _ _ => rfl, fun i d' v e _ => ?_⟩
        · unfold L2.start
          rw [List.length_cons, List.length_replicate, List.length_append, List.length_map, List.length_replicate, hn, List.length_singleton]
          omega
        · cases i with
          | zero =>
            cases e
            exact ⟨.ref p.1, start_get rfl, rfl, rfl, xr.mono (fun a z => pof_nil a z) |>.xi _⟩
          | succ i =>
            rw [List.getElem?_cons_succ, List.getElem?_replicate] at e
            split at e <;> cases e
        · cases i with
          | zero => cases e
          | succ i =>
            rw [List.getElem?_cons_succ, List.getElem?_replicate] at e
            split at e <;> cases e
      refine ⟨_, sSs fd.body q hc, H, O, 0, _, _, st, ?_⟩
      rw [c0]
      cases z : exs g cal0 fd.body (some (.ex, d) :: List.replicate (fd.ns - 1) none) with
      | nx env => rw [z] at m; exact fun σ H' own E' => m .non H' E'.same (VR.sh rfl)
      | ret o d => rw [z] at m; exact fun x H' s' r' => m x H' s' (r'.xi w.xi)
      | brk env => rw [z] at m; exact m.elim
      | ct env => rw [z] at m; exact m.elim
      | exc env e => rw [z] at m; exact m.elim
      | no => rw [z] at m; exact m.elim
    · rw [if_neg h1] at m; exact m.elim
end
end S2

set_option maxHeartbeats 4000000
/-! S2u: all defs, at every level. -/
namespace S2
open PySem PySem.Spec PyProof.Rows L2

/-- the function object at a is the def fn of the table -/
def DefAt (K : PySem.W.Frag) (g : G) (fn : Str) (a : Addr) (fdat : FuncData) (ps : List Str) (hot : Bool := false) : Prop :=
  ∃ (name qual : Str) (params : Arguments) (body : List Stmt) (scope : Scope) (dV kV doc pm cdv ct oc : Value) (an od : Option Addr) (osl : Array (Option Value)) (N : List Str) (fd : FD),
    fdat = PySem.W.fnOf name qual params body scope dV kV doc pm an cdv ct ∧ K.lookup a = some ⟨oc, od, .func (PySem.W.fnOf name qual params body scope dV kV doc pm an cdv ct), osl⟩ ∧ PySem.W.codeIn K cdv qual = true ∧ FnScope N ps scope ∧
    g.fn fn = some fd ∧ fd.ns = N.length ∧ fd.np = ps.length ∧ okSs g N hot fd.body scope body = true
structure Defs (K : PySem.W.Frag) (mg : Str → Option Value) (g : G) (w : Wr) : Prop where
  fn : ∀ f, g.top f = true → ∃ a fd ps, mg f = some (.ref a) ∧ PySem.W.keepIn K (.ref a) = true ∧ Binds K fd ps [] ∧ DefAt K g f a fd ps
  mt : ∀ c m f, g.mth c m = some f → ∃ a fd ps, Cls K (w.ca c) ∧ Meth K (w.ca c) m a ∧ Binds K fd ps [] ∧ DefAt K g f a fd ps
  mkr : ∀ c, g.cl c = true → ∃ a fd ps, mg c = some (.ref (w.ca c)) ∧ Mk K (w.ca c) a ∧ Binds K fd ps [] ∧ DefAt K g (initName c) a fd ps
  ht : ∀ f, g.hf f = true → ∃ a fd ps, mg f = some (.ref a) ∧ PySem.W.keepIn K (.ref a) = true ∧ Binds K fd ps [] ∧ DefAt K g f a fd ps true
section
variable {P : Program} {wd : World} {K : PySem.W.Frag} {mg : Str → Option Value} {base : Heap} {g : G} {w : Wr}
theorem fn_at {k : Nat} {fn : Str} {a : Addr} {fdat : FuncData} {ps : List Str} (fx : Fx K mg g w) (tb : Tab g w) (ea : ExA P wd K mg g w) (ex : Ex K mg g w) (hlv : HLv P wd K mg base g w) (lv : Lv P wd K mg base g w k) (h : DefAt K g fn a fdat ps) : FnG P wd K mg base (L2N.CX P wd) (k + 1) a fdat ps (spF g w (k + 1) fn) := by
  obtain ⟨name, qual, params, body, scope, dV, kV, doc, pm, cdv, ct, oc, an, od, osl, N, fd, e, lk, hcd, S, hf, hn, hp, hc⟩ := h
  subst e
  exact fn_ok lk hcd S fx tb ea ex hlv lv hf hn hp hc
theorem init_at {k : Nat} {c : Str} {a : Addr} {fdat : FuncData} {ps : List Str} (fx : Fx K mg g w) (tb : Tab g w) (ea : ExA P wd K mg g w) (ex : Ex K mg g w) (hlv : HLv P wd K mg base g w) (lv : Lv P wd K mg base g w k) (hc' : g.cl c = true) (h : DefAt K g (initName c) a fdat ps) : FnG P wd K mg base (L2N.CX P wd) (k + 1) a fdat ps (spI g w (k + 1) c) := by
  obtain ⟨name, qual, params, body, scope, dV, kV, doc, pm, cdv, ct, oc, an, od, osl, N, fd, e, lk, hcd, S, hf, hn, hp, hc⟩ := h
  subst e
  exact init_ok lk hcd S fx tb ea ex hlv lv hf (tb.cl c hc') hn hp hc
theorem fn_zero {fn : Str} {a : Addr} {fdat : FuncData} {ps : List Str} : FnG P wd K mg base (L2N.CX P wd) 0 a fdat ps (spF g w 0 fn) :=
  ⟨fun vs H Q E ⟨ds, O, _, _, m⟩ => m.elim, fun A outer s H args us vs Q E _ _ _ _ _ ⟨ds, O, _, _, m⟩ => m.elim⟩
theorem init_zero {c : Str} {a : Addr} {fdat : FuncData} {ps : List Str} : FnG P wd K mg base (L2N.CX P wd) 0 a fdat ps (spI g w 0 c) :=
  ⟨fun vs H Q E ⟨x, dx, us, ds, O, _, _, _, _, _, m⟩ => m.elim, fun A outer s H args us vs Q E _ _ _ _ _ ⟨x, dx, us, ds, O, _, _, _, _, _, m⟩ => m.elim⟩
theorem hlv_all (fx : Fx K mg g w) (tb : Tab g w) (ea : ExA P wd K mg g w) (ex : Ex K mg g w) (df : Defs K mg g w) : HLv P wd K mg base g w := fun f hf => by
  obtain ⟨a, fd, ps, h1, h2, h3, h4⟩ := df.ht f hf
  obtain ⟨name, qual, params, body, scope, dV, kV, doc, pm, cdv, ct, oc, an, od, osl, N, fd', e, lk, hcd, S, hf', hn, hp, hc⟩ := h4
  subst e
  exact ⟨a, _, ps, h1, h2, h3, hot_ok lk hcd S fx tb ea ex hf' hn hp hc⟩
/-- every def keeps its promise at every level -/
theorem lv_all (fx : Fx K mg g w) (tb : Tab g w) (ea : ExA P wd K mg g w) (ex : Ex K mg g w) (df : Defs K mg g w) : ∀ k, Lv P wd K mg base g w k ∧ Lv P wd K mg base g w (k + 1)
  | 0 => by
    have l0 : Lv P wd K mg base g w 0 := ⟨fun f h => let ⟨a, fd, ps, h1, h2, h3, _⟩ := df.fn f h; ⟨a, fd, ps, h1, h2, h3, fn_zero⟩, fun c m f h => let ⟨a, fd, ps, h1, h2, h3, _⟩ := df.mt c m f h; ⟨a, fd, ps, h1, h2, h3, fn_zero⟩, fun c k h e => by cases e⟩
    exact ⟨l0, fun f h => let ⟨a, fd, ps, h1, h2, h3, h4⟩ := df.fn f h; ⟨a, fd, ps, h1, h2, h3, fn_at fx tb ea ex (hlv_all fx tb ea ex df) l0 h4⟩, fun c m f h => let ⟨a, fd, ps, h1, h2, h3, h4⟩ := df.mt c m f h; ⟨a, fd, ps, h1, h2, h3, fn_at fx tb ea ex (hlv_all fx tb ea ex df) l0 h4⟩, fun c k h e => by
      cases e
      obtain ⟨a, fd, ps, h1, h2, h3, h4⟩ := df.mkr c h
      exact ⟨a, fd, ps, h1, h2, h3, init_zero⟩⟩
  | k + 1 => by
    obtain ⟨l0, l1⟩ := lv_all fx tb ea ex df k
    exact ⟨l1, fun f h => let ⟨a, fd, ps, h1, h2, h3, h4⟩ := df.fn f h; ⟨a, fd, ps, h1, h2, h3, fn_at fx tb ea ex (hlv_all fx tb ea ex df) l1 h4⟩, fun c m f h => let ⟨a, fd, ps, h1, h2, h3, h4⟩ := df.mt c m f h; ⟨a, fd, ps, h1, h2, h3, fn_at fx tb ea ex (hlv_all fx tb ea ex df) l1 h4⟩, fun c j h e => by
      have e : j = k + 1 := by omega
      subst e
      obtain ⟨a, fd, ps, h1, h2, h3, h4⟩ := df.mkr c h
      exact ⟨a, fd, ps, h1, h2, h3, init_at fx tb ea ex (hlv_all fx tb ea ex df) l0 h h4⟩⟩
end
end S2

set_option maxHeartbeats 4000000
/-! S2v: how exceptions are made. -/
namespace S2
open PySem PySem.Spec PyProof.Rows L2
abbrev veB : List Value := [.type "ValueError", .type "Exception", .type "BaseException", .type "object"]
/-- what the written part must say of an own exception class without an __init__ -/
def exC0 (K : PySem.W.Frag) (C : Addr) : Bool := PySem.W.excIn K C veB "ValueError.__new__" && PySem.W.keepIn K (.ref C) && decide (PySem.W.subIn K (.ref C) (.type "BaseException") = some true) && decide (PySem.W.typeIn K (.ref C) = some (.type "type"))
theorem exF0 {X : Cx} {w : Wr} {c : Str} (h : exC0 X.K (w.ca c) = true) (gC : X.mg c = some (.ref (w.ca c))) (hd : (c == ("__debug__" : Str)) = false) : ExF X w c [] := by
  unfold exC0 at h
  simp only [Bool.and_eq_true, decide_eq_true_eq] at h
  obtain ⟨⟨⟨h1, h2⟩, h3⟩, h4⟩ := h
  exact fun x j p1 p2 pos hg => L2N.pmk_own PySem.F.excBase_ValueError h1 gC h2 (raises_own h3 h4) hg hd
end S2

set_option maxHeartbeats 4000000
/-! S2y: own exceptions whose __init__ says super().__init__('..') and keeps its argument in one field. -/
namespace S2
open PySem PySem.Spec PyProof.Rows L2

/-- the text of such an __init__ -/
def supB (f : Str) (params : Arguments) (body : List Stmt) (scope : Scope) : Bool :=
  (match params.args.map (fun a => a.arg), params.posonlyargs, params.vararg, params.kwonlyargs, params.kwarg with
    | [a, b], [], none, [], none => decide (a = ("self" : Str)) && decide (b = f)
    | _, _, _, _, _ => false) &&
  (match body with
    | [.Expr (.Call (.Attribute (.Call (.Name s0 _) [] [] _) m ap) [.Constant (.str _) _ _] [] cp) _, .Assign [.Attribute (.Name s1 _) f1 _] (.Name s2 _) _] =>
      decide (s0 = ("super" : Str)) && decide (m = ("__init__" : Str)) && decide (s1 = ("self" : Str)) && decide (f1 = f) && decide (s2 = f) && (ap.endLine == cp.line)
    | _ => false) &&
  decide (scope.names.lookup ("super" : Str) = some .globalImplicit) && decide (scope.names.lookup ("__class__" : Str) = some .free) && decide (scope.names.lookup ("self" : Str) = some .local) && decide (scope.names.lookup f = some .local) &&
  (scope.names.all fun p => !(p.2 == .cell)) && !scope.isCoroutine && !scope.isGenerator && (scope.kind == .function) && !(f == ("__debug__" : Str)) && !(f == ("self" : Str))
/-- the class, its __init__'s cell and code, in the written part -/
structure SupTxt (P : Program) (K : PySem.W.Frag) (f : Str) (C fI : Addr) : Prop where
  cls : ∃ nm q N bs bm sn sub ab col dd k0 k1 k2 k3 k5, K.lookup C = some (excClassObj nm q C N bs bm true sn sub ab col dd k0 k1 k2 k3 k5 "ValueError.__new__") ∧ PySem.HandSPX.refsVE bm = true
  sa : PySem.W.findIn K (.ref C) "__setattr__" = some (some (.builtin "object.__setattr__"))
  noN : PySem.W.findIn K (.ref C) f = some none
  iC : PySem.W.findIn K (.ref C) "__init__" = some (some (.ref fI))
  tC : PySem.W.typeIn K (.ref fI) = some (.type "function")
  kC : PySem.W.keepIn K (.ref C) = true
  exC : PySem.W.subIn K (.ref C) (.type "BaseException") = some true
  tyC : PySem.W.typeIn K (.ref C) = some (.type "type")
  spr : PySem.W.ks_superIn K C C "__init__" = some (some (.builtin "ValueError.__init__"))
  sVE : PySem.W.subIn K (.ref C) (.type "ValueError") = some true
  mro : PySem.W.mroIn K C (.ref C) = some true
  opq : PySem.W.nsIn K cStatics "thirdparty.any" = some none
  fn : ∃ (oc : Value) (od : Option Addr) (name qual : Str) (params : Arguments) (body : List Stmt) (scope : Scope) (dV kV doc pm : Value) (an : Option Addr) (cda cc : Addr) (ct : Value) (osl : Array (Option Value)),
    K.lookup fI = some ⟨oc, od, .func (PySem.W.ksFn name qual params body scope dV kV doc pm an (.ref cda) ct cc), osl⟩ ∧ PySem.W.codeIn K (.ref cda) qual = true ∧ supB f params body scope = true ∧
    (∃ ccl cdd vs ccs file tf, K.lookup cda = some ⟨ccl, cdd, .fields vs, ccs⟩ ∧ vs[2]? = some (.str file tf) ∧ ((P.main.file : Str) == file) = true) ∧ (∃ cl cld csl, K.lookup cc = some ⟨cl, cld, .cell (some (.ref C)), csl⟩) ∧
    ∀ (s : Shared) (x v : Value), BindsTo s (PySem.W.ksFn name qual params body scope dV kV doc pm an (.ref cda) ct cc) ⟨[x, v], []⟩ [(("self" : Str), x), (f, v)]
  top : (P.main.scope.names.lookup ("super" : Str)).isSome = false

section
open PySem.W PySem.Calls PyProof.Rows PySem.HandSPX
variable {prog : Program} {w : World} {A : Around} {E : Value → Shared → Prop} {R : Result → Shared → Prop} {s : Shared} {K : Frag} {mg mb : Str → Option Value} {C fI : Addr} {f : Str}
/-- what __init__ leaves of a fresh exception at x -/
structure SupEnd (h h' : Heap) (x C dx t1 : Addr) (f : Str) (v : Value) : Prop where
  keep : ∀ b o, b ≠ x → h.get? b = some o → h'.get? b = some o
  obj : h'.get? x = some { cls := .ref C, dict := some dx, data := .fields #[.ref t1, .none, .none, .none, .bool false, .none] }
  dbig : h.objs.size ≤ dx
  dne : dx ≠ x
  ns : h'.Ns1 dx (fun y => if y = f then some v else none)
/-- the bound ValueError.__init__ is called -/
theorem call_mw {h : Heap} {g : Array GenState} {d : Drawn} {t : Nat} {os : OsState} {u e t0 : Addr} {rest : List Value} {Q : Value → Shared → Prop} {nm q : Str} {N : Addr} {bs bm : List Value} {hdct : Bool} {sn : List Str} {sub : List Value} {ab : Bool} {col : Option Bool} {dd : Option Addr} {k0 k1 k2 k3 k5 : Option Value}
    (hC : h.get? C = some (excClassObj nm q C N bs bm hdct sn sub ab col dd k0 k1 k2 k3 k5 "ValueError.__new__")) (he : h.get? e = some (excO C t0)) (hu : h.get? u = some (kxs_mw "ValueError.__init__" e)) (hrest : rest.length ≤ sizeLine)
    (hq : ∀ h' t1, (∀ b o, b ≠ e → h.get? b = some o → h'.get? b = some o) → h'.get? e = some (excO C t1) → Q .none ⟨h', g, d, t, os⟩) :
    wpAny (model prog w) A (call (.ref u) rest) Q E ⟨h, g, d, t, os⟩ := by
  have FB := F.excBase_ValueError
  refine wpAny_call (codeAny_of_tree (show wpAny _ A.in1 (callAny (.ref u) ⟨rest, []⟩) _ _ _ from ?_))
  simp only [callAny]
  refine wpAny_bind (wpAny_load hu ?_)
  have ty : (Value.type "method-wrapper" == Value.type "method" || Value.type "method-wrapper" == Value.type "builtin_function_or_method" || Value.type "method-wrapper" == Value.type "method-wrapper") = true := by decide
  simp only [kxs_mw, ty, if_true]
  refine PySem.W.KFB.if_so (by decide) (wpAny_bind (check_bound_init FB.toExcCallFacts hC he rfl (wpAny_bind (wpAny_pure (wpAny_pure ⟨plainId_quiet FB.init.plain _, codeAny_builtin FB.initEntry ?_⟩)))))
  rw [Around.under_plainId FB.init.plain _]
  wp_walk
  refine hq _ h.objs.size (fun b o hb ho => (Heap.get?_update_other _ _ (Ne.symm hb)).trans (Heap.get?_push_of_some _ ho)) ?_
  exact (Heap.get?_update_self _ (Heap.get?_push_of_some _ he) rfl).trans rfl
theorem supB_ok {params : Arguments} {body : List Stmt} {scope : Scope} (h : supB f params body scope = true) : ∃ (a0 a1 : Arg) (s : Str) (j : Nat) (p0 p1 p2 p3 p4 p5 p6 p7 p8 p9 : Pos), params.args = [a0, a1] ∧ params.posonlyargs = [] ∧ (p2.endLine == p4.line) = true ∧ a0.arg = ("self" : Str) ∧
    body = [.Expr (.Call (.Attribute (.Call (.Name "super" p0) [] [] p1) "__init__" p2) [.Constant (.str s) j p3] [] p4) p5, .Assign [.Attribute (.Name "self" p6) f p7] (.Name f p8) p9] ∧
    scope.names.lookup ("super" : Str) = some .globalImplicit ∧ scope.names.lookup ("__class__" : Str) = some .free ∧ scope.names.lookup ("self" : Str) = some .local ∧ scope.names.lookup f = some .local ∧ (∀ x ∈ scope.names, x.2 ≠ .cell) ∧ scope.isCoroutine = false ∧ scope.isGenerator = false ∧ scope.kind = .function ∧ (f == ("__debug__" : Str)) = false ∧ f ≠ ("self" : Str) := by
  unfold supB at h
  simp only [Bool.and_eq_true, decide_eq_true_eq, Bool.not_eq_true'] at h
  obtain ⟨⟨⟨⟨⟨⟨⟨⟨⟨⟨⟨h1, h2⟩, h3⟩, h4⟩, h5⟩, h6⟩, h7⟩, h8⟩, h9⟩, h10⟩, h11⟩, h12⟩ := h
  split at h2
  case h_2 => cases h2
  rename_i s0 p0 p1 m p2 x j p3 p4 p5 s1 p6 f1 p7 s2 p8 p9
  simp only [Bool.and_eq_true, decide_eq_true_eq] at h2
  obtain ⟨⟨⟨⟨⟨e1, e2⟩, e3⟩, e4⟩, e5⟩, e6⟩ := h2
  subst e1 e2 e3 e4 e5
  split at h1
  case h_2 => cases h1
  rename_i a b z1 z2 z3 z4 z5
  simp only [Bool.and_eq_true, decide_eq_true_eq] at h1
  cases e : params.args with
  | nil => rw [e] at z1; cases z1
  | cons a0 r =>
    cases r with
    | nil => rw [e] at z1; cases z1
    | cons a1 r =>
      cases r with
      | cons _ _ => rw [e] at z1; cases z1
      | nil =>
        rw [e] at z1
        have z1 := List.cons.inj z1
        refine ⟨a0, a1, x, j, p0, p1, p2, p3, p4, p5, p6, p7, p8, p9, rfl, z2, e6, z1.1.trans h1.1, rfl, h3, h4, h5, h6, fun y m c => ?_, h8, h9, beq_iff_eq.mp h10, h11, fun z => ?_⟩
        · have := List.all_eq_true.mp h7 y m
          rw [c] at this
          cases this
        · rw [z] at h12
          exact absurd h12 (by decide)
theorem sup_shape {o : Expr} {env : PySem.Env} {m : Str} {ap pos : Pos} {args : List Expr} (hf : methodCallForm args.length (backTo pos (starEach args env)) [] = true) (hl : (ap.endLine == pos.line) = true) :
    eval (.Call (.Attribute o m ap) args [] pos) env = attributeBase o m env (eval o env) >>= fun ov => standAt ap.atName >>= fun _ => holding [ov] (getMethod ov m (do return (← importBound o env).getD true)) >>= fun fx => callWith pos fx.1 fx.2 (backTo pos (starEach args env)) [] := by
  show (attributeBase o m env (eval o env) >>= fun ov => standAt ap.atName >>= fun _ => methodCall o m ap pos env ov (args.length + 0) (backTo pos (starEach args env)) (backToKw pos (keywordEach [] env))) = _
  have hk : backToKw pos (keywordEach [] env) = [] := by rfl
  rw [hk]
  unfold methodCall calleeOf methodCallPos
  rw [Nat.add_zero, hf, hl]
  rfl
theorem sup_init (T : SupTxt prog K f C fI) {x t0 : Addr} {v : Value} (X : K.In s.heap) (G : s.heap.Ns mainGlobals mg) (hsup : mg ("super" : Str) = none) (B : s.heap.Ns builtinsNs mb) (hmb : mb ("super" : Str) = some (.type "super")) (hlim : s.heap.NoLimit) (hx : s.heap.get? x = some (excO C t0)) (hnx : K.lookup x = none) (hroom : A.depth < recursionLimit)
    (hq : ∀ h' tk dx t1, SupEnd s.heap h' x C dx t1 f v → R (.ok (.ret .none)) { s with heap := h', toks := tk }) :
    codeAny (model prog w) A (.call (.ref fI) ⟨[.ref x, v], []⟩) R s := by
  obtain ⟨oc, od, name, qual, params, body, scope, dV, kV, doc, pm, an, cda, cc, ct, osl, ho, hcd, hb, ⟨ccl, cdd, vs, ccs, file, tf, hcode, hvs, hfile⟩, ⟨cl, cld, csl, hcell⟩, hbind⟩ := T.fn
  obtain ⟨nm, q, N, bs, bm, sn, sub, ab, col, dd, k0, k1, k2, k3, k5, hC, hbm⟩ := T.cls
  have hcl : clsIn K C = some { name := nm, bases := bs, mro := .ref C :: bm, ns := N, qualname := q, hasDict := true, slotNames := sn, subclasses := sub, abstract := ab, collection := col, hasDel := false } := by unfold clsIn; rw [hC] <;> rfl
  obtain ⟨a0, a1, sx, j, p0, p1, p2, p3, p4, p5, p6, p7, p8, p9, pa, pp, hline, ha0, hbd, ks, kc, kself, kf, nocell, hco, hgen, hkind, hdb, nself⟩ := supB_ok hb
  subst hbd
  refine ks_codeAny_call_defAt (binds := [(("self" : Str), .ref x), (f, v)]) hroom (X _ _ ho) rfl hlim (codeRec_of X hcd) rfl (hbind _ _ _) nocell (fun y m => ?_) (fun h1 hn k1' => ?_) hco hgen hkind
  · rcases List.mem_cons.mp m with rfl | m
    · exact kself
    · cases List.mem_singleton.mp m
      exact kf
  have X1 : K.In h1 := X.keeps k1'
  have hx1 := k1' _ _ hx
  have I1 : InstAt h1 x (excO C t0) C none := ⟨hx1, rfl, rfl, trivial⟩
  have m0 : ([(("self" : Str), Value.ref x), (f, v)] : List (Str × Value)).reverse.lookup ("self" : Str) = some (.ref x) := by
    show List.lookup ("self" : Str) [(f, v), (("self" : Str), Value.ref x)] = _
    have : (("self" : Str) == f) = false := by simpa using Ne.symm nself
    simp [List.lookup, this]
  have mf : ([(("self" : Str), Value.ref x), (f, v)] : List (Str × Value)).reverse.lookup f = some v := by
    show List.lookup f [(f, v), (("self" : Str), Value.ref x)] = _
    simp [List.lookup]
  have hCa := X1 _ _ hC
  have big : s.heap.objs.size < h1.objs.size := hn.lt
  refine ks_wpAt_execs_cons (ks_wpAt_Expr_any (ks_wpAt_MethodCall ?_ (sup_shape (by rfl) hline)) (by unfold interactive; rw [show (callEnv (ksFn name qual params _ scope dV kV doc pm an (.ref cda) ct cc) s.heap.objs.size fI).scope.kind = .function from hkind]; rfl))
  refine ks_wpAt_super_base (ar := a0) (env := callEnv (ksFn name qual params _ scope dV kV doc pm an (.ref cda) ct cc) s.heap.objs.size fI) ks kc (by decide) rfl (X1 _ _ ho) rfl (by show (params.posonlyargs ++ params.args).head? = _; rw [pp, pa]; rfl) rfl (X1 _ _ hcode) rfl hvs hfile T.top ?_
  refine ks_loadName_global hkind ks (loadGlobal_builtin (G.keeps k1') hsup (B.keeps k1') hmb ⟨rfl, ?_⟩)
  refine wpAny_loadName_free hkind kc rfl ⟨_, X1 _ _ hcell, rfl⟩ ?_
  rw [ha0]
  refine wpAny_loadName_local hkind kself hn m0 ?_
  refine ks_wpAny_isType_cls hCa rfl ⟨rfl, ?_⟩
  refine ks_wpAny_call_super hCa rfl hx1 rfl (fun c e => by cases e) (looks_mroIn X1 T.mro) fun h2 hso k2' => ?_
  have X2 : K.In h2 := X1.keeps k2'
  have I2 : InstAt h2 x (excO C t0) C none := ⟨k2' _ _ hx1, rfl, rfl, trivial⟩
  have hspr := T.spr
  unfold ks_superIn at hspr
  rw [hcl] at hspr
  refine kxs_getMethod kxs_ValueError hso (looks_opaque X2 T.opq) ((looks_clsIn X2 hcl).andThen .now) rfl X2 hspr (I2.type.andThen (looks_subIn X2 T.sVE)) (ks_ne X2 I2 hcl) (by decide) ?_
  have hmw : (h2.push (kxs_mw "ValueError.__init__" x)).get? h2.objs.size = some (kxs_mw "ValueError.__init__" x) := Heap.get?_push_at rfl rfl
  have k3' : ∀ b o, h2.get? b = some o → (h2.push (kxs_mw "ValueError.__init__" x)).get? b = some o := fun b o e => Heap.get?_push_of_some _ e
  refine kxs_callWith (i := "ValueError.__init__") (x := x) (by rfl) (evalArgs_plain ?_)
  refine Calls.spliced_cons ?_
  show wpAny _ _ (eval (.Constant (.str sx) j p3) (callEnv (ksFn name qual params _ scope dV kV doc pm an (.ref cda) ct cc) s.heap.objs.size fI)) _ _ _
  refine Calls.Constant_str (Calls.spliced_nil ?_)
  refine ⟨hmw, ?_⟩
  refine call_mw (t0 := t0) (k3' _ _ (k2' _ _ hCa)) (k3' _ _ (k2' _ _ hx1)) hmw (by rw [sizeLine_eq]; exact (by decide : (1 : Nat) ≤ 16777216)) fun h4 t1 k4' hx4 => ?_
  have nx2 : ∀ b o, b ≠ x → h1.get? b = some o → h4.get? b = some o := fun b o hb e => k4' b o hb (k3' _ _ (k2' _ _ e))
  have xL : s.heap.objs.size ≠ x := Nat.ne_of_gt (Heap.lt_size hx)
  have hn4 : h4.Ns s.heap.objs.size (fun y => ([(("self" : Str), Value.ref x), (f, v)] : List (Str × Value)).reverse.lookup y) := hn.at fun o e => nx2 _ _ xL e
  have X4 : K.In h4 := fun a o e => nx2 a o (fun z => by rw [z, hnx] at e; cases e) (X1 a o e)
  refine ks_wpAt_execs_cons (wpAt_of_wpAny (plainObj_wpAny_Assign_Attribute ?_))
  refine wpAny_Name (wpAny_loadName_local hkind kf hn4 mf ?_) hdb
  refine wpAny_Name (wpAny_loadName_local hkind kself hn4 m0 ?_) (by decide)
  refine set_plain X4 (ox := excO C t1) (od := none) ⟨hx4, rfl, rfl, trivial⟩ T.sa ?_
  refine exc_osa X4 hx4 hcl (show refsVE (.ref C :: bm) = true from hbm) rfl T.noN (fun h5 tk5 dx k5' dn dne hx5 hn5 => ?_)
  have a1 : h2.objs.size < h4.objs.size := Heap.lt_size (k4' _ _ (Nat.ne_of_gt (Heap.lt_size (k2' _ _ hx1))) hmw)
  have a2 : h1.objs.size < h2.objs.size := Heap.lt_size hso
  have dn' : h4.objs.size ≤ dx := dn
  exact wpAt_of_wpAny (wpAny_execs_nil (hq h5 tk5 dx t1 ⟨fun b o hb e => k5' b o hb (nx2 b o hb (k1' b o e)), hx5, by omega, dne, hn5⟩))
/-- such an exception, made -/
structure SupMade (h h' : Heap) (e C d : Addr) (f : Str) (v : Value) : Prop where
  keep : ∀ b o, h.get? b = some o → h'.get? b = some o
  new : h.objs.size ≤ e
  obj : ∃ oe vs, h'.get? e = some oe ∧ oe.cls = .ref C ∧ oe.dict = some d ∧ oe.data = .fields vs ∧ vs[1]? = some .none ∧ vs[2]? = some .none
  dbig : h.objs.size ≤ d
  dne : d ≠ e
  ns : h'.Ns1 d (fun y => if y = f then some v else none)
theorem sup_made (T : SupTxt prog K f C fI) {v : Value} (X : K.In s.heap) (G : s.heap.Ns mainGlobals mg) (hsup : mg ("super" : Str) = none) (B : s.heap.Ns builtinsNs mb) (hmb : mb ("super" : Str) = some (.type "super")) (hlim : s.heap.NoLimit) (hroom : A.depth + 1 < recursionLimit)
    (hq : ∀ h' tk e d, SupMade s.heap h' e C d f v → R (.ok (.ret (.ref e))) { s with heap := h', toks := tk }) :
    codeAny (model prog w) A (.call (.ref C) ⟨[v], []⟩) R s := by
  obtain ⟨nm, q, N, bs, bm, sn, sub, ab, col, dd, k0, k1, k2, k3, k5, hC, hbm⟩ := T.cls
  obtain ⟨hp, g, dr, tk, os⟩ := s
  have k : ∀ b o, hp.get? b = some o → ((hp.push (kdv_tup [v])).push (excO C hp.objs.size)).get? b = some o := fun b o e => Heap.get?_push_of_some _ (Heap.get?_push_of_some _ e)
  have hget : ((hp.push (kdv_tup [v])).push (excO C hp.objs.size)).get? (hp.objs.size + 1) = some (excO C hp.objs.size) := by heap_get
  have hnx : K.lookup (hp.objs.size + 1) = none := by
    cases e : K.lookup (hp.objs.size + 1) with
    | none => rfl
    | some o => exact absurd (Nat.lt_of_succ_lt (Heap.lt_size (show hp.get? (hp.objs.size + 1) = some o from X _ _ e))) (Nat.lt_irrefl _)
  refine call_own F.excBase_ValueError (fun X => refsVE_contains X bm hbm) (X _ _ hC) (looks_findIn X T.iC) (fun self => bind_fn X self T.tC) (by rw [sizeLine_eq]; exact (by decide : (1 : Nat) ≤ 16777216)) ?_
  refine sup_init (mg := mg) (mb := mb) (s := ⟨(hp.push (kdv_tup [v])).push (excO C hp.objs.size), g, dr, tk, os⟩) T (X.keeps k) (G.keeps k) hsup (B.keeps k) hmb (hlim.keeps k) hget hnx (show A.depth + 1 < recursionLimit from hroom) fun h' tk' dx t1 ⟨k', hx, dn, dne, hns⟩ => ?_
  have old : ∀ b o, hp.get? b = some o → h'.get? b = some o := fun b o e => k' b o (Nat.ne_of_lt (Nat.lt_succ_of_lt (Heap.lt_size e))) (k b o e)
  have z : hp.objs.size + 1 + 1 ≤ dx := by
    have q := dn
    rw [Heap.size_push, Heap.size_push] at q
    exact q
  exact ⟨rfl, hq h' tk' (hp.objs.size + 1) dx ⟨old, Nat.le_succ _, ⟨_, _, hx, rfl, rfl, rfl, rfl, rfl⟩, (show hp.objs.size ≤ dx by omega), dne, hns⟩⟩
end
section
variable {X : Cx} {C fI : Addr} {f : Str}
theorem relO_one {v : V} {v' : Value} (r : RelV v v') (h : Str) : RelO (List.lookup h [(f, v)]) (if h = f then some v' else none) := by
  by_cases e : h = f
  · rw [if_pos e, e]
    have q : List.lookup f [(f, v)] = some v := by simp [List.lookup]
    rw [q]
    exact r
  · have e2 : (h == f) = false := by simpa using e
    rw [if_neg e]
    simp [List.lookup, e2, RelO]
/-- c(e) -/
theorem pmk_sup {c : Str} {a : Expr} {te : TE} {p pos : Pos} {k : Nat} (T : SupTxt X.prog X.K f C fI) (gC : X.mg c = some (.ref C)) (hsup : X.mg ("super" : Str) = none) (hr : Room k X.A) (ha : PE X a te) (hg : Gl X c) (hd : (c == ("__debug__" : Str)) = false)
    (he : starEach (a :: []) X.env = (false, eval a X.env) :: starEach [] X.env) :
    L2N.PMk X (.Call (.Name c p) [a] [] pos) (fun σ H Q => te σ H fun y H1 => ∀ d, H1 d = none → Q (.ref C) (some d) (upd H1 d (.xd [(f, y)]))) := by
  intro pins s σ H Q I h
  refine wpAny_Call_Name_kw (ld_glob I hg gC ?_ hd)
  refine PySem.W.callWith_K (h₀ := X.base) I.ok.mod.kin T.kC ?_ he (by rfl)
  rw [he]
  show wpAny _ _ (spliced ((false, eval a X.env) :: backTo pos (starEach [] X.env))) _ _ _
  refine Calls.spliced_cons (thn (ha.run pins s σ H _ I h) fun v' s1 hh => Calls.spliced_nil ?_)
  obtain ⟨v, H1, I1, rv, q1⟩ := hh
  refine ⟨I1.kIn, ?_⟩
  show wpAny _ _ (call (.ref C) [v']) _ _ _
  have hlim := I1.nolimit
  have G := I1.mod.glob.keeps I1.bk
  obtain ⟨mb, h1, h2⟩ := I1.mod.blt
  have B := h1.keeps I1.bk
  have hmb : mb ("super" : Str) = some (.type "super") := (h2 _ (by decide)).trans PyProof.Rows.Boot.«super»
  obtain ⟨hp, g, dr, tk, os⟩ := s1
  refine wpAny_call (sup_made T I1.kIn G hsup B hmb hlim (by have := hr.dp; omega) fun h' tk' e d M => ?_)
  show L2N.MkP X pins σ Q (.ref e) ⟨h', g, dr, tk', os⟩
  obtain ⟨oe, fv, hoe, hc, hdd, hdat, h1', h2'⟩ := M.obj
  obtain ⟨G', g1, g2⟩ := restrict h' fun b => decide (b ≠ e)
  have gk : ∀ b, b ≠ e → G'.get? b = h'.get? b := fun b hb => g1 b (decide_eq_true hb)
  have ge : G'.get? e = none := g2 e (by simp)
  have old : ∀ b o, hp.get? b = some o → G'.get? b = some o := fun b o q => (gk b (Nat.ne_of_lt (Nat.lt_of_lt_of_le (Heap.lt_size q) M.new))).trans (M.keep b o q)
  have ob : ObjOk X.prog X.w (upd H1 d (.xd [(f, v)])) G' d (.xd [(f, v)]) := ⟨_, M.ns.at (fun o q => (gk d M.dne).trans q), fun z => relO_one rv z⟩
  have J : Inv X pins σ (upd H1 d (.xd [(f, v)])) ⟨G', g, dr, tk', os⟩ := I1.laid (t' := tk') old M.dbig ob
  refine ⟨e, oe, fv, ⟨G', g, dr, tk', os⟩, _, .ref C, some d, rfl, J, fun b o q => ?_, ge, hoe, ⟨hc, hdd, fun vs hv => by rw [hdat] at hv; cases hv; exact h2'⟩, hdat, h1', ?_, rfl, I1.bare, raises_own T.exC T.tyC, q1 d (I1.hok.fresh M.dbig)⟩
  · by_cases hb : b = e
    · have q' : G'.get? b = some o := q
      rw [hb, ge] at q'; cases q'
    · exact (gk b hb).symm.trans q
  · rw [upd_ne (Ne.symm M.dne)]
    exact I1.hok.fresh M.new
end
end S2

set_option maxHeartbeats 4000000
/-! S2z: the table, what the head must show of it, and what follows. -/
namespace S2
open PySem PySem.Spec PyProof.Rows L2

def Tb.wr (t : Tb) (K : PySem.W.Frag) : Wr := ⟨K, fun c => He.ga K c, fun c => t.cls.contains c, ⟨0, .none, none⟩⟩

/-! ### an __init__ with super() -/
structure SupD where
  c : Str
  f : Str
  name : Str
  qual : Str
  params : Arguments
  body : List Stmt
  scope : Scope
abbrev FnC : Type := Option (Str × Str × Arguments × FuncBody × Scope × Addr × List Str × Value × Value × Addr)
def fnC (K : PySem.W.Frag) (c : Str) : FnC := match K.lookup (He.ma K (He.ga K c) "__init__") with
  | some ⟨_, _, .func fd, _⟩ => some (fd.name, fd.qualname, fd.params, fd.body, fd.scope, fd.globals, fd.closure.map (fun p => p.1), fd.defaults, fd.kwdefaults, fd.builtins)
  | _ => none
def SupD.val (d : SupD) : FnC := some (d.name, d.qual, d.params, .stmts d.body, d.scope, mainGlobals, ["__class__"], .none, .none, builtinsNs)
def excVE (K : PySem.W.Frag) (C : Addr) : Bool := match K.lookup C with
  | some ⟨.type "type", _, .cls cd, sl⟩ => (match cd.mro, sl.toList with
    | .ref C' :: bm, [_, _, _, _, some (.builtin n), _] => C' == C && n == "ValueError.__new__" && !cd.hasDel && cd.hasDict && PySem.HandSPX.refsVE bm
    | _, _ => false)
  | _ => false
theorem excVE_ok {K : PySem.W.Frag} {C : Addr} (h : excVE K C = true) : ∃ nm q N bs bm sn sub ab col dd k0 k1 k2 k3 k5, K.lookup C = some (excClassObj nm q C N bs bm true sn sub ab col dd k0 k1 k2 k3 k5 "ValueError.__new__") ∧ PySem.HandSPX.refsVE bm = true := by
  unfold excVE at h
  split at h
  case h_2 => cases h
  rename_i dd cd sl ho
  split at h
  case h_2 => cases h
  rename_i C' bm k0 k1 k2 k3 n k5 hm hs
  simp only [Bool.and_eq_true, beq_iff_eq, Bool.not_eq_true'] at h
  obtain ⟨⟨⟨⟨e1, e2⟩, e3⟩, e4⟩, e5⟩ := h
  obtain ⟨nm, bs, mro, ns, qn, hd, sn, sub, ab, col, del⟩ := cd
  dsimp only at hm e3 e4
  subst e1 e2 hm e3 e4
  have hsl : sl = #[k0, k1, k2, k3, some (.builtin "ValueError.__new__"), k5] := by
    obtain ⟨l⟩ := sl
    exact congrArg Array.mk hs
  subst hsl
  exact ⟨_, _, _, _, _, _, _, _, _, _, _, _, _, _, _, ho, e5⟩
/-- the cell and the code of the __init__ -/
def cellB (K : PySem.W.Frag) (C fI : Addr) (file : Str) (qual : Str) : Bool := match K.lookup fI with
  | some ⟨_, _, .func fd, _⟩ => (match fd.code, fd.closure with
    | .ref cda, [(_, cc)] => PySem.W.codeIn K (.ref cda) qual && (match K.lookup cda with
        | some ⟨_, _, .fields vs, _⟩ => (match (vs[2]? : Option Value) with
          | some (Value.str fl _) => file == fl
          | _ => false)
        | _ => false) && (match K.lookup cc with
        | some ⟨_, _, .cell (some (.ref C')), _⟩ => C' == C
        | _ => false)
    | _, _ => false)
  | _ => false
def supK (P : Program) (K : PySem.W.Frag) (d : SupD) : Bool :=
  let C := He.ga K d.c
  let fI := He.ma K C "__init__"
  excVE K C && decide (PySem.W.findIn K (.ref C) "__setattr__" = some (some (.builtin "object.__setattr__"))) && decide (PySem.W.findIn K (.ref C) d.f = some none) && decide (PySem.W.findIn K (.ref C) "__init__" = some (some (.ref fI))) &&
  decide (PySem.W.typeIn K (.ref fI) = some (.type "function")) && PySem.W.keepIn K (.ref C) && decide (PySem.W.subIn K (.ref C) (.type "BaseException") = some true) && decide (PySem.W.typeIn K (.ref C) = some (.type "type")) &&
  decide (PySem.W.ks_superIn K C C "__init__" = some (some (.builtin "ValueError.__init__"))) && decide (PySem.W.subIn K (.ref C) (.type "ValueError") = some true) && decide (PySem.W.mroIn K C (.ref C) = some true) &&
  decide (PySem.W.nsIn K cStatics "thirdparty.any" = some none) && cellB K C fI P.main.file d.qual
structure SupTx (P : Program) (d : SupD) : Prop where
  ok : supB d.f d.params d.body d.scope = true
  bind : ∀ (doc pm : Value) (an : Option Addr) (cda cc : Addr) (ct : Value) (x v : Value), bindArgs (PySem.W.ksFn d.name d.qual d.params d.body d.scope .none .none doc pm an (.ref cda) ct cc) ⟨[x, v], []⟩ = pure [(("self" : Str), x), (d.f, v)]
  top : (P.main.scope.names.lookup ("super" : Str)).isSome = false
theorem supT {P : Program} {K : PySem.W.Frag} {d : SupD} (h : supK P K d = true) (e : fnC K d.c = d.val) (tx : SupTx P d) : SupTxt P K d.f (He.ga K d.c) (He.ma K (He.ga K d.c) "__init__") := by
  unfold supK at h
  simp only [Bool.and_eq_true, decide_eq_true_eq] at h
  obtain ⟨⟨⟨⟨⟨⟨⟨⟨⟨⟨⟨⟨h1, h2⟩, h3⟩, h4⟩, h5⟩, h6⟩, h7⟩, h8⟩, h9⟩, h10⟩, h11⟩, h12⟩, h13⟩ := h
  refine ⟨excVE_ok h1, h2, h3, h4, h5, h6, h7, h8, h9, h10, h11, h12, ?_, tx.top⟩
  unfold fnC at e
  unfold cellB at h13
  split at h13
  case h_2 => cases h13
  rename_i oc od fd osl lk
  rw [lk] at e
  split at h13
  case h_2 => cases h13
  rename_i cda nmc cc e1 e2
  obtain ⟨n1, n2, n3, n4, n5, n6, n7, n8, n9, n10, n11, n12, n13, n14, n15⟩ := fd
  have e : (some (n1, n2, n3, n4, n5, n6, n7.map (fun p => p.1), n8, n9, n15) : FnC) = d.val := e
  unfold SupD.val at e
  simp only [Option.some.injEq, Prod.mk.injEq] at e
  obtain ⟨z1, z2, z3, z4, z5, z6, z7, z8, z9, z10⟩ := e
  have e1 : n13 = .ref cda := e1
  have e2 : n7 = [(nmc, cc)] := e2
  subst e1 e2 z1 z2 z3 z4 z5 z6 z8 z9 z10
  have z7 : nmc = "__class__" := by
    have := List.cons.inj z7
    exact this.1
  subst z7
  simp only [Bool.and_eq_true] at h13
  obtain ⟨⟨c1, c2⟩, c3⟩ := h13
  refine ⟨oc, od, d.name, d.qual, d.params, d.body, d.scope, .none, .none, n10, n11, n12, cda, cc, n14, osl, lk, c1, tx.ok, ?_, ?_, fun s x v => .of_eq (tx.bind _ _ _ _ _ _ _ _)⟩
  · split at c2
    case h_2 => cases c2
    rename_i q1 q2 vs q3 q4
    split at c2
    case h_2 => cases c2
    rename_i fl tf q5
    exact ⟨_, _, vs, _, fl, tf, q4, q5, c2⟩
  · split at c3
    case h_2 => cases c3
    rename_i q1 q2 C' q3 q4
    have : C' = He.ga K d.c := beq_iff_eq.mp c3
    subst this
    exact ⟨_, _, _, q4⟩

/-! ### what the head must show -/
def excB (K : PySem.W.Frag) (C : Addr) : Bool := decide (PySem.W.findIn K (.ref C) "__getattribute__" = some (some (.builtin "BaseException.__getattribute__"))) && decide (PySem.W.findIn K (.ref C) "__getattr__" = some none) &&
  decide (PySem.W.subIn K (.ref C) (.type "BaseException") = some true) && PySem.W.hasDictIn K C && decide (PySem.W.findIn K (.ref C) "__class__" = some (some (.builtin "object.__class__"))) &&
  decide (PySem.W.specialIn K (.builtin "object.__class__") "__get__" = some (some (.builtin "getset_descriptor.__get__"))) && decide (PySem.W.takesIn K (.builtin "object.__class__") = some true) && decide (PySem.W.mroIn K C (.type "object") = some true)
theorem excB_ok {K : PySem.W.Frag} {C : Addr} (h : excB K C = true) : ExcC K C ∧ XfC K C := by
  unfold excB at h
  simp only [Bool.and_eq_true, decide_eq_true_eq] at h
  obtain ⟨⟨⟨⟨⟨⟨⟨h1, h2⟩, h3⟩, h4⟩, h5⟩, h6⟩, h7⟩, h8⟩ := h
  exact ⟨⟨h1, h2, h3, h4, h5, h6, h7, h8⟩, ⟨h1, h2, h3, h4⟩⟩
def scD : D → Option He.Dv
  | .non => some .non
  | .bl b => some (.bl b)
  | .int i => some (.int i)
  | .str s => some (.str s)
  | _ => none
def scDs : List D → Option (List He.Dv)
  | [] => some []
  | d :: l => match scD d, scDs l with
    | some x, some r => some (x :: r)
    | _, _ => none
def conB (K : PySem.W.Frag) (x : Str) (d : D) : Bool := match scD d with
  | some v => (match PySem.W.nsIn K mainGlobals x with
    | some (some u) => He.relB (v.v K) u
    | _ => false)
  | none => (match d with
    | .tup l => (match scDs l with
      | some vs => He.eqO (PySem.W.nsIn K mainGlobals x) (some (some (.ref (He.ga K x)))) && He.tupB K x vs
      | none => false)
    | _ => false)
def exsB (t : Tb) (P : Program) (K : PySem.W.Frag) (sups : List SupD) (p : Str × List Str × List Str) : Bool :=
  let C := He.ga K p.1
  (He.Fa.glo p.1).ok K && (match p.2.1 with
    | [] => exC0 K C
    | [f] => sups.any fun d => decide (d.c = p.1) && decide (d.f = f)
    | _ => false) && excB K C && (t.exs.all fun y => decide (PySem.W.exmOne K (.ref C) (.ref (He.ga K y.1)) = some (p.2.2.contains y.1)) && decide (PySem.W.kitOne K (.ref C) (.ref (He.ga K y.1)) = some (p.2.2.contains y.1))) &&
  decide (PySem.W.kitOne K (.ref C) (.type "ValueError") = some (p.2.2.contains (Str.ofString "ValueError"))) && (t.nfs.all fun f => decide (PySem.W.findIn K (.ref C) f = some none)) && !(p.1 == ("__debug__" : Str))
def Tb.ok (t : Tb) (P : Program) (sups : List SupD) (K : PySem.W.Frag) : Bool :=
  ((t.tops ++ t.hots).all fun f => (He.Fa.glo f).ok K) && (t.frs.all fun x => (He.Fa.free x).ok K) && (t.cons.all fun p => conB K p.1 p.2) && (t.exs.all fun p => exsB t P K sups p) &&
  (t.cls.all fun c => (He.Fa.glo c).ok K && (He.Fa.cls c).ok K && (He.Fa.mkr c).ok K && t.nfs.all fun f => (He.Fa.noat c f).ok K) && (t.mths.all fun p => (He.Fa.meth p.1.1 p.1.2).ok K && t.cls.contains p.1.1) && (sups.all fun d => supK P K d)
abbrev AlT : Type := Bool × List He.FnW × List FnC
def obsT (t : Tb) (P : Program) (fn : List He.DefD) (sups : List SupD) (K : PySem.W.Frag) : AlT := (t.ok P sups K && fn.all fun d => d.ok K, fn.map fun d => He.fnW K d.at_, sups.map fun d => fnC K d.c)
def valT (fn : List He.DefD) (sups : List SupD) : AlT := (true, fn.map He.DefD.val, sups.map SupD.val)
def SaysT (t : Tb) (P : Program) (fn : List He.DefD) (sups : List SupD) (K : PySem.W.Frag) : Prop := obsT t P fn sups K = valT fn sups
def obsTG (n : Nat) (t : Tb) (P : Program) (fn : List He.DefD) (sups : List SupD) (g : Addr → Option Obj) : AlT := obsT t P fn sups (He.frG g (cStatics :: He.asD g n))
def hookT (n : Nat) (t : Tb) (P : Program) (fn : List He.DefD) (sups : List SupD) : PySem.W.Hook where
  α := AlT
  obs := fun s => obsTG n t P fn sups s.heap.get?
  val := fun _ => valT fn sups
  says := fun _ h => ∃ K : PySem.W.Frag, K.In h ∧ SaysT t P fn sups K
  of := fun _ _ e => ⟨_, He.frG_in, e⟩
  keeps := fun _ _ _ ⟨K, hK, c⟩ k => ⟨K, PySem.W.Frag.In.keeps hK k, c⟩
theorem obsTG_eq {n : Nat} {t : Tb} {P : Program} {fn : List He.DefD} {sups : List SupD} {g : Addr → Option Obj} {s : Shared} (h : ∀ a, g a = s.heap.get? a) : obsTG n t P fn sups g = (hookT n t P fn sups).obs s := by
  have e : g = s.heap.get? := funext h
  rw [e] <;> rfl

/-! ### what the texts must show -/
structure DTx (t : Tb) (fn : List He.DefD) (at_ : Str × Option Str) (nm : Str) (hot : Bool := false) : Prop where
  ex : ∃ (i : Nat) (d : He.DefD) (N ps : List Str) (fd : FD), fn[i]? = some d ∧ d.at_ = at_ ∧ d.dfl = [] ∧ FnScope N ps d.scope ∧ t.fns.lookup nm = some fd ∧ fd.ns = N.length ∧ fd.np = ps.length ∧ okSs t.g N hot fd.body d.scope d.body = true ∧
    ∀ (kV doc pm : Value) (an : Option Addr) (cdv ct : Value) (us : List Value), us.length = ps.length → bindArgs (PySem.W.fnOf d.name d.qual d.params d.body d.scope .none kV doc pm an cdv ct) ⟨us, []⟩ = pure (ps.zip us)
structure Txt (t : Tb) (P : Program) (fn : List He.DefD) (sups : List SupD) : Prop where
  tops : ∀ f ∈ t.tops, DTx t fn (f, none) f
  mths : ∀ p ∈ t.mths, DTx t fn (p.1.1, some p.1.2) p.2
  inits : ∀ c ∈ t.cls, DTx t fn (c, some "__init__") (initName c)
  supx : ∀ d ∈ sups, SupTx P d
  hots : ∀ f ∈ t.hots, DTx t fn (f, none) f true
  sfree : sups.isEmpty = true ∨ t.frs.contains ("super" : Str) = true
section
variable {t : Tb} {P : Program} {wd : World} {fn : List He.DefD} {sups : List SupD} {K : PySem.W.Frag} {mg : Str → Option Value} {base h : Heap}
theorem lookup_mem {α β : Type} [BEq α] [LawfulBEq α] : ∀ {l : List (α × β)} {x : α} {y : β}, l.lookup x = some y → (x, y) ∈ l
  | [], _, _, h => by cases h
  | (a, b) :: l, x, y, h => by
    rw [List.lookup_cons] at h
    cases e : x == a with
    | true =>
      rw [e] at h
      cases h
      rw [beq_iff_eq.mp e]
      exact List.mem_cons_self
    | false =>
      rw [e] at h
      exact List.mem_cons_of_mem _ (lookup_mem h)
theorem SaysT.parts (c : SaysT t P fn sups K) : t.ok P sups K = true ∧ (∀ (i : Nat) (d : He.DefD), fn[i]? = some d → ∃ fd, FunD K d.name d.qual d.params d.body d.scope (d.dvs K) (d.kws K) (He.fAd K d.at_) fd) ∧ ∀ d ∈ sups, fnC K d.c = d.val := by
  have c1 : (t.ok P sups K && fn.all fun d => d.ok K) = true := congrArg (fun z : AlT => z.1) c
  obtain ⟨c2, c3⟩ := Bool.and_eq_true_iff.mp c1
  refine ⟨c2, fun i d hi => ?_, fun d m => ?_⟩
  · have e : fn.map (fun d => He.fnW K d.at_) = fn.map He.DefD.val := congrArg (fun z : AlT => z.2.1) c
    have e2 : (fn.map fun d => He.fnW K d.at_)[i]? = (fn.map He.DefD.val)[i]? := by rw [e]
    rw [List.getElem?_map, List.getElem?_map, hi] at e2
    exact He.DefD.funD (Option.some.inj e2) (List.all_eq_true.mp c3 d (List.mem_of_getElem? hi))
  · have e : sups.map (fun d => fnC K d.c) = sups.map SupD.val := congrArg (fun z : AlT => z.2.2) c
    exact List.map_inj_left.mp e d m
theorem DTx.at_ (c : SaysT t P fn sups K) {p : Str × Option Str} {nm : Str} {hot : Bool} (x : DTx t fn p nm hot) : ∃ fd ps, PySem.W.keepIn K (.ref (He.fAd K p)) = true ∧ Binds K fd ps [] ∧ DefAt K t.g nm (He.fAd K p) fd ps hot := by
  obtain ⟨i, d, N, ps, fd, hi, ha, hd, S, hf, hn, hp, ok, hb⟩ := x.ex
  obtain ⟨fdat, F⟩ := c.parts.2.1 i d hi
  have e0 : d.dvs K = [] := by unfold He.DefD.dvs; rw [hd]; rfl
  rw [e0, ha] at F
  have B := FunD.bindsN F hb
  obtain ⟨oc, od, dV, kV, doc, pm, an, cdv, ct, osl, e, lk, hcd, _, _⟩ := F.ex
  exact ⟨fdat, ps, F.kp, B, d.name, d.qual, d.params, d.body, d.scope, dV, kV, doc, pm, cdv, ct, oc, an, od, osl, N, fd, e, e ▸ lk, hcd, S, hf, hn, hp, ok⟩
theorem con_ok (X : K.In h) (G : h.Ns mainGlobals mg) {x : Str} {d : D} (c : conB K x d = true) : ∃ v u, mg x = some u ∧ RelV v u ∧ ∀ H O, Rep (t.wr K) H O d v := by
  unfold conB at c
  cases e : scD d with
  | some v =>
    rw [e] at c
    have c : (match PySem.W.nsIn K mainGlobals x with
      | some (some u) => He.relB (v.v K) u
      | _ => false) = true := c
    split at c
    case h_2 => cases c
    rename_i u q
    refine ⟨_, u, PySem.W.mg_of X G q, He.relB_ok c, fun H O => ?_⟩
    cases d <;> simp only [scD, Option.some.injEq, reduceCtorEq] at e <;> subst e <;> rfl
  | none =>
    rw [e] at c
    cases d <;> try (exact absurd c Bool.false_ne_true)
    rename_i l
    have c : (match scDs l with
      | some vs => He.eqO (PySem.W.nsIn K mainGlobals x) (some (some (.ref (He.ga K x)))) && He.tupB K x vs
      | none => false) = true := c
    split at c
    case h_2 => cases c
    rename_i vs q
    rw [Bool.and_eq_true] at c
    refine ⟨.ref (He.ga K x), _, PySem.W.mg_of X G (He.eqO_ok c.1), rfl, fun H O => ⟨_, _, rfl, He.tupB_ok c.2 H, ?_⟩⟩
    have : ∀ (l : List D) (vs : List He.Dv), scDs l = some vs → Reps (t.wr K) H O l (vs.map (He.Dv.v K)) := by
      intro l
      induction l with
      | nil => intro vs q; cases q; rfl
      | cons d l ih =>
        intro vs q
        unfold scDs at q
        split at q
        case h_2 => cases q
        rename_i y r e1 e2
        cases q
        refine ⟨_, _, rfl, ?_, ih r e2⟩
        cases d <;> simp only [scD, Option.some.injEq, reduceCtorEq] at e1 <;> subst e1 <;> rfl
    exact this l vs q
theorem Tb.all (X : K.In h) (G : h.Ns mainGlobals mg) (c : SaysT t P fn sups K) (x : Txt t P fn sups) : Fx K mg t.g (t.wr K) ∧ Tab t.g (t.wr K) ∧ ExA P wd K mg t.g (t.wr K) ∧ Ex K mg t.g (t.wr K) ∧ Defs K mg t.g (t.wr K) := by
  have hok := c.parts.1
  unfold Tb.ok at hok
  simp only [Bool.and_eq_true] at hok
  obtain ⟨⟨⟨⟨⟨⟨h1, h2⟩, h3⟩, h4⟩, h5⟩, h6⟩, h7⟩ := hok
  have free : ∀ y, t.g.fr y = true → mg y = none := fun y hy => He.free_ok X G (List.all_eq_true.mp h2 y (List.contains_iff_mem.mp hy))
  have exs : ∀ k, (t.g.exf k).isSome = true → ∃ p, t.exs.lookup k = some p ∧ (k, p) ∈ t.exs := fun k hk => by
    have hk : ((t.exs.lookup k).map (·.1)).isSome = true := hk
    cases e : t.exs.lookup k with
    | none => rw [e] at hk; cases hk
    | some p => exact ⟨p, rfl, lookup_mem e⟩
  have exf : ∀ k p, (k, p) ∈ t.exs → exsB t P K sups (k, p) = true := fun k p m => List.all_eq_true.mp h4 _ m
  have cls : ∀ k, t.g.cl k = true → (He.Fa.glo k).ok K = true ∧ (He.Fa.cls k).ok K = true ∧ (He.Fa.mkr k).ok K = true ∧ ∀ f, t.g.nf f = true → (He.Fa.noat k f).ok K = true := fun k hk => by
    have := List.all_eq_true.mp h5 k (List.contains_iff_mem.mp hk)
    simp only [Bool.and_eq_true] at this
    exact ⟨this.1.1.1, this.1.1.2, this.1.2, fun f hf => List.all_eq_true.mp this.2 f (List.contains_iff_mem.mp hf)⟩
  have own : ∀ k, (t.g.exf k).isSome = true → mg k = some (.ref (He.ga K k)) := fun k hk => by
    obtain ⟨p, _, m⟩ := exs k hk
    have := exf k p m
    unfold exsB at this
    simp only [Bool.and_eq_true] at this
    exact He.glo_ok X G this.1.1.1.1.1.1
  refine ⟨⟨rfl, free, fun y d hd => con_ok X G (List.all_eq_true.mp h3 _ (lookup_mem hd)), fun k hk => He.cls_ok (cls k hk).2.1, fun k f hk hf => He.noat_ok ((cls k hk).2.2.2 f hf)⟩, ⟨fun k hk => hk⟩, ?_, ?_, ?_⟩
  · intro Y e1 e2 e3 e4 hc hr k ns hk
    subst e1 e2 e3 e4
    have hk' : (t.g.exf k).isSome = true := by rw [hk]; rfl
    obtain ⟨p, q, m⟩ := exs k hk'
    have hk : (t.exs.lookup k).map (·.1) = some ns := hk
    rw [q] at hk
    have := exf k p m
    unfold exsB at this
    simp only [Bool.and_eq_true, Bool.not_eq_true'] at this
    obtain ⟨⟨⟨⟨⟨⟨g1, g2⟩, g3⟩, g4⟩, g5⟩, g6⟩, g7⟩ := this
    have hk : p.1 = ns := Option.some.inj hk
    have g2 : (match p.1 with
      | [] => exC0 Y.K (He.ga Y.K k)
      | [f] => sups.any fun d => decide (d.c = k) && decide (d.f = f)
      | _ => false) = true := g2
    rw [hk] at g2
    match ns, g2 with
    | [], g2 => exact exF0 (w := t.wr Y.K) g2 (He.glo_ok X G g1) g7
    | [f], g2 =>
      obtain ⟨d, dm, hd⟩ := List.any_eq_true.mp g2
      simp only [Bool.and_eq_true, decide_eq_true_eq] at hd
      obtain ⟨hd1, hd2⟩ := hd
      have T := supT (List.all_eq_true.mp h7 d dm) (c.parts.2.2 d dm) (x.supx d dm)
      rw [hd1, hd2] at T
      have sf : Y.mg ("super" : Str) = none := by
        rcases x.sfree with z | z
        · cases sups with
          | nil => cases dm
          | cons _ _ => cases z
        · exact free _ z
      exact fun e te p1 pos hg he hp => pmk_sup T (He.glo_ok X G g1) sf hr he hg g7 hp.1
    | _ :: _ :: _, g2 => cases g2
  · refine ⟨fun k hk => ?_, own, fun k c hk hc => ?_, fun k hk => ?_, fun k c hk hc => ?_, fun k f hk hf => ?_⟩
    · obtain ⟨p, _, m⟩ := exs k hk
      have := exf k p m
      unfold exsB at this
      simp only [Bool.and_eq_true] at this
      exact excB_ok this.1.1.1.1.2
    · obtain ⟨p, q, m⟩ := exs k hk
      obtain ⟨p', q', m'⟩ := exs c hc
      have := exf k p m
      unfold exsB at this
      simp only [Bool.and_eq_true] at this
      have := List.all_eq_true.mp this.1.1.1.2 _ m'
      simp only [Bool.and_eq_true, decide_eq_true_eq] at this
      have e : t.g.sub k c = p.2.contains c := by
        show (match t.exs.lookup k with
          | some (_, up) => up.contains c
          | none => false) = _
        rw [q]
      rw [e]; exact this.2
    · obtain ⟨p, q, m⟩ := exs k hk
      have := exf k p m
      unfold exsB at this
      simp only [Bool.and_eq_true, decide_eq_true_eq] at this
      have e : t.g.sub k (Str.ofString "ValueError") = p.2.contains (Str.ofString "ValueError") := by
        show (match t.exs.lookup k with
          | some (_, up) => up.contains (Str.ofString "ValueError")
          | none => false) = _
        rw [q]
      rw [e]; exact this.1.1.2
    · obtain ⟨p, q, m⟩ := exs k hk
      obtain ⟨p', q', m'⟩ := exs c hc
      have := exf k p m
      unfold exsB at this
      simp only [Bool.and_eq_true] at this
      have := List.all_eq_true.mp this.1.1.1.2 _ m'
      simp only [Bool.and_eq_true, decide_eq_true_eq] at this
      have e : t.g.sub k c = p.2.contains c := by
        show (match t.exs.lookup k with
          | some (_, up) => up.contains c
          | none => false) = _
        rw [q]
      rw [e]; exact this.1
    · obtain ⟨p, q, m⟩ := exs k hk
      have := exf k p m
      unfold exsB at this
      simp only [Bool.and_eq_true] at this
      exact of_decide_eq_true (List.all_eq_true.mp this.1.2 f (List.contains_iff_mem.mp hf))
  · refine ⟨fun f hf => ?_, fun k m f hm => ?_, fun k hk => ?_, fun f hf => ?_⟩
    · have m := List.contains_iff_mem.mp hf
      obtain ⟨fd, ps, q1, q2, q3⟩ := (x.tops f m).at_ c
      exact ⟨_, fd, ps, He.glo_ok X G (List.all_eq_true.mp h1 f (List.mem_append_left _ m)), q1, q2, q3⟩
    · have m' := lookup_mem hm
      have := List.all_eq_true.mp h6 _ m'
      rw [Bool.and_eq_true] at this
      obtain ⟨fd, ps, q1, q2, q3⟩ := (x.mths _ m').at_ c
      exact ⟨_, fd, ps, He.cls_ok (cls k this.2).2.1, He.meth_ok this.1, q2, q3⟩
    · have m := List.contains_iff_mem.mp hk
      obtain ⟨fd, ps, q1, q2, q3⟩ := (x.inits k m).at_ c
      exact ⟨_, fd, ps, He.glo_ok X G (cls k hk).1, He.mkr_ok (cls k hk).2.2.1, q2, q3⟩
    · have m := List.contains_iff_mem.mp hf
      obtain ⟨fd, ps, q1, q2, q3⟩ := (x.hots f m).at_ c
      exact ⟨_, fd, ps, He.glo_ok X G (List.all_eq_true.mp h1 f (List.mem_append_right _ m)), q1, q2, q3⟩
/-- what may be let out, in whatever world -/
def CXA (P : Program) : CXT := fun outer H s E u s' => ∃ w, L2N.CX P w outer H s E u s'
theorem fnOk_cx {k : Nat} {f : Addr} {fd : FuncData} {ps : List Str} {sp : Sp} (F : FnG P wd K mg base (L2N.CX P wd) k f fd ps sp) : FnG P wd K mg base (CXA P) k f fd ps sp :=
  ⟨F.len, fun A outer s H args us vs Q E hr ng he hb hv hs => codeAny_mono (F.run A outer s H args us vs Q E hr ng he hb hv hs) fun r s' z => by
    cases r with
    | ok fl => cases fl <;> exact z
    | error e => exact ⟨wd, z⟩⟩
/-- the law's def -/
structure LTx (t : Tb) (fn : List He.DefD) : Prop where
  ex : ∃ (i : Nat) (d : He.DefD) (N : List Str) (fd : FD), fn[i]? = some d ∧ d.at_ = (("law" : Str), none) ∧ d.dfl = [] ∧ FnScope N ["script"] d.scope ∧ t.fns.lookup ("law" : Str) = some fd ∧ fd.ns = N.length ∧ fd.np = 1 ∧ okSs t.g N false fd.body d.scope d.body = true ∧
    ∀ (kV doc pm : Value) (an : Option Addr) (cdv ct : Value) (us : List Value), us.length = 1 → bindArgs (PySem.W.fnOf d.name d.qual d.params d.body d.scope .none kV doc pm an cdv ct) ⟨us, []⟩ = pure ((["script"] : List Str).zip us)
theorem LTx.d (x : LTx t fn) : DTx t fn (("law" : Str), none) ("law" : Str) := by
  obtain ⟨i, d, N, fd, h1, h2, h3, h4, h5, h6, h7, h8, h9⟩ := x.ex
  exact ⟨i, d, N, ["script"], fd, h1, h2, h3, h4, h5, h6, h7, h8, h9⟩
/-- the end: what the walk of the law's def is given -/
theorem Tb.law (X : K.In h) (G : h.Ns mainGlobals mg) (c : SaysT t P fn sups K) (x : Txt t P fn sups) (hs : LTx t fn) (hl : t.tops.contains ("law" : Str) = true) {k : Nat} {fa : Addr} (hfa : mg ("law" : Str) = some (.ref fa)) (law : ∀ ns : List Int, ns.length ≤ 63 → ∃ o, callD t.g (k + 1) ("law" : Str) [.scr ns] = .ok (o, .bl true)) :
    ∃ (fdat : FuncData) (sp : Sp), (∀ (s : Shared) (v : Value), BindsTo s fdat ⟨[v], []⟩ [("script", v)]) ∧ (∀ (H : Hp) (a : Addr) (ns : List Int), ns.length ≤ 63 → Only H → SqL K H a (ns.map V.int) → sp [.ref a] H (fun v _ => v = .bl true) fun _ _ _ => False) ∧ ∀ base : Heap, FnG P wd K mg base (CXA P) (k + 1) fa fdat ["script"] sp := by
  obtain ⟨fx, tb, ea, ex, df⟩ := Tb.all (wd := wd) X G c x
  obtain ⟨i, d, N, fd, hi, ha, hd, S, hf, hn, hp, ok, hb⟩ := hs.ex
  obtain ⟨fdat, F⟩ := c.parts.2.1 i d hi
  have e0 : d.dvs K = [] := by unfold He.DefD.dvs; rw [hd]; rfl
  rw [e0, ha] at F
  have B := FunD.bindsA (ps := ["script"]) F hb
  obtain ⟨oc, od, dV, kV, doc, pm, an, cdv, ct, osl, e, lk, hcd, _, _⟩ := F.ex
  have D : DefAt K t.g ("law" : Str) (He.fAd K (("law" : Str), none)) fdat ["script"] := ⟨d.name, d.qual, d.params, d.body, d.scope, dV, kV, doc, pm, cdv, ct, oc, an, od, osl, N, fd, e, e ▸ lk, hcd, S, hf, hn, hp, ok⟩
  have : He.fAd K (("law" : Str), none) = fa := by
    have q := He.glo_ok X G (List.all_eq_true.mp (by
      have hok := c.parts.1
      unfold Tb.ok at hok
      simp only [Bool.and_eq_true] at hok
      exact hok.1.1.1.1.1.1) ("law" : Str) (List.mem_append_left _ (List.contains_iff_mem.mp hl)))
    rw [hfa] at q
    have q := Option.some.inj q
    cases q; rfl
  rw [this] at D
  refine ⟨fdat, spF t.g (t.wr K) (k + 1) ("law" : Str), fun s v => B s [v] rfl, fun H a ns hn hO hS => ?_, fun base => fnOk_cx (fn_at fx tb ea ex (hlv_all fx tb ea ex df) (lv_all (base := base) fx tb ea ex df k).1 D)⟩
  refine ⟨[.scr ns], fun _ => False, fun _ z => z.elim, ⟨.ref a, [], rfl, ⟨a, rfl, ?_⟩, rfl⟩, ?_⟩
  · rcases hS with hS | hS
    · rcases hS with hS | ⟨o, hS⟩
      · rcases hO a with z | ⟨o, xs, z⟩ <;> rw [z] at hS <;> cases hS
      · exact .inl ⟨o, hS⟩
    · exact .inr hS
  · obtain ⟨o, q⟩ := law ns hn
    rw [q]
    intro v H' _ r
    exact r.1
end
end S2

set_option maxHeartbeats 4000000
/-! P1: the evaluator by simp. -/
namespace S2
open PySem
section
variable {g : G} {C : Cal} {env : Env} {a b c e : E} {es : Es} {s : S} {ss : Ss}
@[simp] theorem R.tame_exc {α : Type} (e : D) : (R.exc e : R α).tame = .no := (rfl)
@[simp] theorem R.tame_no {α : Type} : (R.no : R α).tame = .no := (rfl)
@[simp] theorem R.bind_ite {α β : Type} (c : Prop) [Decidable c] (x y : R α) (f : α → R β) : (if c then x else y).bind f = if c then x.bind f else y.bind f := by split <;> rfl
@[simp] theorem R.tame_ite {α : Type} (c : Prop) [Decidable c] (x y : R α) : (if c then x else y).tame = if c then x.tame else y.tame := by split <;> rfl
@[simp] theorem R.to_ite {α : Type} (is : List (Nat × Bool)) (c : Prop) [Decidable c] (x y : R α) (f : α → Out) : (if c then x else y).to is env f = if c then x.to is env f else y.to is env f := by split <;> rfl
@[simp] theorem asB_ok (b : Bool) : asB (.ok b) = .ok (.sh, .bl b) := (rfl)
@[simp] theorem shD_ok (d : D) : shD (.ok d) = .ok (.sh, d) := (rfl)
@[simp] theorem shD_exc (d : D) : shD (.exc d) = .exc d := (rfl)
@[simp] theorem shD_no : shD .no = .no := (rfl)
@[simp] theorem fst1_ok (x : OD) : fst1 (.ok x) = .ok x.2 := (rfl)
@[simp] theorem fst1_exc (d : D) : fst1 (.exc d) = .exc d := (rfl)
@[simp] theorem fst1_no : fst1 .no = .no := (rfl)
@[simp] theorem ownL_ok (d : D) : ownL (.ok d) = .ok (if isLst d = true then .o1 else .sh, d) := by unfold ownL; cases d <;> rfl
@[simp] theorem shD_ite (c : Prop) [Decidable c] (x y : R D) : shD (if c then x else y) = if c then shD x else shD y := by split <;> rfl
@[simp] theorem fst1_ite (c : Prop) [Decidable c] (x y : R OD) : fst1 (if c then x else y) = if c then fst1 x else fst1 y := by split <;> rfl
@[simp] theorem asB_ite (c : Prop) [Decidable c] (x y : R Bool) : asB (if c then x else y) = if c then asB x else asB y := by split <;> rfl
@[simp] theorem ownL_ite (c : Prop) [Decidable c] (x y : R D) : ownL (if c then x else y) = if c then ownL x else ownL y := by split <;> rfl
@[simp] theorem isLst_lst (l : List D) : isLst (.lst l) = true := (rfl)
@[simp] theorem isLst_int (i : Int) : isLst (.int i) = false := (rfl)
@[simp] theorem isLst_bl (i : Bool) : isLst (.bl i) = false := (rfl)
@[simp] theorem isLst_str (i : Str) : isLst (.str i) = false := (rfl)
@[simp] theorem isLst_tup (l : List D) : isLst (.tup l) = false := (rfl)
@[simp] theorem isLst_non : isLst .non = false := (rfl)
@[simp] theorem ev_non : ev g C .non env = .ok (.sh, .non) := by rw [ev] <;> rfl
@[simp] theorem ev_bl (b : Bool) : ev g C (.bl b) env = .ok (.sh, .bl b) := by rw [ev] <;> rfl
@[simp] theorem ev_int (i : Int) : ev g C (.int i) env = .ok (.sh, .int i) := by rw [ev] <;> rfl
@[simp] theorem ev_str (i : Str) : ev g C (.str i) env = .ok (.sh, .str i) := by rw [ev] <;> rfl
@[simp] theorem ev_var (i : Nat) : ev g C (.var i) env = look env i := by rw [ev] <;> rfl
@[simp] theorem ev_g (x : Str) : ev g C (.g x) env = match g.con x with
    | some d => .ok (.sh, d)
    | none => .no := by rw [ev] <;> rfl
@[simp] theorem ev_bin (o : Bop) : ev g C (.bin o a b) env = (ev g C a env).bind fun x => (ev g C b env).bind fun y => ownL (binD o x.2 y.2) := by rw [ev] <;> rfl
@[simp] theorem ev_neg : ev g C (.neg a) env = (ev g C a env).bind fun x => match x.2 with
    | .int i => .ok (.sh, .int (-i))
    | _ => .no := by rw [ev] <;> rfl
@[simp] theorem ev_not : ev g C (.not a) env = (ev g C a env).bind fun x => asB ((truthD x.2).bind fun b => .ok (!b)) := by rw [ev] <;> rfl
@[simp] theorem ev_and : ev g C (.and a b) env = (ev g C a env).bind fun x => (truthD x.2).tame.bind fun k => if k = true then shD (fst1 (ev g C b env)) else .ok (.sh, x.2) := by rw [ev] <;> rfl
@[simp] theorem ev_or : ev g C (.or a b) env = (ev g C a env).bind fun x => (truthD x.2).tame.bind fun k => if k = true then .ok (.sh, x.2) else shD (fst1 (ev g C b env)) := by rw [ev] <;> rfl
@[simp] theorem ev_cmp (o : Cop) : ev g C (.cmp o a b) env = (ev g C a env).bind fun x => (ev g C b env).bind fun y => asB (cmpD o x.2 y.2) := by rw [ev] <;> rfl
@[simp] theorem ev_chain (o p : Cop) : ev g C (.chain o p a b c) env = (ev g C a env).bind fun x => (ev g C b env).bind fun y => (cmpD o x.2 y.2).tame.bind fun k =>
      if k = true then (ev g C c env).bind fun z => asB (cmpD p y.2 z.2) else .ok (.sh, .bl false) := by rw [ev] <;> rfl
@[simp] theorem ev_ife : ev g C (.ife c a b) env = (tst g C c env).bind fun k => if k = true then ev g C a env else ev g C b env := by rw [ev] <;> rfl
@[simp] theorem ev_tup : ev g C (.tup es) env = (evs g C es env).bind fun l => if l.length ≤ szL then .ok (.sh, .tup (l.map (·.2))) else .no := by rw [ev] <;> simp only [decide_eq_true_eq] <;> rfl
@[simp] theorem ev_lst : ev g C (.lst es) env = (evs g C es env).bind fun l => if l.length ≤ szL then .ok (listOwn l, .lst (l.map (·.2))) else .no := by rw [ev] <;> simp only [decide_eq_true_eq] <;> rfl
@[simp] theorem ev_ix : ev g C (.ix a b) env = (ev g C a env).bind fun x => (ev g C b env).bind fun y => shD (ixD x.2 y.2).tame := by rw [ev] <;> rfl
@[simp] theorem ev_sl (lo hi : Eo) : ev g C (.sl a lo hi) env = (ev g C a env).bind fun x => (evo g C lo env).bind fun l => (evo g C hi env).bind fun h => ownL (slD x.2 l h) := by rw [ev] <;> rfl
@[simp] theorem ev_isi (b : Bt) : ev g C (.isi a b) env = (ev g C a env).bind fun x => asB (isiD b x.2) := by rw [ev] <;> rfl
@[simp] theorem ev_isx (i : Nat) (c : Str) : ev g C (.isx i c) env = match env[i]? with
    | some (some (.ex, .ob k _ _)) => if (g.exf k).isSome = true then .ok (.sh, .bl (g.sub k c)) else .no
    | _ => .no := by rw [ev] <;> rfl
@[simp] theorem ev_xfl (i : Nat) (f : Str) : ev g C (.xfl i f) env = match env[i]? with
    | some (some (.ex, .ob k ns vs)) => if (g.exf k).isSome = true then shD (fldD f (.ob k ns vs)).tame else .no
    | _ => .no := by rw [ev] <;> rfl
@[simp] theorem ev_call (f : Str) : ev g C (.call f es) env = (evs g C es env).bind fun l => C.call f (l.map (·.2)) := by rw [ev] <;> rfl
@[simp] theorem ev_bi (f : Bi) : ev g C (.bi f es) env = (evs g C es env).bind fun l => ownL (biD f (l.map (·.2))) := by rw [ev] <;> rfl
@[simp] theorem ev_bm (m : Bm) : ev g C (.bm m a es) env = (ev g C a env).bind fun x => if bmTy m x.2 = true then (evs g C es env).bind fun l => ownL (bmD m x.2 (l.map (·.2))) else .no := by rw [ev] <;> rfl
@[simp] theorem ev_join (z : Str) : ev g C (.join z b) env = (ev g C b env).bind fun x => ownL (bmD .join (.str z) [x.2]) := by rw [ev] <;> rfl
@[simp] theorem ev_new (c : Str) : ev g C (.new c es) env = if C.can = true then (evs g C es env).bind fun l => shD (C.make c (l.map (·.2))) else .no := by rw [ev] <;> rfl
@[simp] theorem ev_me (m : Str) : ev g C (.me m a es) env = (ev g C a env).bind fun x => match whoM g m x.2 with
    | some f => (evs g C es env).bind fun l => C.call f (x.2 :: l.map (·.2))
    | none => .no := by rw [ev] <;> rfl
@[simp] theorem ev_fldv (i : Nat) (f : Str) : ev g C (.fld (.var i) f) env = match env[i]? with
      | some (some (.ex, d)) => .no
      | some (some (_, d)) => shD (fldD f d).tame
      | _ => .no := by rw [ev] <;> rfl
@[simp] theorem listOwn_sh (d : D) (l : List OD) : listOwn ((.sh, d) :: l) = .o1 := (rfl)
@[simp] theorem ev_lsv (i : Nat) : ev g C (.lsv i) env = (look env i).bind fun x => if isLst x.2 = true then ownL (biD .list [x.2]) else .no := by rw [ev] <;> rfl
@[simp] theorem ev_rvl : ev g C (.rvl a) env = (ev g C a env).bind fun x => if isLst x.2 = true then ownL (biD .revL [x.2]) else .no := by rw [ev] <;> rfl
@[simp] theorem ev_rvt : ev g C (.rvt a) env = (ev g C a env).bind fun x => ownL (biD .revT [x.2]) := by rw [ev] <;> rfl
@[simp] theorem ev_hsm (i j : Nat) : ev g C (.hsm i j) env = (look env i).bind fun x => match x.2 with
    | .lst l => (match blsOf l with
      | some bs => if bs.length < szL then .ok (.sh, .int (bs.map fun b => if b = true then (1 : Int) else 0).sum) else .no
      | none => .no)
    | _ => .no := by rw [ev] <;> simp only [decide_eq_true_eq] <;> rfl
@[simp] theorem ev_hcall (f : Str) (i : Nat) : ev g C (.hcall f i) env = match env[i]? with
    | some (some (.ex, .ob k ns vs)) => if (g.exf k).isSome = true then C.hot f (.ob k ns vs) else .no
    | _ => .no := by rw [ev] <;> rfl
@[simp] theorem cal_hot (n : Nat) (f : Str) (d : D) : (cal g (n + 1)).hot f d = (hotR g f d).tame := (rfl)
@[simp] theorem ev_lc (elt : E) (tg : Tg) (it : It) (c : Eo) : ev g C (.lc elt tg it c) env = (items g C it env).bind fun xs =>
      (mapC (fun x => match bindT tg x env with
        | none => .no
        | some env' => (tsto g C c env').tame.bind fun k => if k = true then (ev g C elt env').tame.bind fun y => .ok (some y) else .ok none) xs.2).tame.bind fun l =>
      if xs.2.length ≤ szL then .ok (listOwn l, .lst (l.map (·.2))) else .no := by rw [ev] <;> simp only [decide_eq_true_eq] <;> rfl
@[simp] theorem evs_nil : evs g C .nil env = .ok [] := by rw [evs] <;> rfl
@[simp] theorem evs_cons : evs g C (.cons e es) env = (ev g C e env).bind fun x => (evs g C es env).bind fun l => .ok (x :: l) := by rw [evs] <;> rfl
@[simp] theorem evo_none : evo g C .none env = .ok none := by rw [evo] <;> rfl
@[simp] theorem evo_some : evo g C (.some e) env = (ev g C e env).bind fun x => match x.2 with
    | .int i => .ok (some i)
    | _ => .no := by rw [evo] <;> rfl
@[simp] theorem tsto_none : tsto g C .none env = .ok true := by rw [tsto] <;> rfl
@[simp] theorem tsto_some : tsto g C (.some e) env = tst g C e env := by rw [tsto] <;> rfl
@[simp] theorem tst_not : tst g C (.not a) env = (tst g C a env).bind fun b => .ok (!b) := by rw [tst] <;> rfl
@[simp] theorem tst_and : tst g C (.and a b) env = (tst g C a env).bind fun k => if k = true then tst g C b env else .ok false := by rw [tst] <;> rfl
@[simp] theorem tst_or : tst g C (.or a b) env = (tst g C a env).bind fun k => if k = true then .ok true else tst g C b env := by rw [tst] <;> rfl
@[simp] theorem tst_bl (b : Bool) : tst g C (.bl b) env = .ok b := by rw [tst] <;> rfl
@[simp] theorem tst_var (i : Nat) : tst g C (.var i) env = (look env i).bind fun x => (truthD x.2).tame := by rw [tst] <;> rfl
@[simp] theorem tst_cmp (o : Cop) : tst g C (.cmp o a b) env = (ev g C a env).bind fun x => (ev g C b env).bind fun y => (cmpD o x.2 y.2).tame := by rw [tst] <;> rfl
@[simp] theorem tst_chain (o p : Cop) : tst g C (.chain o p a b c) env = (ev g C a env).bind fun x => (ev g C b env).bind fun y => (cmpD o x.2 y.2).tame.bind fun k =>
      if k = true then (ev g C c env).bind fun z => (cmpD p y.2 z.2).tame else .ok false := by rw [tst] <;> rfl
@[simp] theorem tst_isi (b : Bt) : tst g C (.isi a b) env = (ev g C a env).bind fun x => (isiD b x.2).tame := by rw [tst] <;> rfl
@[simp] theorem tst_isx (i : Nat) (c : Str) : tst g C (.isx i c) env = match env[i]? with
    | some (some (.ex, .ob k _ _)) => if (g.exf k).isSome = true then .ok (g.sub k c) else .no
    | _ => .no := by rw [tst] <;> rfl
@[simp] theorem tst_call (f : Str) : tst g C (.call f es) env = ((evs g C es env).bind fun l => C.call f (l.map (·.2))).bind fun x => (truthD x.2).tame := by rw [tst] <;> rfl
@[simp] theorem tst_ix : tst g C (.ix a b) env = ((ev g C a env).bind fun x => (ev g C b env).bind fun y => shD (ixD x.2 y.2).tame).bind fun z => (truthD z.2).tame := by rw [tst] <;> rfl
@[simp] theorem tst_bi (f : Bi) : tst g C (.bi f es) env = ((evs g C es env).bind fun l => ownL (biD f (l.map (·.2)))).bind fun z => (truthD z.2).tame := by rw [tst] <;> rfl
@[simp] theorem items_it : items g C (.it e) env = (ev g C e env).bind fun x => match itD x.2 with
    | some l => .ok (x, l)
    | none => .no := by rw [items] <;> rfl
@[simp] theorem items_rng1 : items g C (.rng1 a) env = (ev g C a env).bind fun x => match x.2 with
    | .int j => (rngD 0 j).bind fun l => .ok ((.sh, .non), l)
    | _ => .no := by rw [items] <;> rfl
@[simp] theorem items_rng2 : items g C (.rng2 a b) env = (ev g C a env).bind fun x => (ev g C b env).bind fun y => match x.2, y.2 with
    | .int i, .int j => (rngD i j).bind fun l => .ok ((.sh, .non), l)
    | _, _ => .no := by rw [items] <;> rfl
@[simp] theorem items_rev : items g C (.rev e) env = (ev g C e env).bind fun x => match seqOf x.2 with
    | some l => .ok (x, l.reverse)
    | none => .no := by rw [items] <;> rfl
/-! statements -/
@[simp] theorem exs_nil : exs g C .nil env = .nx env := by rw [exs] <;> rfl
theorem exs_cons : exs g C (.cons s ss) env = match exS g C s env with
    | .nx env' => exs g C ss env'
    | o => o := by rw [exs] <;> rfl
def Out.seq (o : Out) (f : Env → Out) : Out := match o with
  | .nx env => f env
  | o => o
@[simp] theorem seq_nx (f : Env → Out) : (Out.nx env).seq f = f env := (rfl)
@[simp] theorem seq_ret (o : Own) (d : D) (f : Env → Out) : (Out.ret o d).seq f = .ret o d := (rfl)
@[simp] theorem seq_brk (f : Env → Out) : (Out.brk env).seq f = .brk env := (rfl)
@[simp] theorem seq_ct (f : Env → Out) : (Out.ct env).seq f = .ct env := (rfl)
@[simp] theorem seq_exc (e : D) (f : Env → Out) : (Out.exc env e).seq f = .exc env e := (rfl)
@[simp] theorem seq_no (f : Env → Out) : Out.no.seq f = .no := (rfl)
@[simp] theorem exs_seq : exs g C (.cons s ss) env = (exS g C s env).seq (exs g C ss) := by rw [exs] <;> rfl
@[simp] theorem seq_ite (c : Prop) [Decidable c] (x y : Out) (f : Env → Out) : (if c then x else y).seq f = if c then x.seq f else y.seq f := by split <;> rfl
@[simp] theorem exS_pass : exS g C .pass env = .nx env := by rw [exS] <;> rfl
@[simp] theorem exS_doc : exS g C .doc env = .nx env := by rw [exS] <;> rfl
@[simp] theorem exS_asg (i : Nat) : exS g C (.asg i e) env = (ev g C e env).to (rd e) env fun v => .nx ((aft e v env).set i (some v)) := by rw [exS] <;> rfl
@[simp] theorem exS_tup (is : List Nat) : exS g C (.tup is e) env = (ev g C e env).to (rd e) env fun v => match bindT (.tp is) v.2 (aft e (.sh, v.2) env) with
    | some env' => .nx env'
    | none => .no := by rw [exS] <;> rfl
@[simp] theorem exS_app (x : Nat) : exS g C (.app x e) env = if isL x env = true then (ev g C e env).to (rd e) env fun v => match own1 x (frz [(x, false)] (aft e v env)) with
    | some (_, l) => if l.length < szL then .nx ((frz [(x, false)] (aft e v env)).set x (some (.o1, .lst (l ++ [v.2])))) else .no
    | none => .no else .no := by rw [exS] <;> simp only [decide_eq_true_eq] <;> rfl
@[simp] theorem exS_asgix (x : Nat) (i : E) : exS g C (.asgix x i e) env = (ev g C e env).to (rd e) env fun v => if isL x (aft e v env) = true then (ev g C i (aft e v env)).to (rd i) (aft e v env) fun k => (match k.2 with
    | .int j => (match own1 x (frz [(x, false)] (aft e v env)) with
      | some (_, l) => (match L2.ixN l.length j with
        | some n => .nx ((frz [(x, false)] (aft e v env)).set x (some (.o1, .lst (l.set n v.2))))
        | none => .no)
      | none => .no)
    | _ => .no) else .no := by rw [exS] <;> rfl
@[simp] theorem exS_fld (x : Nat) (f : Str) : exS g C (.fld x f e) env = (ev g C e env).to (rd e) env fun v => match (aft e v env)[x]? with
    | some (some (.oi, .ob c ns vs)) => if ns.length < 900 then .nx ((aft e v env).set x (some (.oi, .ob c (setF f v.2 ns vs).1 (setF f v.2 ns vs).2))) else .no
    | _ => .no := by rw [exS] <;> simp only [decide_eq_true_eq] <;> rfl
theorem exS_appat (x : Nat) (i : E) : exS g C (.appat x i e) env = (match own2 x env with
    | some l => (ev g C i env).to (rd i) env fun k => (match k.2 with
      | .int j => (match L2.ixN l.length j with
        | some n => (match l[n]? with
          | some (.lst m) => (ev g C e env).to (rd e) env fun v => (match own2 x (aft e v env) with
            | some l2 => (match l2[n]? with
              | some (.lst m2) => if decide (m2.length < szL) then .nx ((aft e v env).set x (some (.o2, .lst (l2.set n (.lst (m2 ++ [v.2])))))) else .no
              | _ => .no)
            | none => .no)
          | _ => .no)
        | none => .no)
      | _ => .no)
    | none => .no) := by rw [exS] <;> rfl
@[simp] theorem setF_nil (f : Str) (v : D) (vs : List D) : setF f v [] vs = ([f], [v]) := (rfl)
theorem setF_ne {f n : Str} (h : n ≠ f) (v w : D) (ns : List Str) (vs : List D) : setF f v (n :: ns) (w :: vs) = ((n :: (setF f v ns vs).1), (w :: (setF f v ns vs).2)) := by
  show (if n = f then _ else _) = _
  rw [if_neg h]
@[simp] theorem fldD_ob (f c : Str) (ns : List Str) (vs : List D) : fldD f (.ob c ns vs) = match fldL f ns vs with
    | some d => .ok d
    | none => .no := (rfl)
@[simp] theorem endI_nx (d : D) (r : Env) : endI (.nx (some (.oi, d) :: r)) = .ok d := (rfl)
@[simp] theorem endI_exc (e : D) : endI (.exc env e) = .exc e := (rfl)
@[simp] theorem exS_popd (x : Nat) : exS g C (.popd x .none) env = (match own1 x env with
    | some (_, l) => if l.isEmpty = true then .no else .nx (env.set x (some (.o1, .lst l.dropLast)))
    | none => .no) := by rw [exS] <;> rfl
@[simp] theorem exS_appop (x y : Nat) (i : E) : exS g C (.appop x y (.some i)) env = if (isL x env && isL y env) = true then (ev g C i env).to (rd i) env fun k => popA x y k.2 (frz [(x, false), (y, false)] (aft i k env)) else .no := by rw [exS] <;> rfl
@[simp] theorem exS_rev (x : Nat) : exS g C (.rev x) env = match own1 x (frz [(x, false)] env) with
    | some (_, l) => .nx ((frz [(x, false)] env).set x (some (.o1, .lst l.reverse)))
    | none => .no := by rw [exS] <;> rfl
@[simp] theorem exS_ex : exS g C (.ex e) env = (ev g C e env).to (rd e) env fun _ => .nx env := by rw [exS] <;> rfl
@[simp] theorem exS_ife (x y : Ss) : exS g C (.ife c x y) env = (tst g C c env).to (rd c) env fun k => if k = true then exs g C x env else exs g C y env := by rw [exS] <;> rfl
@[simp] theorem exS_for (tg : Tg) (it : It) (b : Ss) : exS g C (.for_ tg it b) env = (items g C it env).to (rdi it) env fun xs =>
      forL (fun x env' => match bindT tg x env' with
        | some env2 => exs g C b env2
        | none => .no) xs.2 (aftI (rdi it) xs.1 env) := by rw [exS] <;> rfl
@[simp] theorem exS_while (b : Ss) : exS g C (.while_ c b) env = whileL (rd c) (tst g C c) (exs g C b) wFuel env := by rw [exS] <;> rfl
@[simp] theorem exS_ret : exS g C (.ret e) env = (retV e env (ev g C e env)).to (rd e) env fun v => .ret v.1 v.2 := by rw [exS] <;> rfl
@[simp] theorem exS_retn : exS g C .retn env = .ret .sh .non := by rw [exS] <;> rfl
@[simp] theorem exS_brk : exS g C .brk env = .brk env := by rw [exS] <;> rfl
@[simp] theorem exS_cont : exS g C .cont env = .ct env := by rw [exS] <;> rfl
@[simp] theorem exS_raise (k : Str) : exS g C (.raise_ k es) env = (evs g C es env).to (rds es) env fun l => match g.exf k with
    | some ns => if ns.length = l.length then .exc (frz (rds es) env) (.ob k ns (l.map (·.2))) else .no
    | none => .no := by rw [exS] <;> rfl
@[simp] theorem exS_try (b hb : Ss) (c : Str) (i : Nat) : exS g C (.try_ b (.cons c (some i) hb .nil)) env = match exs g C b env with
    | .exc env' (.ob k ns vs) => if ((g.exf k).isSome && (g.exf c).isSome && noX env') = true then (if g.sub k c = true then unx i (exs g C hb (env'.set i (some (.ex, .ob k ns vs)))) else .exc env' (.ob k ns vs)) else .no
    | .exc _ _ => .no
    | o => o := by rw [exS] <;> rfl
@[simp] theorem endR_nx : endR (.nx env) = .ok (.sh, .non) := (rfl)
@[simp] theorem endR_ret (o : Own) (d : D) : endR (.ret o d) = .ok (o, d) := (rfl)
@[simp] theorem endR_exc (e : D) : endR (.exc env e) = .exc e := (rfl)
@[simp] theorem endR_ite (c : Prop) [Decidable c] (x y : Out) : endR (if c then x else y) = if c then endR x else endR y := by split <;> rfl
@[simp] theorem cal_call (n : Nat) (f : Str) (l : List D) : (cal g n).call f l = callD g n f l := (rfl)
@[simp] theorem forL_nil (f : D → Env → Out) : forL f [] env = .nx env := (rfl)
@[simp] theorem truth_bl (b : Bool) : truthD (.bl b) = .ok b := (rfl)
@[simp] theorem truth_int (b : Int) : truthD (.int b) = .ok (b != 0) := (rfl)
@[simp] theorem truth_non : truthD .non = .ok false := (rfl)
@[simp] theorem listOwn_nil : listOwn [] = .o1 := (rfl)
@[simp] theorem szL_1 {n : Nat} (h : n ≤ 1000 := by decide) : n ≤ szL := by unfold szL; omega
end
/-! reading and freezing -/
section
variable {g : G} {C : Cal} {env : Env}
@[simp] theorem frz_def (is : List (Nat × Bool)) : frz is env = frzA is 0 env := (rfl)
@[simp] theorem frzA_nil (is : List (Nat × Bool)) (k : Nat) : frzA is k [] = [] := (rfl)
@[simp] theorem frzA_cons (is : List (Nat × Bool)) (k : Nat) (s : Slot) (r : Env) : frzA is k (s :: r) = frzS is k s :: frzA is (k + 1) r := (rfl)
@[simp] theorem frzS_none (is : List (Nat × Bool)) (k : Nat) : frzS is k none = none := (rfl)
@[simp] theorem frzS_sh (is : List (Nat × Bool)) (k : Nat) (d : D) : frzS is k (some (.sh, d)) = some (.sh, d) := (rfl)
@[simp] theorem frzS_ex (is : List (Nat × Bool)) (k : Nat) (d : D) : frzS is k (some (.ex, d)) = some (.ex, d) := (rfl)
@[simp] theorem frzS_oi (is : List (Nat × Bool)) (k : Nat) (d : D) : frzS is k (some (.oi, d)) = some (.oi, d) := (rfl)
@[simp] theorem frzS_o1 (is : List (Nat × Bool)) (k : Nat) (d : D) : frzS is k (some (.o1, d)) = if is.contains (k, true) = true then some (.sh, d) else some (.o1, d) := (rfl)
@[simp] theorem frzS_o2 (is : List (Nat × Bool)) (k : Nat) (d : D) : frzS is k (some (.o2, d)) = if is.contains (k, true) = true then some (.sh, d) else if is.contains (k, false) = true then some (.o1, d) else some (.o2, d) := (rfl)
@[simp] theorem aft_def (e : E) (v : OD) : aft e v env = aftI (rd e) v env := (rfl)
@[simp] theorem aftI_def (is : List (Nat × Bool)) (v : OD) : aftI is v env = if leaks v = true then frz is env else env := (rfl)
@[simp] theorem leaks_sh (d : D) : leaks (.sh, d) = hasL d := (rfl)
@[simp] theorem leaks_o1 (d : D) : leaks (.o1, d) = hasLs (kids d) := (rfl)
@[simp] theorem leaks_o2 (d : D) : leaks (.o2, d) = (kids d).any fun k => hasLs (kids k) := (rfl)
@[simp] theorem kids_lst (l : List D) : kids (.lst l) = l := (rfl)
@[simp] theorem kids_tup (l : List D) : kids (.tup l) = l := (rfl)
@[simp] theorem hasL_int (i : Int) : hasL (.int i) = false := by rw [hasL] <;> simp
@[simp] theorem hasL_bl (i : Bool) : hasL (.bl i) = false := by rw [hasL] <;> simp
@[simp] theorem hasL_str (i : Str) : hasL (.str i) = false := by rw [hasL] <;> simp
@[simp] theorem hasL_non : hasL .non = false := by rw [hasL] <;> simp
@[simp] theorem hasL_tup (l : List D) : hasL (.tup l) = hasLs l := by rw [hasL]
@[simp] theorem hasL_lst (l : List D) : hasL (.lst l) = true := by rw [hasL]
@[simp] theorem hasL_scr (l : List Int) : hasL (.scr l) = false := by rw [hasL] <;> simp
@[simp] theorem hasLs_nil : hasLs [] = false := by rw [hasLs]
@[simp] theorem hasLs_cons (d : D) (l : List D) : hasLs (d :: l) = (hasL d || hasLs l) := by rw [hasLs]
@[simp] theorem look_def (i : Nat) : look env i = match env[i]? with
  | some (some (.oi, _)) => .no
  | some (some (.ex, _)) => .no
  | some (some (_, d)) => .ok (.sh, d)
  | _ => .no := (rfl)
@[simp] theorem bindT_nm (i : Nat) (d : D) : bindT (.nm i) d env = some (env.set i (some (.sh, d))) := (rfl)
@[simp] theorem bindT_tp (is : List Nat) (l : List D) : bindT (.tp is) (.tup l) env = setAll is l env := (rfl)
@[simp] theorem setAll_nil : setAll [] [] env = some env := (rfl)
@[simp] theorem setAll_cons (i : Nat) (is : List Nat) (d : D) (ds : List D) : setAll (i :: is) (d :: ds) env = setAll is ds (env.set i (some (.sh, d))) := (rfl)
@[simp] theorem rd_non : rd .non = [] := by rw [rd] <;> simp
@[simp] theorem rd_bl (b : Bool) : rd (.bl b) = [] := by rw [rd] <;> simp
@[simp] theorem rd_int (b : Int) : rd (.int b) = [] := by rw [rd] <;> simp
@[simp] theorem rd_str (b : Str) : rd (.str b) = [] := by rw [rd] <;> simp
@[simp] theorem rd_g (b : Str) : rd (.g b) = [] := by rw [rd] <;> simp
@[simp] theorem rd_var (i : Nat) : rd (.var i) = [(i, true)] := by rw [rd]
@[simp] theorem rd_bin (o : Bop) (a b : E) : rd (.bin o a b) = rd a ++ rd b := by rw [rd]
@[simp] theorem rd_neg (a : E) : rd (.neg a) = rd a := by rw [rd]
@[simp] theorem rd_not (a : E) : rd (.not a) = rd a := by rw [rd]
@[simp] theorem rd_and (a b : E) : rd (.and a b) = rd a ++ rd b := by rw [rd]
@[simp] theorem rd_or (a b : E) : rd (.or a b) = rd a ++ rd b := by rw [rd]
@[simp] theorem rd_cmp (o : Cop) (a b : E) : rd (.cmp o a b) = rd a ++ rd b := by rw [rd]
@[simp] theorem rd_chain (o p : Cop) (a b c : E) : rd (.chain o p a b c) = rd a ++ (rd b ++ rd c) := by rw [rd]
@[simp] theorem rd_ife (a b c : E) : rd (.ife c a b) = rd c ++ (rd a ++ rd b) := by rw [rd]
@[simp] theorem rd_tup (es : Es) : rd (.tup es) = rds es := by rw [rd]
@[simp] theorem rd_lst (es : Es) : rd (.lst es) = rds es := by rw [rd]
@[simp] theorem rd_ixv (i : Nat) (b : E) : rd (.ix (.var i) b) = [(i, false)] ++ rd b := by rw [rd]
@[simp] theorem rd_ixl (es : Es) (b : E) : rd (.ix (.lst es) b) = rds es ++ rd b := by rw [rd] <;> first | rw [rd] | (intro i h; cases h)
@[simp] theorem rd_sl (a : E) (lo hi : Eo) : rd (.sl a lo hi) = rd a ++ (rdo lo ++ rdo hi) := by rw [rd]
@[simp] theorem rd_isi (a : E) (b : Bt) : rd (.isi a b) = rd a := by rw [rd]
@[simp] theorem rd_isx (i : Nat) (c : Str) : rd (.isx i c) = [(i, false)] := by rw [rd]
@[simp] theorem rd_xfl (i : Nat) (c : Str) : rd (.xfl i c) = [(i, false)] := by rw [rd]
@[simp] theorem rd_hsm (i j : Nat) : rd (.hsm i j) = [(i, true)] := by rw [rd]
@[simp] theorem rd_hcall (f : Str) (i : Nat) : rd (.hcall f i) = [(i, false)] := by rw [rd]
@[simp] theorem rd_join (z : Str) (b : E) : rd (.join z b) = rd b := by rw [rd]
@[simp] theorem rd_new (c : Str) (es : Es) : rd (.new c es) = rds es := by rw [rd]
@[simp] theorem rd_me (m : Str) (a : E) (es : Es) : rd (.me m a es) = rd a ++ rds es := by rw [rd]
@[simp] theorem rd_fldv (i : Nat) (f : Str) : rd (.fld (.var i) f) = [(i, false)] := by rw [rd]
@[simp] theorem rd_lsv (i : Nat) : rd (.lsv i) = [(i, false)] := by rw [rd]
@[simp] theorem rd_rvl (a : E) : rd (.rvl a) = rd a := by rw [rd]
@[simp] theorem rd_rvt (a : E) : rd (.rvt a) = rd a := by rw [rd]
@[simp] theorem rd_bm (m : Bm) (a : E) (es : Es) : rd (.bm m a es) = rd a ++ rds es := by rw [rd]
@[simp] theorem rd_call (f : Str) (es : Es) : rd (.call f es) = rds es := by rw [rd]
@[simp] theorem rd_bi (f : Bi) (es : Es) : rd (.bi f es) = rds es := by rw [rd]
@[simp] theorem rd_lc (elt : E) (tg : Tg) (it : It) (c : Eo) : rd (.lc elt tg it c) = rdi it ++ (rd elt ++ rdo c) := by rw [rd]
@[simp] theorem rds_nil : rds .nil = [] := by rw [rds]
@[simp] theorem rds_cons (e : E) (es : Es) : rds (.cons e es) = rd e ++ rds es := by rw [rds]
@[simp] theorem rdo_none : rdo .none = [] := by rw [rdo]
@[simp] theorem rdo_some (e : E) : rdo (.some e) = rd e := by rw [rdo]
@[simp] theorem rdi_it (e : E) : rdi (.it e) = rd e := by rw [rdi]
@[simp] theorem rdi_rng1 (e : E) : rdi (.rng1 e) = rd e := by rw [rdi]
@[simp] theorem rdi_rng2 (e f : E) : rdi (.rng2 e f) = rd e ++ rd f := by rw [rdi]
@[simp] theorem rdi_rev (e : E) : rdi (.rev e) = rd e := by rw [rdi]
@[simp] theorem retV_var (i : Nat) (r : R OD) : retV (.var i) env r = match env[i]? with
    | some (some (.oi, _)) => .no
    | some (some (.ex, _)) => .no
    | some (some (o, d)) => .ok (o, d)
    | _ => .no := (rfl)
theorem retV_of {e : E} (h : ∀ i, e ≠ .var i) (r : R OD) : retV e env r = r := by cases e <;> first | rfl | exact absurd rfl (h _)
@[simp] theorem retV_tup (es : Es) (r : R OD) : retV (.tup es) env r = r := (rfl)
@[simp] theorem retV_bl (b : Bool) (r : R OD) : retV (.bl b) env r = r := (rfl)
@[simp] theorem retV_int (b : Int) (r : R OD) : retV (.int b) env r = r := (rfl)
@[simp] theorem retV_non (r : R OD) : retV .non env r = r := (rfl)
@[simp] theorem retV_str (b : Str) (r : R OD) : retV (.str b) env r = r := (rfl)
@[simp] theorem retV_and (a b : E) (r : R OD) : retV (.and a b) env r = r := (rfl)
@[simp] theorem retV_or (a b : E) (r : R OD) : retV (.or a b) env r = r := (rfl)
@[simp] theorem retV_not (a : E) (r : R OD) : retV (.not a) env r = r := (rfl)
@[simp] theorem retV_neg (a : E) (r : R OD) : retV (.neg a) env r = r := (rfl)
@[simp] theorem retV_cmp (o : Cop) (a b : E) (r : R OD) : retV (.cmp o a b) env r = r := (rfl)
@[simp] theorem retV_chain (o p : Cop) (a b c : E) (r : R OD) : retV (.chain o p a b c) env r = r := (rfl)
@[simp] theorem retV_bin (o : Bop) (a b : E) (r : R OD) : retV (.bin o a b) env r = r := (rfl)
@[simp] theorem retV_call (f : Str) (es : Es) (r : R OD) : retV (.call f es) env r = r := (rfl)
@[simp] theorem retV_bm (m : Bm) (a : E) (es : Es) (r : R OD) : retV (.bm m a es) env r = r := (rfl)
@[simp] theorem retV_join (z : Str) (b : E) (r : R OD) : retV (.join z b) env r = r := (rfl)
@[simp] theorem retV_new (c : Str) (es : Es) (r : R OD) : retV (.new c es) env r = r := (rfl)
@[simp] theorem retV_me (m : Str) (a : E) (es : Es) (r : R OD) : retV (.me m a es) env r = r := (rfl)
@[simp] theorem retV_fld (a : E) (f : Str) (r : R OD) : retV (.fld a f) env r = r := (rfl)
@[simp] theorem retV_sl (a : E) (lo hi : Eo) (r : R OD) : retV (.sl a lo hi) env r = r := (rfl)
@[simp] theorem retV_lsv (i : Nat) (r : R OD) : retV (.lsv i) env r = r := (rfl)
@[simp] theorem retV_rvl (a : E) (r : R OD) : retV (.rvl a) env r = r := (rfl)
@[simp] theorem retV_rvt (a : E) (r : R OD) : retV (.rvt a) env r = r := (rfl)
@[simp] theorem retV_hsm (i j : Nat) (r : R OD) : retV (.hsm i j) env r = r := (rfl)
@[simp] theorem retV_hcall (f : Str) (i : Nat) (r : R OD) : retV (.hcall f i) env r = r := (rfl)
@[simp] theorem retV_bi (f : Bi) (es : Es) (r : R OD) : retV (.bi f es) env r = r := (rfl)
@[simp] theorem retV_ix (a b : E) (r : R OD) : retV (.ix a b) env r = r := (rfl)
@[simp] theorem retV_lst (es : Es) (r : R OD) : retV (.lst es) env r = r := (rfl)
@[simp] theorem retV_ife (a b c : E) (r : R OD) : retV (.ife a b c) env r = r := (rfl)
@[simp] theorem retV_lc (elt : E) (tg : Tg) (it : It) (c : Eo) (r : R OD) : retV (.lc elt tg it c) env r = r := (rfl)
@[simp] theorem isi_int_non  : isiD .int .non = .ok false := (rfl)
@[simp] theorem isi_int_bl (x : Bool) : isiD .int (.bl x) = .ok true := (rfl)
@[simp] theorem isi_int_int (x : Int) : isiD .int (.int x) = .ok true := (rfl)
@[simp] theorem isi_int_str (x : Str) : isiD .int (.str x) = .ok false := (rfl)
@[simp] theorem isi_int_tup (x : List D) : isiD .int (.tup x) = .ok false := (rfl)
@[simp] theorem isi_int_lst (x : List D) : isiD .int (.lst x) = .ok false := (rfl)
@[simp] theorem isi_int_scr (x : List Int) : isiD .int (.scr x) = .ok false := (rfl)
@[simp] theorem isi_str_non  : isiD .str .non = .ok false := (rfl)
@[simp] theorem isi_str_bl (x : Bool) : isiD .str (.bl x) = .ok false := (rfl)
@[simp] theorem isi_str_int (x : Int) : isiD .str (.int x) = .ok false := (rfl)
@[simp] theorem isi_str_str (x : Str) : isiD .str (.str x) = .ok true := (rfl)
@[simp] theorem isi_str_tup (x : List D) : isiD .str (.tup x) = .ok false := (rfl)
@[simp] theorem isi_str_lst (x : List D) : isiD .str (.lst x) = .ok false := (rfl)
@[simp] theorem isi_str_scr (x : List Int) : isiD .str (.scr x) = .ok false := (rfl)
@[simp] theorem isi_bool_non  : isiD .bool .non = .ok false := (rfl)
@[simp] theorem isi_bool_bl (x : Bool) : isiD .bool (.bl x) = .ok true := (rfl)
@[simp] theorem isi_bool_int (x : Int) : isiD .bool (.int x) = .ok false := (rfl)
@[simp] theorem isi_bool_str (x : Str) : isiD .bool (.str x) = .ok false := (rfl)
@[simp] theorem isi_bool_tup (x : List D) : isiD .bool (.tup x) = .ok false := (rfl)
@[simp] theorem isi_bool_lst (x : List D) : isiD .bool (.lst x) = .ok false := (rfl)
@[simp] theorem isi_bool_scr (x : List Int) : isiD .bool (.scr x) = .ok false := (rfl)
@[simp] theorem isi_tuple_non  : isiD .tuple .non = .ok false := (rfl)
@[simp] theorem isi_tuple_bl (x : Bool) : isiD .tuple (.bl x) = .ok false := (rfl)
@[simp] theorem isi_tuple_int (x : Int) : isiD .tuple (.int x) = .ok false := (rfl)
@[simp] theorem isi_tuple_str (x : Str) : isiD .tuple (.str x) = .ok false := (rfl)
@[simp] theorem isi_tuple_tup (x : List D) : isiD .tuple (.tup x) = .ok true := (rfl)
@[simp] theorem isi_tuple_lst (x : List D) : isiD .tuple (.lst x) = .ok false := (rfl)
@[simp] theorem isi_tuple_scr (x : List Int) : isiD .tuple (.scr x) = .ok false := (rfl)
@[simp] theorem isi_list_non  : isiD .list .non = .ok false := (rfl)
@[simp] theorem isi_list_bl (x : Bool) : isiD .list (.bl x) = .ok false := (rfl)
@[simp] theorem isi_list_int (x : Int) : isiD .list (.int x) = .ok false := (rfl)
@[simp] theorem isi_list_str (x : Str) : isiD .list (.str x) = .ok false := (rfl)
@[simp] theorem isi_list_tup (x : List D) : isiD .list (.tup x) = .ok false := (rfl)
@[simp] theorem isi_list_lst (x : List D) : isiD .list (.lst x) = .ok true := (rfl)
@[simp] theorem isi_list_scr (x : List Int) : isiD .list (.scr x) = .ok true := (rfl)
end
/-! ### values -/
section
@[simp] theorem W_alike_ii (i j : Int) : W.alike (.int i) (.int j) = true := (rfl)
@[simp] theorem py_int (i : Int) : py (.int i) = .int i := by rw [py] <;> rfl
@[simp] theorem py_bl (i : Bool) : py (.bl i) = .bool i := by rw [py] <;> rfl
@[simp] theorem py_str (i : Str) : py (.str i) = .str i := by rw [py] <;> rfl
@[simp] theorem py_non : py .non = .none := by rw [py] <;> rfl
@[simp] theorem py_tup (l : List D) : py (.tup l) = .tuple (pys l) := by rw [py] <;> rfl
@[simp] theorem pys_nil : pys [] = [] := by rw [pys] <;> rfl
@[simp] theorem pys_cons (d : D) (l : List D) : pys (d :: l) = py d :: pys l := by rw [pys] <;> rfl
@[simp] theorem plainB_int (i : Int) : plainB (.int i) = true := by unfold plainB; rw [py_int]; rfl
@[simp] theorem plainB_bl (i : Bool) : plainB (.bl i) = true := by unfold plainB; rw [py_bl]; rfl
@[simp] theorem plainB_str (i : Str) : plainB (.str i) = true := by unfold plainB; rw [py_str]; rfl
@[simp] theorem plainB_non : plainB .non = true := by unfold plainB; rw [py_non]; rfl
@[simp] theorem dataLt_ii (i j : Int) : W.dataLt (.int i) (.int j) = decide (i < j) := W.dataLt_int i j
@[simp] theorem lt_ii (i j : Int) : cmpD .lt (.int i) (.int j) = .ok (decide (i < j)) := by
  simp only [cmpD, ltD]
  simp [isNonD]
@[simp] theorem gt_ii (i j : Int) : cmpD .gt (.int i) (.int j) = .ok (decide (j < i)) := by
  simp only [cmpD]
  simp [isNonD]
@[simp] theorem le_ii (i j : Int) : cmpD .le (.int i) (.int j) = .ok (decide (i ≤ j)) := by
  simp only [cmpD, nltD]
  simp [isNonD]
  by_cases h : j < i
  · have : ¬ i ≤ j := by omega
    simp [h, this]
  · have : i ≤ j := by omega
    simp [h, this]
@[simp] theorem ge_ii (i j : Int) : cmpD .ge (.int i) (.int j) = .ok (decide (j ≤ i)) := by
  simp only [cmpD]
  simp [isNonD]
  by_cases h : i < j
  · have : ¬ j ≤ i := by omega
    simp [h, this]
  · have : j ≤ i := by omega
    simp [h, this]
@[simp] theorem eq_ii (i j : Int) : cmpD .eq (.int i) (.int j) = .ok (decide (i = j)) := by
  simp only [cmpD, eqD, scV]
  simp [L2.scal]
@[simp] theorem eq_ss (i j : Str) : cmpD .eq (.str i) (.str j) = .ok (decide (i = j)) := by
  simp only [cmpD, eqD, scV]
  simp [L2.scal]
@[simp] theorem eq_bb (i j : Bool) : cmpD .eq (.bl i) (.bl j) = .ok (decide (i = j)) := by
  simp only [cmpD, eqD, scV]
  simp [L2.scal]
theorem ne_of (a b : D) : cmpD .ne a b = (cmpD .eq a b).bind fun c => .ok (!c) := (rfl)
@[simp] theorem ne_ii (i j : Int) : cmpD .ne (.int i) (.int j) = .ok (decide (i ≠ j)) := by rw [ne_of, eq_ii]; simp
@[simp] theorem ne_bb (i j : Bool) : cmpD .ne (.bl i) (.bl j) = .ok (decide (i ≠ j)) := by rw [ne_of, eq_bb]; simp
@[simp] theorem is_n (a : D) : cmpD .is_ a .non = .ok (isNonD a) := by cases a <;> rfl
@[simp] theorem isnot_n (a : D) : cmpD .isnot a .non = .ok (!isNonD a) := by cases a <;> rfl
@[simp] theorem add_ii (i j : Int) : binD .add (.int i) (.int j) = .ok (.int (i + j)) := (rfl)
@[simp] theorem sub_ii (i j : Int) : binD .sub (.int i) (.int j) = .ok (.int (i - j)) := (rfl)
theorem mul_ii (i j : Int) (h : mulOk i j = true) : binD .mul (.int i) (.int j) = .ok (.int (i * j)) := by simp only [binD, mulD, h, if_true]
theorem mod_ii (i j : Int) (h : 0 < j) : binD .mod (.int i) (.int j) = .ok (.int (i % j)) := by simp only [binD, decide_eq_true h, if_true]
theorem div_ii (i j : Int) (h : 0 < j) (h2 : j < 1073741824) : binD .fdiv (.int i) (.int j) = .ok (.int (i / j)) := by simp only [binD, decide_eq_true h, absLe_of (show -((1073741823 : Nat) : Int) ≤ j by omega) (show j ≤ (1073741823 : Nat) by omega)]; rfl
@[simp] theorem add_tt (a b : List D) : binD .add (.tup a) (.tup b) = if a.length + b.length ≤ szL then .ok (.tup (a ++ b)) else .no := by
  simp only [binD, addD, decide_eq_true_eq]
@[simp] theorem add_ll (a b : List D) : binD .add (.lst a) (.lst b) = if a.length + b.length ≤ szL then .ok (.lst (a ++ b)) else .no := by
  simp only [binD, addD, decide_eq_true_eq]
@[simp] theorem len_tup (l : List D) : biD .len [.tup l] = .ok (.int l.length) := (rfl)
@[simp] theorem len_lst (l : List D) : biD .len [.lst l] = .ok (.int l.length) := (rfl)
@[simp] theorem len_scr (l : List Int) : biD .len [.scr l] = .ok (.int l.length) := (rfl)
@[simp] theorem int_int (i : Int) : biD .int [.int i] = .ok (.int i) := (rfl)
@[simp] theorem tuple_lst (l : List D) : biD .tuple [.lst l] = .ok (.tup l) := (rfl)
@[simp] theorem tuple_tup (l : List D) : biD .tuple [.tup l] = .ok (.tup l) := (rfl)
@[simp] theorem list_tup (l : List D) : biD .list [.tup l] = .ok (.lst l) := (rfl)
@[simp] theorem list_lst (l : List D) : biD .list [.lst l] = .ok (.lst l) := (rfl)
@[simp] theorem abs_i (i : Int) : biD .abs [.int i] = .ok (.int (if i < 0 then -i else i)) := (rfl)
@[simp] theorem max_ii (i j : Int) : biD .max [.int i, .int j] = .ok (.int (if j > i then j else i)) := (rfl)
@[simp] theorem max_l (l : List D) : biD .max [.lst l] = match intsOf l with
  | some (x :: is) => .ok (.int (is.foldl max x))
  | _ => maxR l := (rfl)
@[simp] theorem max_t (l : List D) : biD .max [.tup l] = match intsOf l with
  | some (x :: is) => .ok (.int (is.foldl max x))
  | _ => maxR l := (rfl)
@[simp] theorem min_l (l : List D) : biD .min [.lst l] = match intsOf l with
  | some (x :: is) => .ok (.int (is.foldl min x))
  | _ => minR l := (rfl)
@[simp] theorem min_t (l : List D) : biD .min [.tup l] = match intsOf l with
  | some (x :: is) => .ok (.int (is.foldl min x))
  | _ => minR l := (rfl)
@[simp] theorem maxd_i (l : List D) (k : Int) : biD .maxd [.lst l, .int k] = match intsOf l with
  | some (x :: is) => .ok (.int (is.foldl max x))
  | some [] => .ok (.int k)
  | none => maxR l := (rfl)
@[simp] theorem mind_n (l : List D) : biD .mind [.lst l, .non] = match intsOf l with
  | some (x :: is) => .ok (.int (is.foldl min x))
  | some [] => .ok .non
  | none => minR l := (rfl)
@[simp] theorem min_ii (i j : Int) : biD .min [.int i, .int j] = .ok (.int (if j < i then j else i)) := (rfl)
@[simp] theorem itD_tup (l : List D) : itD (.tup l) = some l := (rfl)
@[simp] theorem itD_lst (l : List D) : itD (.lst l) = some l := (rfl)
@[simp] theorem ixD_tup (l : List D) (i : Int) : ixD (.tup l) (.int i) = match L2.atI l i with
  | some d => .ok d
  | none => .no := (rfl)
@[simp] theorem ixD_lst (l : List D) (i : Int) : ixD (.lst l) (.int i) = match L2.atI l i with
  | some d => .ok d
  | none => .no := (rfl)
@[simp] theorem ixD_scr (l : List Int) (i : Int) : ixD (.scr l) (.int i) = match L2.atI l i with
  | some d => .ok (.int d)
  | none => .no := (rfl)
end
end S2

set_option maxHeartbeats 1000000
/-! P2: loops, lists of numbers. -/
namespace S2
open PySem
/-- the loop is left there -/
def Out.stop : Out → Bool
  | .ret _ _ => true
  | .exc _ _ => true
  | _ => false
theorem forL_ind {f : D → Env → Out} {Post : Out → Prop} (Inv : List D → Env → Prop) (step : ∀ x r env, Inv (x :: r) env → (∃ env', (f x env = .nx env' ∨ f x env = .ct env') ∧ Inv r env') ∨ (∃ env', f x env = .brk env' ∧ Post (.nx env')) ∨ ((f x env).stop = true ∧ Post (f x env)))
    (hend : ∀ env, Inv [] env → Post (.nx env)) : ∀ (l : List D) (env : Env), Inv l env → Post (forL f l env)
  | [], env, h => hend env h
  | x :: r, env, h => by
    rcases step x r env h with ⟨env', e, i⟩ | ⟨env', e, p⟩ | ⟨e, p⟩
    · have : forL f (x :: r) env = forL f r env' := by
        rw [forL]
        rcases e with e | e <;> rw [e]
      rw [this]
      exact forL_ind Inv step hend r env' i
    · have : forL f (x :: r) env = .nx env' := by rw [forL, e]
      rw [this]; exact p
    · have : forL f (x :: r) env = f x env := by
        rw [forL]
        cases q : f x env <;> rw [q] at e <;> first | rfl | cases e
      rw [this]; exact p
theorem upto_zero (n : Nat) : upto 0 n = (List.range' 0 n).map fun k : Nat => D.int k := by
  unfold upto
  rw [List.range_eq_range']
  exact List.map_congr_left fun a _ => by simp
/-- for k in range(n) -/
theorem forL_up {f : D → Env → Out} {Post : Out → Prop} {n : Nat} {env : Env} (Inv : Nat → Env → Prop) (h0 : Inv 0 env) (step : ∀ k env, k < n → Inv k env → (∃ env', (f (.int k) env = .nx env' ∨ f (.int k) env = .ct env') ∧ Inv (k + 1) env') ∨ (∃ env', f (.int k) env = .brk env' ∧ Post (.nx env')) ∨ ((f (.int k) env).stop = true ∧ Post (f (.int k) env)))
    (hend : ∀ env, Inv n env → Post (.nx env)) : Post (forL f (upto 0 n) env) := by
  refine forL_ind (fun r env => ∃ k m, r = (List.range' k m).map (fun k : Nat => D.int k) ∧ k + m = n ∧ Inv k env) (fun x r env ⟨k, m, e, hm, i⟩ => ?_) (fun env ⟨k, m, e, hm, i⟩ => ?_) _ _ ⟨0, n, upto_zero n, by omega, h0⟩
  · cases m with
    | zero => cases e
    | succ m =>
      rw [List.range'_succ, List.map_cons] at e
      injection e with e1 e2
      subst e1
      rcases step k env (by omega) i with ⟨env', e, i'⟩ | h | h
      · exact .inl ⟨env', e, k + 1, m, e2, by omega, i'⟩
      · exact .inr (.inl h)
      · exact .inr (.inr h)
  · cases m with
    | zero =>
      have : k = n := by omega
      subst this
      exact hend env i
    | succ m => rw [List.range'_succ, List.map_cons] at e; cases e
theorem rng_up {j : Int} (h0 : 0 ≤ j) (h1 : j ≤ 1000000) : rngD 0 j = .ok (upto 0 j.toNat) := by
  have e1 : small62 j = true := absLe_of (by omega) (by omega)
  have e2 : small62 0 = true := rfl
  unfold rngD
  rw [e1, e2, Int.sub_zero]
  rfl
theorem rng_nat {j : Nat} (h1 : j ≤ 1000000) : rngD 0 (j : Int) = .ok (upto 0 j) := by
  rw [rng_up (Int.natCast_nonneg j) (by omega), Int.toNat_natCast]
theorem atI_nat {α : Type} {l : List α} {k : Nat} (h : k < l.length) : L2.atI l (k : Int) = some (l[k]) := by
  unfold L2.atI L2.ixN
  have h1 : (0 : Int) ≤ k := by omega
  have h2 : (k : Int) < l.length := by omega
  rw [if_pos h1, if_pos h2]
  simp [h]
theorem atI_int {α : Type} {l : List α} {k : Int} (h0 : 0 ≤ k) (h : k < l.length) : ∃ h2, L2.atI l k = some (l[k.toNat]'h2) := by
  have h2 : k.toNat < l.length := by omega
  refine ⟨h2, ?_⟩
  have := atI_nat (l := l) (k := k.toNat) h2
  rwa [Int.toNat_of_nonneg h0] at this
theorem atI_mem {α : Type} {l : List α} {k : Int} (h0 : 0 ≤ k) (h : k < l.length) : ∃ x ∈ l, L2.atI l k = some x := by
  obtain ⟨h2, e⟩ := atI_int h0 h
  exact ⟨_, List.getElem_mem h2, e⟩
theorem ixN_int {n : Nat} {k : Int} (h0 : 0 ≤ k) (h : k < n) : L2.ixN n k = some k.toNat := by
  unfold L2.ixN
  rw [if_pos h0, if_pos h]
theorem mulOk_l {i j : Int} (h1 : -18446744073709551615 ≤ i) (h2 : i ≤ 18446744073709551615) : mulOk i j = true := by
  unfold mulOk
  rw [absLe_of (n := 18446744073709551615) (by omega) (by omega)]
  rfl
theorem mulOk_r {i j : Int} (h1 : -18446744073709551615 ≤ j) (h2 : j ≤ 18446744073709551615) : mulOk i j = true := by
  unfold mulOk
  rw [absLe_of (i := j) (n := 18446744073709551615) (by omega) (by omega), Bool.or_true]
@[simp] theorem own1_get {x : Nat} {env : Env} : own1 x env = match env[x]? with
  | some (some (.o1, .lst l)) => some (.o1, l)
  | _ => none := rfl
@[simp] theorem isL_get {x : Nat} {env : Env} : isL x env = match env[x]? with
  | some (some (.o1, .lst _)) => true
  | some (some (.o2, .lst _)) => true
  | _ => false := rfl
@[simp] theorem hasLs_ints : ∀ l : List Int, hasLs (l.map .int) = false
  | [] => hasLs_nil
  | i :: l => by rw [List.map_cons, hasLs_cons, hasL_int, hasLs_ints l]; rfl
theorem szL_ne : szL ≠ 0 := by unfold szL; decide
theorem szL_of {n : Nat} (h : n ≤ 1000000) : n ≤ szL := by unfold szL; omega
theorem szL_lt {n : Nat} (h : n ≤ 1000000) : n < szL := by unfold szL; omega
end S2

set_option maxHeartbeats 1000000
/-! P3: strings as lists of signs, comprehensions and loops by what holds of their items. -/
namespace S2
open PySem
/-- the text of these signs -/
def sg (l : List Nat) : Str := ⟨l.toArray⟩
theorem sg_of (s : Str) : s = sg s.cps.toList := by cases s; simp [sg]
theorem str_ex (s : Str) : ∃ l, s = sg l := ⟨_, sg_of s⟩
@[simp] theorem sg_cps (l : List Nat) : (sg l).cps.toList = l := by simp [sg]
@[simp] theorem sg_len (l : List Nat) : (sg l).length = l.length := by simp [sg, Str.length]
theorem sg_inj {a b : List Nat} (h : sg a = sg b) : a = b := by rw [← sg_cps a, h, sg_cps]
@[simp] theorem sg_eq (a b : List Nat) : (sg a = sg b) = (a = b) := propext ⟨sg_inj, fun h => by rw [h]⟩
theorem sg_app (a b : List Nat) : sg a ++ sg b = sg (a ++ b) := by
  show Str.append (sg a) (sg b) = _
  simp [Str.append, sg]
theorem len_str {l : List Nat} (h : l.length ≤ 1000000) : biD .len [.str (sg l)] = .ok (.int l.length) := by
  show (if (sg l).length ≤ szL then _ else _) = _
  rw [sg_len, if_pos (szL_of h)]
theorem add_str {a b : List Nat} (h : a.length + b.length ≤ 1000000) : binD .add (.str (sg a)) (.str (sg b)) = .ok (.str (sg (a ++ b))) := by
  show (if (sg a).length + (sg b).length ≤ szL then R.ok (D.str (sg a ++ sg b)) else _) = _
  rw [sg_len, sg_len, if_pos (szL_of h), sg_app]
theorem itD_str (l : List Nat) : itD (.str (sg l)) = some (l.map fun c => .str (sg [c])) := by
  show some ((sg l).cps.toList.map fun c => D.str ⟨#[c]⟩) = _
  rw [sg_cps]
  rfl
theorem ix_str {l : List Nat} {i : Int} {c : Nat} (h : l.length ≤ 1000000) (e : L2.atI l i = some c) : ixD (.str (sg l)) (.int i) = .ok (.str (sg [c])) := by
  show (if (sg l).length ≤ szL then (match L2.atI (sg l).cps.toList i with
    | some c => R.ok (D.str ⟨#[c]⟩)
    | none => .no) else .no) = _
  rw [sg_len, if_pos (szL_of h), sg_cps, e]
  rfl
theorem sl_str {l : List Nat} {lo hi : Option Int} (h : l.length ≤ 1000000) : slD (.str (sg l)) lo hi = .ok (.str (sg (cut l lo hi))) := by
  show (if (sg l).length ≤ szL then R.ok (D.str ⟨(cut (sg l).cps.toList lo hi).toArray⟩) else _) = _
  rw [sg_len, if_pos (szL_of h), sg_cps]
  rfl
theorem in_chr (c : Nat) (l : List Nat) : cmpD .in_ (.str (sg [c])) (.str (sg l)) = .ok (decide (c ∈ l)) := by
  show R.ok (!(Builtin.Str.occurrences (sg l) ⟨#[c]⟩ 0 (sg l).length 1).isEmpty) = _
  rw [StrLaws.found_one, sg_cps]
theorem notin_chr (c : Nat) (l : List Nat) : cmpD .notin (.str (sg [c])) (.str (sg l)) = .ok (!decide (c ∈ l)) := by
  have e : cmpD .notin (.str (sg [c])) (.str (sg l)) = (inD (.str (sg [c])) (.str (sg l))).bind fun c => .ok (!c) := rfl
  rw [e, show inD (.str (sg [c])) (.str (sg l)) = .ok (decide (c ∈ l)) from in_chr c l]
  rfl
theorem add_tup {a b : List D} (h : a.length + b.length ≤ 1000000) : binD .add (.tup a) (.tup b) = .ok (.tup (a ++ b)) := by rw [add_tt, if_pos (szL_of h)]
theorem add_lst {a b : List D} (h : a.length + b.length ≤ 1000000) : binD .add (.lst a) (.lst b) = .ok (.lst (a ++ b)) := by rw [add_ll, if_pos (szL_of h)]
theorem slD_tup (l : List D) (lo hi : Option Int) : slD (.tup l) lo hi = .ok (.tup (cut l lo hi)) := rfl
theorem slD_lst (l : List D) (lo hi : Option Int) : slD (.lst l) lo hi = .ok (.lst (cut l lo hi)) := rfl
theorem cut_mem {α : Type} {l : List α} {lo hi : Option Int} {x : α} (h : x ∈ cut l lo hi) : x ∈ l := List.mem_of_mem_drop (List.mem_of_mem_take h)
theorem cut_len {α : Type} (l : List α) (lo hi : Option Int) : (cut l lo hi).length ≤ l.length := by
  unfold cut
  rw [List.length_take, List.length_drop]
  omega
/-- "".join -/
theorem strs_map (ls : List (List Nat)) : strsOf (ls.map fun l => D.str (sg l)) = some (ls.map sg) := by
  induction ls with
  | nil => rfl
  | cons a r ih =>
    rw [List.map_cons]
    show (strsOf (r.map fun l => D.str (sg l))).map (sg a :: ·) = _
    rw [ih]
    rfl
theorem join_nil_sg : ∀ ls : List (List Nat), Str.join ⟨#[]⟩ (ls.map sg) = sg ls.flatten
  | [] => rfl
  | [a] => by show sg a = _; simp
  | a :: b :: r => by
    show sg a ++ (⟨#[]⟩ : Str) ++ Str.join ⟨#[]⟩ ((b :: r).map sg) = _
    rw [join_nil_sg (b :: r), show (⟨#[]⟩ : Str) = sg [] from rfl, sg_app, sg_app]
    simp
theorem sum_sg (ls : List (List Nat)) : ((ls.map sg).map (fun s : Str => s.length)).sum = ls.flatten.length := by
  induction ls with
  | nil => rfl
  | cons a r ih => rw [List.map_cons, List.map_cons, List.sum_cons, ih, List.flatten_cons, List.length_append, sg_len]
theorem join_ok {d : D} (ls : List (List Nat)) (hd : seqOf d = some (ls.map fun l => D.str (sg l))) (h : ls.flatten.length ≤ 1000000) : bmD .join (.str (sg [])) [d] = .ok (.str (sg ls.flatten)) := by
  show (match seqOf d with
    | some l => (match strsOf l with
      | some ss => if decide ((ss.map fun s : Str => s.length).sum + ss.length * (sg []).length ≤ 16777216) = true then R.ok (D.str (Txt.join (sg []) ss)) else .no
      | none => .no)
    | none => .no) = _
  rw [hd]
  show (match strsOf (ls.map fun l => D.str (sg l)) with
      | some ss => if decide ((ss.map fun s : Str => s.length).sum + ss.length * (sg []).length ≤ 16777216) = true then R.ok (D.str (Txt.join (sg []) ss)) else .no
      | none => .no) = _
  rw [strs_map]
  show (if decide (((ls.map sg).map fun s : Str => s.length).sum + (ls.map sg).length * (sg []).length ≤ 16777216) = true then R.ok (D.str (Txt.join (sg []) (ls.map sg))) else .no) = _
  have e : Txt.join (sg []) (ls.map sg) = sg ls.flatten := by
    show Builtin.Str.glued (sg []) (ls.map sg) = _
    rw [StrLaws.glued_eq_join]
    exact join_nil_sg ls
  rw [sum_sg, e, sg_len, List.length_nil, Nat.mul_zero, Nat.add_zero, if_pos (decide_eq_true (by omega))]
/-- a text of at most m signs -/
def Sh (m : Nat) (d : D) : Prop := ∃ l, d = .str (sg l) ∧ l.length ≤ m
theorem Sh.mono {m k : Nat} {d : D} (h : Sh m d) (e : m ≤ k) : Sh k d := let ⟨l, a, b⟩ := h; ⟨l, a, Nat.le_trans b e⟩
theorem shs_ex {m : Nat} : ∀ {ds : List D}, (∀ d ∈ ds, Sh m d) → ∃ ls : List (List Nat), ds = ls.map (fun l => .str (sg l)) ∧ ∀ l ∈ ls, l.length ≤ m
  | [], _ => ⟨[], rfl, fun _ h => absurd h (by simp)⟩
  | d :: r, h => by
    obtain ⟨l, e, hl⟩ := h d List.mem_cons_self
    obtain ⟨ls, e2, h2⟩ := shs_ex (ds := r) fun x hx => h x (List.mem_cons_of_mem _ hx)
    exact ⟨l :: ls, by rw [e, e2]; rfl, fun x hx => (List.mem_cons.mp hx).elim (fun z => by rw [z]; exact hl) (h2 x)⟩
theorem flat_len {m : Nat} : ∀ {ls : List (List Nat)}, (∀ l ∈ ls, l.length ≤ m) → ls.flatten.length ≤ ls.length * m
  | [], _ => by simp
  | l :: r, h => by
    have h1 := h l List.mem_cons_self
    have h2 := flat_len (ls := r) fun x hx => h x (List.mem_cons_of_mem _ hx)
    rw [List.flatten_cons, List.length_append, List.length_cons, Nat.succ_mul]
    omega
/-- joined short texts -/
theorem join_sh {d : D} {ds : List D} {m : Nat} (hd : seqOf d = some ds) (h : ∀ x ∈ ds, Sh m x) (hn : ds.length * m ≤ 1000000) : ∃ l, bmD .join (.str (sg [])) [d] = .ok (.str (sg l)) ∧ l.length ≤ ds.length * m := by
  obtain ⟨ls, e, h2⟩ := shs_ex h
  have f := flat_len h2
  have el : ls.length = ds.length := by rw [e, List.length_map]
  rw [el] at f
  exact ⟨_, join_ok ls (by rw [hd, e]) (by omega), f⟩

/-! ### statements -/
theorem st {g : G} {C : Cal} {s : S} {ss : Ss} {env env' : Env} {r : R OD} (h1 : exS g C s env = .nx env') (h2 : endR (exs g C ss env') = r) : endR (exs g C (.cons s ss) env) = r := by rw [exs_seq, h1]; exact h2
theorem sx {g : G} {C : Cal} {s : S} {ss : Ss} {env env' : Env} {o : Out} (h1 : exS g C s env = .nx env') (h2 : exs g C ss env' = o) : exs g C (.cons s ss) env = o := by rw [exs_seq, h1]; exact h2
theorem for_nm {g : G} {C : Cal} {i : Nat} {it : It} {L : Ss} {env : Env} {o : OD} {l : List D} (hi : items g C it env = .ok (o, l)) : exS g C (.for_ (.nm i) it L) env = forL (fun x env' => exs g C L (env'.set i (some (.sh, x)))) l (aftI (rdi it) o env) := by
  rw [exS_for, hi]
  rfl
theorem forL_nx {f : D → Env → Out} {x : D} {l : List D} {env env' : Env} (h : f x env = .nx env') : forL f (x :: l) env = forL f l env' := by rw [forL, h]
theorem forL_ret {f : D → Env → Out} {x : D} {l : List D} {env : Env} {o : Own} {d : D} (h : f x env = .ret o d) : forL f (x :: l) env = .ret o d := by rw [forL, h]
/-- a loop that goes on to its end -/
theorem forL_keep {f : D → Env → Out} {mk : Slot → Env} : ∀ (l : List D) (s : Slot), (∀ x ∈ l, ∀ s, f x (mk s) = .nx (mk (some (.sh, x)))) → ∃ s', (s' = s ∨ ∃ x, s' = some (.sh, x)) ∧ forL f l (mk s) = .nx (mk s')
  | [], s, _ => ⟨s, .inl rfl, rfl⟩
  | x :: l, s, h => by
    obtain ⟨s', hs, e⟩ := forL_keep l (some (.sh, x)) fun y hy s => h y (List.mem_cons_of_mem _ hy) s
    exact ⟨s', .inr (hs.elim (fun z => ⟨x, z⟩) id), by rw [forL, h x List.mem_cons_self]; exact e⟩
/-- a loop that ends with the first one -/
theorem forL_find {f : D → Env → Out} {mk : Slot → Env} {p : D → Bool} {out : Slot → D → Out} : ∀ (l : List D) (s : Slot), (∀ x ∈ l, ∀ s, f x (mk s) = if p x = true then out s x else .nx (mk (some (.sh, x)))) → (∀ s x, (out s x).stop = true) →
    ∃ s', (s' = s ∨ ∃ x, s' = some (.sh, x)) ∧ ((∃ x, l.find? p = some x ∧ forL f l (mk s) = out s' x) ∨ (l.find? p = none ∧ forL f l (mk s) = .nx (mk s')))
  | [], s, _, _ => ⟨s, .inl rfl, .inr ⟨rfl, rfl⟩⟩
  | x :: l, s, h, ho => by
    have h1 := h x List.mem_cons_self s
    cases q : p x with
    | true =>
      rw [q, if_pos rfl] at h1
      refine ⟨s, .inl rfl, .inl ⟨x, List.find?_cons_of_pos q, ?_⟩⟩
      rw [forL, h1]
      have := ho s x
      cases z : out s x <;> rw [z] at this <;> first | rfl | cases this
    | false =>
      rw [q, if_neg Bool.false_ne_true] at h1
      obtain ⟨s', hs, e⟩ := forL_find l (some (.sh, x)) (fun y hy s => h y (List.mem_cons_of_mem _ hy) s) ho
      refine ⟨s', .inr (hs.elim (fun z => ⟨x, z⟩) id), ?_⟩
      rw [List.find?_cons_of_neg (by rw [q]; exact Bool.false_ne_true), forL, h1]
      exact e
theorem frzS_no {is : List (Nat × Bool)} {k : Nat} {s : Slot} (h1 : is.contains (k, true) = false) (h2 : is.contains (k, false) = false) : frzS is k s = s := by
  unfold frzS
  split
  · rw [h1]; rfl
  · rw [h1, h2]; rfl
  · rfl
theorem revT_tup (l : List D) : biD .revT [.tup l] = .ok (.tup l.reverse) := rfl
theorem listOwn_mix (x d : D) (r : List OD) : listOwn ((.o1, x) :: (.sh, d) :: r) = .o1 := by
  unfold listOwn
  simp
/-! ### comprehensions -/
theorem own_sh : ∀ (l : List OD), (∀ x ∈ l, x.1 = .sh) → listOwn l = .o1
  | [], _ => rfl
  | x :: l, h => by
    have := h x List.mem_cons_self
    unfold listOwn
    rw [List.all_cons, this]
    rfl
theorem mapC_ex {f : D → R (Option OD)} {P : D → D → Prop} : ∀ l : List D, (∀ x ∈ l, ∃ y, f x = .ok (some (.sh, y)) ∧ P x y) → ∃ ys : List OD, mapC f l = .ok ys ∧ ys.length = l.length ∧ (∀ y ∈ ys, y.1 = .sh ∧ ∃ x ∈ l, P x y.2)
  | [], _ => ⟨[], rfl, rfl, fun _ h => absurd h (by simp)⟩
  | x :: l, h => by
    obtain ⟨y, e, p⟩ := h x List.mem_cons_self
    obtain ⟨ys, e2, hl, hp⟩ := mapC_ex (P := P) l fun z hz => h z (List.mem_cons_of_mem _ hz)
    refine ⟨(.sh, y) :: ys, ?_, by rw [List.length_cons, List.length_cons, hl], fun z hz => ?_⟩
    · show (f x).bind (fun o => (mapC f l).bind fun ys => .ok (consO o ys)) = _
      rw [e, e2]
      rfl
    · rcases List.mem_cons.mp hz with rfl | hz
      · exact ⟨rfl, x, List.mem_cons_self, p⟩
      · obtain ⟨a, b, c, d⟩ := hp z hz
        exact ⟨a, b, List.mem_cons_of_mem _ c, d⟩
def lcFn (g : G) (C : Cal) (elt : E) (tg : Tg) (c : Eo) (env : Env) (x : D) : R (Option OD) := match bindT tg x env with
  | none => .no
  | some env' => (tsto g C c env').tame.bind fun k => if k = true then (ev g C elt env').tame.bind fun y => .ok (some y) else .ok none
theorem lcFn_at {g : G} {C : Cal} {elt : E} {tg : Tg} {c : Eo} {env env' : Env} {x : D} (h : bindT tg x env = some env') : lcFn g C elt tg c env x = (tsto g C c env').tame.bind fun k => if k = true then (ev g C elt env').tame.bind fun y => .ok (some y) else .ok none := by
  unfold lcFn
  rw [h]
theorem ev_lcFn {g : G} {C : Cal} {elt : E} {tg : Tg} {it : It} {c : Eo} {env : Env} {o : OD} {l : List D} (hi : items g C it env = .ok (o, l)) : ev g C (.lc elt tg it c) env = (mapC (lcFn g C elt tg c env) l).tame.bind fun ys => if l.length ≤ szL then .ok (listOwn ys, .lst (ys.map (·.2))) else .no := by
  rw [ev_lc, hi]
  rfl
/-- [elt for .. in e]: of each item y P holds -/
theorem lc_ex {g : G} {C : Cal} {elt : E} {tg : Tg} {it : It} {env : Env} {o : OD} {l : List D} {P : D → D → Prop} (hi : items g C it env = .ok (o, l)) (hn : l.length ≤ 1000000)
    (h : ∀ x ∈ l, ∃ env' y, bindT tg x env = some env' ∧ ev g C elt env' = .ok (.sh, y) ∧ P x y) : ∃ ys : List D, ev g C (.lc elt tg it .none) env = .ok (.o1, .lst ys) ∧ ys.length = l.length ∧ ∀ y ∈ ys, ∃ x ∈ l, P x y := by
  obtain ⟨ys, e, hl, hp⟩ := mapC_ex (f := lcFn g C elt tg .none env) (P := P) l fun x hx => by
    obtain ⟨env', y, h1, h2, h3⟩ := h x hx
    refine ⟨y, ?_, h3⟩
    rw [lcFn_at h1, tsto_none, h2]
    rfl
  refine ⟨ys.map (·.2), ?_, by rw [List.length_map, hl], fun y hy => ?_⟩
  · rw [ev_lcFn hi, e]
    show (if l.length ≤ szL then R.ok (listOwn ys, D.lst _) else R.no) = _
    rw [if_pos (szL_of hn), own_sh ys fun x hx => (hp x hx).1]
  · obtain ⟨z, hz, rfl⟩ := List.mem_map.mp hy
    exact (hp z hz).2
theorem mapC_ix {f : D → R (Option OD)} {P : D → D → Prop} : ∀ l : List D, (∀ x ∈ l, ∃ y, f x = .ok (some (.sh, y)) ∧ P x y) → ∃ ys : List D, mapC f l = .ok (ys.map fun y => (Own.sh, y)) ∧ ∃ e : ys.length = l.length, ∀ i (h : i < ys.length), P (l[i]'(e ▸ h)) ys[i]
  | [], _ => ⟨[], rfl, rfl, fun _ h => absurd h (by simp)⟩
  | x :: l, h => by
    obtain ⟨y, e, p⟩ := h x List.mem_cons_self
    obtain ⟨ys, e2, hl, hp⟩ := mapC_ix (P := P) l fun z hz => h z (List.mem_cons_of_mem _ hz)
    refine ⟨y :: ys, ?_, by rw [List.length_cons, List.length_cons, hl], fun i hi => ?_⟩
    · show (f x).bind (fun o => (mapC f l).bind fun ys => .ok (consO o ys)) = _
      rw [e, e2]
      rfl
    · cases i with
      | zero => exact p
      | succ i => exact hp i (by rw [List.length_cons] at hi; omega)
theorem upto_mem {n : Nat} {x : D} (h : x ∈ upto 0 n) : ∃ k : Nat, x = .int k ∧ k < n := by
  rw [upto_zero] at h
  obtain ⟨k, hk, rfl⟩ := List.mem_map.mp h
  rw [List.mem_range'_1] at hk
  exact ⟨k, rfl, by omega⟩
theorem upto_len (n : Nat) : (upto 0 n).length = n := by unfold upto; rw [List.length_map, List.length_range]
/-- [elt for .. in ..], each item known -/
theorem lc_all {α : Type} {g : G} {C : Cal} {elt : E} {tg : Tg} {it : It} {env : Env} {o : OD} (l : List α) (d y : α → D) (hi : items g C it env = .ok (o, l.map d)) (hn : l.length ≤ 1000000)
    (h : ∀ x ∈ l, ∃ env', bindT tg (d x) env = some env' ∧ ev g C elt env' = .ok (.sh, y x)) : ev g C (.lc elt tg it .none) env = .ok (.o1, .lst (l.map y)) := by
  have key : ∀ m : List α, (∀ x ∈ m, ∃ env', bindT tg (d x) env = some env' ∧ ev g C elt env' = .ok (.sh, y x)) → mapC (lcFn g C elt tg .none env) (m.map d) = .ok (m.map fun x => (Own.sh, y x)) := fun m => by
    induction m with
    | nil => intro _; rfl
    | cons x m ih =>
      intro h
      obtain ⟨env', h1, h2⟩ := h x List.mem_cons_self
      rw [List.map_cons]
      show (lcFn g C elt tg .none env (d x)).bind (fun o => (mapC _ (m.map d)).bind fun ys => .ok (consO o ys)) = _
      rw [ih fun z hz => h z (List.mem_cons_of_mem _ hz), lcFn_at h1, tsto_none, h2]
      rfl
  rw [ev_lcFn hi, key l h]
  show (if (l.map d).length ≤ szL then R.ok (listOwn (l.map fun x => (Own.sh, y x)), D.lst ((l.map fun x => (Own.sh, y x)).map (·.2))) else R.no) = _
  rw [if_pos (by rw [List.length_map]; exact szL_of hn), own_sh _ (fun x hx => by obtain ⟨y, _, rfl⟩ := List.mem_map.mp hx; rfl), List.map_map]
  rfl
/-- [elt for k in .. if c], each item known -/
theorem lc_filter {α : Type} {g : G} {C : Cal} {elt c : E} {tg : Tg} {it : It} {env : Env} {o : OD} (l : List α) (d y : α → D) (p : α → Bool) (hi : items g C it env = .ok (o, l.map d)) (hn : l.length ≤ 1000000)
    (h : ∀ x ∈ l, ∃ env', bindT tg (d x) env = some env' ∧ tst g C c env' = .ok (p x) ∧ (p x = true → ev g C elt env' = .ok (.sh, y x))) : ev g C (.lc elt tg it (.some c)) env = .ok (.o1, .lst ((l.filter p).map y)) := by
  have key : ∀ m : List α, (∀ x ∈ m, ∃ env', bindT tg (d x) env = some env' ∧ tst g C c env' = .ok (p x) ∧ (p x = true → ev g C elt env' = .ok (.sh, y x))) → mapC (lcFn g C elt tg (.some c) env) (m.map d) = .ok ((m.filter p).map fun x => (Own.sh, y x)) := fun m => by
    induction m with
    | nil => intro _; rfl
    | cons x m ih =>
      intro h
      obtain ⟨env', h1, h2, h3⟩ := h x List.mem_cons_self
      rw [List.map_cons]
      show (lcFn g C elt tg (.some c) env (d x)).bind (fun o => (mapC _ (m.map d)).bind fun ys => .ok (consO o ys)) = _
      rw [ih fun z hz => h z (List.mem_cons_of_mem _ hz), lcFn_at h1, tsto_some, h2]
      cases e : p x with
      | true => rw [List.filter_cons_of_pos e, show ev g C elt env' = .ok (.sh, y x) from h3 e]; rfl
      | false => rw [List.filter_cons_of_neg (by rw [e]; exact Bool.false_ne_true)]; rfl
  rw [ev_lcFn hi, key l h]
  show (if (l.map d).length ≤ szL then R.ok (listOwn ((l.filter p).map fun x => (Own.sh, y x)), D.lst (((l.filter p).map fun x => (Own.sh, y x)).map (·.2))) else R.no) = _
  rw [if_pos (by rw [List.length_map]; exact szL_of hn), own_sh _ (fun x hx => by obtain ⟨y, _, rfl⟩ := List.mem_map.mp hx; rfl), List.map_map]
  rfl
/-- [[] for i in range(n)] -/
theorem lc_lists {g : G} {C : Cal} {a : E} {i n : Nat} {env : Env} {o : Own} (hi : ev g C a env = .ok (o, .int n)) (h0 : 1 ≤ n) (hn : n ≤ 1000000) : ev g C (.lc (.lst .nil) (.nm i) (.rng1 a) .none) env = .ok (.o2, .lst (List.replicate n (.lst []))) := by
  have hit : items g C (.rng1 a) env = .ok ((.sh, .non), upto 0 n) := by
    rw [items_rng1, hi]
    show (rngD 0 (n : Int)).bind _ = _
    rw [rng_nat hn]
    rfl
  have key : ∀ m : List D, mapC (lcFn g C (.lst .nil) (.nm i) .none env) m = .ok (List.replicate m.length (Own.o1, D.lst [])) := fun m => by
    induction m with
    | nil => rfl
    | cons x m ih =>
      show (lcFn g C (.lst .nil) (.nm i) .none env x).bind (fun o => (mapC _ m).bind fun ys => .ok (consO o ys)) = _
      rw [ih, lcFn_at (env' := env.set i (some (.sh, x))) rfl]
      simp [consO, List.replicate_succ]
  have ow : listOwn (List.replicate n (Own.o1, D.lst [])) = .o2 := by
    unfold listOwn
    rw [if_pos]
    rw [Bool.and_eq_true]
    refine ⟨?_, List.all_eq_true.mpr fun x hx => ?_⟩
    · cases n with
      | zero => omega
      | succ n => rfl
    · rw [List.eq_of_mem_replicate hx]; rfl
  rw [ev_lcFn hit, key, upto_len]
  show (if n ≤ szL then R.ok (listOwn _, D.lst _) else R.no) = _
  rw [if_pos (szL_of hn), ow, List.map_replicate]
/-- [elt for i in range(a)] -/
theorem lc_rex {g : G} {C : Cal} {elt a : E} {i n : Nat} {env : Env} {o : Own} {P : Nat → D → Prop} (hi : ev g C a env = .ok (o, .int n)) (hn : n ≤ 1000000) (h : ∀ k < n, ∃ y, ev g C elt (env.set i (some (.sh, .int k))) = .ok (.sh, y) ∧ P k y) :
    ∃ ys : List D, ev g C (.lc elt (.nm i) (.rng1 a) .none) env = .ok (.o1, .lst ys) ∧ ys.length = n ∧ ∀ y ∈ ys, ∃ k < n, P k y := by
  have hit : items g C (.rng1 a) env = .ok ((.sh, .non), upto 0 n) := by
    rw [items_rng1, hi]
    show (rngD 0 (n : Int)).bind _ = _
    rw [rng_nat hn]
    rfl
  obtain ⟨ys, e, hl, hp⟩ := lc_ex (P := fun x y => ∃ k : Nat, x = .int k ∧ k < n ∧ P k y) (elt := elt) (tg := .nm i) hit (by rw [upto_len]; exact hn) fun x hx => by
    obtain ⟨k, rfl, hk⟩ := upto_mem hx
    obtain ⟨y, h1, h2⟩ := h k hk
    exact ⟨_, y, rfl, h1, k, rfl, hk, h2⟩
  rw [upto_len] at hl
  exact ⟨ys, e, hl, fun y hy => let ⟨x, _, k, _, h2, h3⟩ := hp y hy; ⟨k, h2, h3⟩⟩
/-- [elt for i in range(a)], item by item -/
theorem lc_rix {g : G} {C : Cal} {elt a : E} {i n : Nat} {env : Env} {o : Own} {P : Nat → D → Prop} (hi : ev g C a env = .ok (o, .int n)) (hn : n ≤ 1000000) (h : ∀ k < n, ∃ y, ev g C elt (env.set i (some (.sh, .int k))) = .ok (.sh, y) ∧ P k y) :
    ∃ ys : List D, ev g C (.lc elt (.nm i) (.rng1 a) .none) env = .ok (.o1, .lst ys) ∧ ys.length = n ∧ ∀ k (h : k < ys.length), P k ys[k] := by
  have hit : items g C (.rng1 a) env = .ok ((.sh, .non), upto 0 n) := by
    rw [items_rng1, hi]
    show (rngD 0 (n : Int)).bind _ = _
    rw [rng_nat hn]
    rfl
  obtain ⟨ys, e, hl, hp⟩ := mapC_ix (f := lcFn g C elt (.nm i) .none env) (P := fun x y => ∀ k : Nat, x = .int k → P k y) (upto 0 n) fun x hx => by
    obtain ⟨k, rfl, hk⟩ := upto_mem hx
    obtain ⟨y, h1, h2⟩ := h k hk
    refine ⟨y, ?_, fun j hj => ?_⟩
    · rw [lcFn_at (env' := env.set i (some (.sh, .int k))) rfl, tsto_none, h1]
      rfl
    · injection hj with hj
      obtain rfl : k = j := by omega
      exact h2
  rw [upto_len] at hl
  refine ⟨ys, ?_, hl, fun k hk => hp k hk k ?_⟩
  · rw [ev_lcFn hit, e]
    show (if (upto 0 n).length ≤ szL then R.ok (listOwn (ys.map fun y => (Own.sh, y)), D.lst ((ys.map fun y => (Own.sh, y)).map (·.2))) else R.no) = _
    rw [if_pos (by rw [upto_len]; exact szL_of hn), own_sh _ (fun x hx => by obtain ⟨y, _, rfl⟩ := List.mem_map.mp hx; rfl), List.map_map]
    exact congrArg (fun z => R.ok (Own.o1, D.lst z)) (List.map_id ys)
  · unfold upto
    simp
/-- a text of at most m signs, all of them G -/
def ShP (m : Nat) (G : Nat → Bool) (d : D) : Prop := ∃ l, d = .str (sg l) ∧ l.length ≤ m ∧ l.all G = true
theorem shps_ex {m : Nat} {G : Nat → Bool} : ∀ {ds : List D}, (∀ d ∈ ds, ShP m G d) → ∃ ls : List (List Nat), ds = ls.map (fun l => .str (sg l)) ∧ (∀ l ∈ ls, l.length ≤ m) ∧ ls.flatten.all G = true
  | [], _ => ⟨[], rfl, fun _ h => absurd h (by simp), rfl⟩
  | d :: r, h => by
    obtain ⟨l, e, hl, hg⟩ := h d List.mem_cons_self
    obtain ⟨ls, e2, h2, h3⟩ := shps_ex (ds := r) fun x hx => h x (List.mem_cons_of_mem _ hx)
    exact ⟨l :: ls, by rw [e, e2]; rfl, fun x hx => (List.mem_cons.mp hx).elim (fun z => by rw [z]; exact hl) (h2 x), by rw [List.flatten_cons, List.all_append, hg, h3]; rfl⟩
theorem join_shP {d : D} {ds : List D} {m : Nat} {G : Nat → Bool} (hd : seqOf d = some ds) (h : ∀ x ∈ ds, ShP m G x) (hn : ds.length * m ≤ 1000000) : ∃ l, bmD .join (.str (sg [])) [d] = .ok (.str (sg l)) ∧ l.length ≤ ds.length * m ∧ l.all G = true := by
  obtain ⟨ls, e, h2, h3⟩ := shps_ex h
  have f := flat_len h2
  have el : ls.length = ds.length := by rw [e, List.length_map]
  rw [el] at f
  exact ⟨_, join_ok ls (by rw [hd, e]) (by omega), f, h3⟩
/-- a loop that goes on to its end, and what it keeps -/
theorem forL_inv {f : D → Env → Out} {I : Env → Prop} : ∀ (l : List D) (env : Env), I env → (∀ x ∈ l, ∀ env, I env → ∃ env', f x env = .nx env' ∧ I env') → ∃ env', forL f l env = .nx env' ∧ I env'
  | [], env, i, _ => ⟨env, rfl, i⟩
  | x :: l, env, i, h => by
    obtain ⟨e1, h1, i1⟩ := h x List.mem_cons_self env i
    obtain ⟨e2, h2, i2⟩ := forL_inv l e1 i1 fun y hy => h y (List.mem_cons_of_mem _ hy)
    exact ⟨e2, by rw [forL, h1]; exact h2, i2⟩
theorem atI_0 {α : Type} (c : α) (r : List α) : L2.atI (c :: r) 0 = some c := atI_nat (l := c :: r) (k := 0) (by simp)
theorem atI_P {l : List D} {i : Int} {P : D → Prop} (all : ∀ x ∈ l, P x) (h0 : 0 ≤ i) (h : i < l.length) : ∃ x, L2.atI l i = some x ∧ P x := by
  obtain ⟨x, hx, e⟩ := atI_mem h0 h
  exact ⟨x, e, all x hx⟩
theorem atI_lits (l : List Int) (i : Int) (h0 : 0 ≤ i) (h1 : i < l.length) (P : Int → Prop) (all : ∀ x ∈ l, P x) : ∃ v, L2.atI (l.map D.int) i = some (.int v) ∧ P v := by
  obtain ⟨x, hx, e⟩ := atI_P (l := l.map D.int) (P := fun d => ∃ v, d = .int v ∧ P v) (fun x hx => by
    obtain ⟨v, hv, rfl⟩ := List.mem_map.mp hx
    exact ⟨v, rfl, all v hv⟩) h0 (by rw [List.length_map]; exact h1)
  obtain ⟨v, rfl, p⟩ := e
  exact ⟨v, hx, p⟩
theorem modP (a : Int) {b : Int} (h : 0 < b) : 0 ≤ a % b ∧ a % b < b := ⟨Int.emod_nonneg _ (by omega), Int.emod_lt_of_pos _ h⟩
/-! ### plain data -/
/-- scalars, tuples and lists of such, j deep -/
def pl : Nat → D → Bool
  | _, .non => true
  | _, .bl _ => true
  | _, .int _ => true
  | _, .str _ => true
  | j + 1, .tup l => decide (l.length ≤ 1000000) && l.all (pl j)
  | j + 1, .lst l => decide (l.length ≤ 1000000) && l.all (pl j)
  | _, _ => false
theorem pl_py : ∀ (j : Nat) (d : D), pl j d = true → (py d).plain = true ∧ (py d).depth ≤ j := by
  have all : ∀ (j : Nat), (∀ d, pl j d = true → (py d).plain = true ∧ (py d).depth ≤ j) → ∀ l : List D, l.all (pl j) = true → PyData.plainAll (pys l) = true ∧ PyData.depthAll (pys l) ≤ j := fun j h l => by
    induction l with
    | nil => intro _; exact ⟨rfl, Nat.zero_le _⟩
    | cons a r ih =>
      intro z
      rw [List.all_cons, Bool.and_eq_true] at z
      obtain ⟨h1, h2⟩ := h a z.1
      obtain ⟨h3, h4⟩ := ih z.2
      rw [pys_cons]
      refine ⟨?_, ?_⟩
      · rw [PyData.plainAll, h1, h3]; rfl
      · rw [PyData.depthAll]; omega
  intro j
  induction j with
  | zero =>
    intro d h
    cases d <;> first | (simp [pl] at h; done) | simp [PyData.plain, PyData.depth]
  | succ j ih =>
    intro d h
    cases d with
    | tup l =>
      obtain ⟨h1, h2⟩ := all j ih l (by have h : (decide (l.length ≤ 1000000) && l.all (pl j)) = true := h; rw [Bool.and_eq_true] at h; exact h.2)
      rw [show py (.tup l) = .tuple (pys l) from py_tup l]
      exact ⟨by rw [PyData.plain]; exact h1, by rw [PyData.depth]; omega⟩
    | lst l =>
      obtain ⟨h1, h2⟩ := all j ih l (by have h : (decide (l.length ≤ 1000000) && l.all (pl j)) = true := h; rw [Bool.and_eq_true] at h; exact h.2)
      have e : py (.lst l) = .list (pys l) := by rw [py] <;> rfl
      rw [e]
      exact ⟨by rw [PyData.plain]; exact h1, by rw [PyData.depth]; omega⟩
    | _ => first | (simp [pl] at h; done) | simp [PyData.plain, PyData.depth]
theorem plainB_pl {j : Nat} {d : D} (h : pl j d = true) (hj : j ≤ 64 := by decide) : plainB d = true := by
  obtain ⟨h1, h2⟩ := pl_py j d h
  unfold plainB depth64
  rw [h1, decide_eq_true (by omega)]
  rfl
theorem pl_tup {j : Nat} {l : List D} (hl : l.length ≤ 1000000) (h : ∀ d ∈ l, pl j d = true) : pl (j + 1) (.tup l) = true := by
  show (decide (l.length ≤ 1000000) && l.all (pl j)) = true
  rw [Bool.and_eq_true]
  exact ⟨decide_eq_true hl, List.all_eq_true.mpr h⟩
theorem tup_pl {j : Nat} {l : List D} (h : pl (j + 1) (.tup l) = true) : l.length ≤ 1000000 ∧ ∀ d ∈ l, pl j d = true := by
  have h : (decide (l.length ≤ 1000000) && l.all (pl j)) = true := h
  rw [Bool.and_eq_true] at h
  exact ⟨of_decide_eq_true h.1, List.all_eq_true.mp h.2⟩
theorem pl_lst {j : Nat} {l : List D} (hl : l.length ≤ 1000000) (h : ∀ d ∈ l, pl j d = true) : pl (j + 1) (.lst l) = true := by
  show (decide (l.length ≤ 1000000) && l.all (pl j)) = true
  rw [Bool.and_eq_true]
  exact ⟨decide_eq_true hl, List.all_eq_true.mpr h⟩
theorem lst_pl {j : Nat} {l : List D} (h : pl (j + 1) (.lst l) = true) : l.length ≤ 1000000 ∧ ∀ d ∈ l, pl j d = true := by
  have h : (decide (l.length ≤ 1000000) && l.all (pl j)) = true := h
  rw [Bool.and_eq_true] at h
  exact ⟨of_decide_eq_true h.1, List.all_eq_true.mp h.2⟩
theorem pl_up : ∀ (j : Nat) {d : D}, pl j d = true → pl (j + 1) d = true
  | 0, d, h => by cases d <;> first | rfl | (simp [pl] at h; done)
  | j + 1, d, h => by
    cases d with
    | tup l => exact pl_tup (tup_pl h).1 fun d hd => pl_up j ((tup_pl h).2 d hd)
    | lst l => exact pl_lst (lst_pl h).1 fun d hd => pl_up j ((lst_pl h).2 d hd)
    | _ => first | rfl | (simp [pl] at h; done)
/-- whole numbers from 0 to b -/
def IL (m : Nat) (b : Int) (l : List D) : Prop := m ≤ l.length ∧ ∀ d ∈ l, ∃ v : Int, d = .int v ∧ 0 ≤ v ∧ v < b
theorem IL.at {m : Nat} {b : Int} {l : List D} (h : IL m b l) (i : Nat) (hi : i < m) : ∃ v : Int, L2.atI l (i : Int) = some (.int v) ∧ 0 ≤ v ∧ v < b := by
  have hl := Nat.lt_of_lt_of_le hi h.1
  obtain ⟨v, e, r⟩ := h.2 l[i] (List.getElem_mem hl)
  exact ⟨v, by rw [atI_nat hl, e], r⟩
theorem IL.at2 {m : Nat} {b : Int} {l : List D} (h : IL m b l) (j k : Nat) (hk : j + k < m) : ∃ v : Int, L2.atI l ((j : Int) + (k : Int)) = some (.int v) ∧ 0 ≤ v ∧ v < b := by
  obtain ⟨v, e, r⟩ := h.at (j + k) hk
  exact ⟨v, by rw [← e]; congr 1, r⟩
theorem IL.drop {m : Nat} {b : Int} {l : List D} (h : IL m b l) (k : Nat) : IL (m - k) b (l.drop k) := ⟨by rw [List.length_drop]; have := h.1; omega, fun d hd => h.2 d (List.mem_of_mem_drop hd)⟩
theorem pl_str (j : Nat) (s : Str) : pl j (.str s) = true := by cases j <;> rfl
theorem pl_int (j : Nat) (s : Int) : pl j (.int s) = true := by cases j <;> rfl
theorem pl_bl (j : Nat) (s : Bool) : pl j (.bl s) = true := by cases j <;> rfl
theorem pl_non (j : Nat) : pl j .non = true := by cases j <;> rfl
theorem in_tup {a : D} {l : List D} (h1 : plainB a = true) (h2 : plainB (.tup l) = true) : cmpD .in_ a (.tup l) = .ok (l.any fun z => PyData.eqv (py z) (py a)) := by
  show (if plainB a && plainB (.tup l) then R.ok (l.any fun z => PyData.eqv (py z) (py a)) else .no) = _
  rw [h1, h2]
  rfl
theorem in_lst {a : D} {l : List D} (h1 : plainB a = true) (h2 : plainB (.lst l) = true) : cmpD .in_ a (.lst l) = .ok (l.any fun z => PyData.eqv (py z) (py a)) := by
  show (if plainB a && plainB (.lst l) then R.ok (l.any fun z => PyData.eqv (py z) (py a)) else .no) = _
  rw [h1, h2]
  rfl
theorem cut_to {α : Type} (l : List α) (k : Nat) : cut l none (some (k : Int)) = l.take k := by
  unfold cut
  rw [HT.sIx_nat, HT.sIx_none, List.drop_zero, Nat.sub_zero, ← List.take_eq_take_min]
theorem cut_from {α : Type} (l : List α) (k : Nat) : cut l (some (k : Int)) none = l.drop k := by
  unfold cut
  rw [HT.sIx_nat, HT.sIx_none]
  rcases Nat.le_total k l.length with h | h
  · rw [Nat.min_eq_left h, List.take_of_length_le (by rw [List.length_drop]; omega)]
  · rw [Nat.min_eq_right h, List.drop_length, List.drop_eq_nil_of_le h, List.take_nil]
end S2

set_option maxHeartbeats 0
namespace Lw
open PySem S2
def N_2 : Str := ⟨#[50]⟩
def N_5 : Str := ⟨#[53]⟩
def N_9 : Str := ⟨#[57]⟩
def N_AlarmError : Str := ⟨#[65, 108, 97, 114, 109, 69, 114, 114, 111, 114]⟩
def N_InvalidField : Str := ⟨#[73, 110, 118, 97, 108, 105, 100, 70, 105, 101, 108, 100]⟩
def N_InvalidPair : Str := ⟨#[73, 110, 118, 97, 108, 105, 100, 80, 97, 105, 114]⟩
def N_InvalidSetting : Str := ⟨#[73, 110, 118, 97, 108, 105, 100, 83, 101, 116, 116, 105, 110, 103]⟩
def N_MOST_COUNT : Str := ⟨#[77, 79, 83, 84, 95, 67, 79, 85, 78, 84]⟩
def N_MOST_DELAY : Str := ⟨#[77, 79, 83, 84, 95, 68, 69, 76, 65, 89]⟩
def N_MOST_LIMIT : Str := ⟨#[77, 79, 83, 84, 95, 76, 73, 77, 73, 84]⟩
def N_MOST_PAIRS : Str := ⟨#[77, 79, 83, 84, 95, 80, 65, 73, 82, 83]⟩
def N_MOST_VALUE : Str := ⟨#[77, 79, 83, 84, 95, 86, 65, 76, 85, 69]⟩
def N_MOST_WIDTH : Str := ⟨#[77, 79, 83, 84, 95, 87, 73, 68, 84, 72]⟩
def N_OutOfRange : Str := ⟨#[79, 117, 116, 79, 102, 82, 97, 110, 103, 101]⟩
def N_TooMany : Str := ⟨#[84, 111, 111, 77, 97, 110, 121]⟩
def N_ValueError : Str := ⟨#[86, 97, 108, 117, 101, 69, 114, 114, 111, 114]⟩
def N__law_ask : Str := ⟨#[95, 108, 97, 119, 95, 97, 115, 107]⟩
def N__law_case : Str := ⟨#[95, 108, 97, 119, 95, 99, 97, 115, 101]⟩
def N__law_cell : Str := ⟨#[95, 108, 97, 119, 95, 99, 101, 108, 108]⟩
def N__law_delays_due : Str := ⟨#[95, 108, 97, 119, 95, 100, 101, 108, 97, 121, 115, 95, 100, 117, 101]⟩
def N__law_delays_refused : Str := ⟨#[95, 108, 97, 119, 95, 100, 101, 108, 97, 121, 115, 95, 114, 101, 102, 117, 115, 101, 100]⟩
def N__law_gap : Str := ⟨#[95, 108, 97, 119, 95, 103, 97, 112]⟩
def N__law_is_integer : Str := ⟨#[95, 108, 97, 119, 95, 105, 115, 95, 105, 110, 116, 101, 103, 101, 114]⟩
def N__law_kind : Str := ⟨#[95, 108, 97, 119, 95, 107, 105, 110, 100]⟩
def N__law_off_due : Str := ⟨#[95, 108, 97, 119, 95, 111, 102, 102, 95, 100, 117, 101]⟩
def N__law_off_holds : Str := ⟨#[95, 108, 97, 119, 95, 111, 102, 102, 95, 104, 111, 108, 100, 115]⟩
def N__law_off_refused : Str := ⟨#[95, 108, 97, 119, 95, 111, 102, 102, 95, 114, 101, 102, 117, 115, 101, 100]⟩
def N__law_options : Str := ⟨#[95, 108, 97, 119, 95, 111, 112, 116, 105, 111, 110, 115]⟩
def N__law_pick : Str := ⟨#[95, 108, 97, 119, 95, 112, 105, 99, 107]⟩
def N__law_row : Str := ⟨#[95, 108, 97, 119, 95, 114, 111, 119]⟩
def N__law_same : Str := ⟨#[95, 108, 97, 119, 95, 115, 97, 109, 101]⟩
def N__law_spoilt_pair : Str := ⟨#[95, 108, 97, 119, 95, 115, 112, 111, 105, 108, 116, 95, 112, 97, 105, 114]⟩
def N__law_tuned : Str := ⟨#[95, 108, 97, 119, 95, 116, 117, 110, 101, 100]⟩
def N__law_window : Str := ⟨#[95, 108, 97, 119, 95, 119, 105, 110, 100, 111, 119]⟩
def N__law_with_off : Str := ⟨#[95, 108, 97, 119, 95, 119, 105, 116, 104, 95, 111, 102, 102]⟩
def N__law_wrong_field : Str := ⟨#[95, 108, 97, 119, 95, 119, 114, 111, 110, 103, 95, 102, 105, 101, 108, 100]⟩
def N__law_wrong_pairs : Str := ⟨#[95, 108, 97, 119, 95, 119, 114, 111, 110, 103, 95, 112, 97, 105, 114, 115]⟩
def N__law_wrong_setting : Str := ⟨#[95, 108, 97, 119, 95, 119, 114, 111, 110, 103, 95, 115, 101, 116, 116, 105, 110, 103]⟩
def N_actual : Str := ⟨#[97, 99, 116, 117, 97, 108]⟩
def N_answer : Str := ⟨#[97, 110, 115, 119, 101, 114]⟩
def N_any_limit : Str := ⟨#[97, 110, 121, 95, 108, 105, 109, 105, 116]⟩
def N_at : Str := ⟨#[97, 116]⟩
def N_band : Str := ⟨#[98, 97, 110, 100]⟩
def N_base : Str := ⟨#[98, 97, 115, 101]⟩
def N_begin : Str := ⟨#[98, 101, 103, 105, 110]⟩
def N_best : Str := ⟨#[98, 101, 115, 116]⟩
def N_best_choice : Str := ⟨#[98, 101, 115, 116, 95, 99, 104, 111, 105, 99, 101]⟩
def N_bool : Str := ⟨#[98, 111, 111, 108]⟩
def N_bound : Str := ⟨#[98, 111, 117, 110, 100]⟩
def N_cell : Str := ⟨#[99, 101, 108, 108]⟩
def N_check_field : Str := ⟨#[99, 104, 101, 99, 107, 95, 102, 105, 101, 108, 100]⟩
def N_check_number : Str := ⟨#[99, 104, 101, 99, 107, 95, 110, 117, 109, 98, 101, 114]⟩
def N_check_pairs : Str := ⟨#[99, 104, 101, 99, 107, 95, 112, 97, 105, 114, 115]⟩
def N_check_setting : Str := ⟨#[99, 104, 101, 99, 107, 95, 115, 101, 116, 116, 105, 110, 103]⟩
def N_choice : Str := ⟨#[99, 104, 111, 105, 99, 101]⟩
def N_choices : Str := ⟨#[99, 104, 111, 105, 99, 101, 115]⟩
def N_choices_of : Str := ⟨#[99, 104, 111, 105, 99, 101, 115, 95, 111, 102]⟩
def N_count : Str := ⟨#[99, 111, 117, 110, 116]⟩
def N_crowded_signal : Str := ⟨#[99, 114, 111, 119, 100, 101, 100, 95, 115, 105, 103, 110, 97, 108]⟩
def N_door : Str := ⟨#[100, 111, 111, 114]⟩
def N_due : Str := ⟨#[100, 117, 101]⟩
def N_e : Str := ⟨#[101]⟩
def N_extra : Str := ⟨#[101, 120, 116, 114, 97]⟩
def N_fall : Str := ⟨#[102, 97, 108, 108]⟩
def N_fall_ticks : Str := ⟨#[102, 97, 108, 108, 95, 116, 105, 99, 107, 115]⟩
def N_field : Str := ⟨#[102, 105, 101, 108, 100]⟩
def N_first : Str := ⟨#[102, 105, 114, 115, 116]⟩
def N_fixed : Str := ⟨#[102, 105, 120, 101, 100]⟩
def N_found : Str := ⟨#[102, 111, 117, 110, 100]⟩
def N_gap : Str := ⟨#[103, 97, 112]⟩
def N_gap_of : Str := ⟨#[103, 97, 112, 95, 111, 102]⟩
def N_great : Str := ⟨#[103, 114, 101, 97, 116]⟩
def N_high : Str := ⟨#[104, 105, 103, 104]⟩
def N_int : Str := ⟨#[105, 110, 116]⟩
def N_is_field : Str := ⟨#[105, 115, 95, 102, 105, 101, 108, 100]⟩
def N_is_integer : Str := ⟨#[105, 115, 95, 105, 110, 116, 101, 103, 101, 114]⟩
def N_is_number : Str := ⟨#[105, 115, 95, 110, 117, 109, 98, 101, 114]⟩
def N_is_setting : Str := ⟨#[105, 115, 95, 115, 101, 116, 116, 105, 110, 103]⟩
def N_isinstance : Str := ⟨#[105, 115, 105, 110, 115, 116, 97, 110, 99, 101]⟩
def N_k : Str := ⟨#[107]⟩
def N_kind : Str := ⟨#[107, 105, 110, 100]⟩
def N_kind_of : Str := ⟨#[107, 105, 110, 100, 95, 111, 102]⟩
def N_last : Str := ⟨#[108, 97, 115, 116]⟩
def N_later : Str := ⟨#[108, 97, 116, 101, 114]⟩
def N_law : Str := ⟨#[108, 97, 119]⟩
def N_least : Str := ⟨#[108, 101, 97, 115, 116]⟩
def N_least_delays : Str := ⟨#[108, 101, 97, 115, 116, 95, 100, 101, 108, 97, 121, 115]⟩
def N_least_off : Str := ⟨#[108, 101, 97, 115, 116, 95, 111, 102, 102]⟩
def N_len : Str := ⟨#[108, 101, 110]⟩
def N_length : Str := ⟨#[108, 101, 110, 103, 116, 104]⟩
def N_limit : Str := ⟨#[108, 105, 109, 105, 116]⟩
def N_list : Str := ⟨#[108, 105, 115, 116]⟩
def N_lively : Str := ⟨#[108, 105, 118, 101, 108, 121]⟩
def N_loud : Str := ⟨#[108, 111, 117, 100]⟩
def N_low : Str := ⟨#[108, 111, 119]⟩
def N_lowest : Str := ⟨#[108, 111, 119, 101, 115, 116]⟩
def N_many : Str := ⟨#[109, 97, 110, 121]⟩
def N_max : Str := ⟨#[109, 97, 120]⟩
def N_min : Str := ⟨#[109, 105, 110]⟩
def N_more : Str := ⟨#[109, 111, 114, 101]⟩
def N_most : Str := ⟨#[109, 111, 115, 116]⟩
def N_most_from : Str := ⟨#[109, 111, 115, 116, 95, 102, 114, 111, 109]⟩
def N_most_total : Str := ⟨#[109, 111, 115, 116, 95, 116, 111, 116, 97, 108]⟩
def N_mosts : Str := ⟨#[109, 111, 115, 116, 115]⟩
def N_names : Str := ⟨#[110, 97, 109, 101, 115]⟩
def N_needed : Str := ⟨#[110, 101, 101, 100, 101, 100]⟩
def N_number : Str := ⟨#[110, 117, 109, 98, 101, 114]⟩
def N_numbers : Str := ⟨#[110, 117, 109, 98, 101, 114, 115]⟩
def N_odd : Str := ⟨#[111, 100, 100]⟩
def N_off : Str := ⟨#[111, 102, 102]⟩
def N_off_for : Str := ⟨#[111, 102, 102, 95, 102, 111, 114]⟩
def N_offs : Str := ⟨#[111, 102, 102, 115]⟩
def N_on : Str := ⟨#[111, 110]⟩
def N_option : Str := ⟨#[111, 112, 116, 105, 111, 110]⟩
def N_options : Str := ⟨#[111, 112, 116, 105, 111, 110, 115]⟩
def N_pair : Str := ⟨#[112, 97, 105, 114]⟩
def N_pairs : Str := ⟨#[112, 97, 105, 114, 115]⟩
def N_phase : Str := ⟨#[112, 104, 97, 115, 101]⟩
def N_point : Str := ⟨#[112, 111, 105, 110, 116]⟩
def N_position : Str := ⟨#[112, 111, 115, 105, 116, 105, 111, 110]⟩
def N_range : Str := ⟨#[114, 97, 110, 103, 101]⟩
def N_rest : Str := ⟨#[114, 101, 115, 116]⟩
def N_reversed : Str := ⟨#[114, 101, 118, 101, 114, 115, 101, 100]⟩
def N_ring : Str := ⟨#[114, 105, 110, 103]⟩
def N_rise : Str := ⟨#[114, 105, 115, 101]⟩
def N_room : Str := ⟨#[114, 111, 111, 109]⟩
def N_row : Str := ⟨#[114, 111, 119]⟩
def N_rows : Str := ⟨#[114, 111, 119, 115]⟩
def N_script : Str := ⟨#[115, 99, 114, 105, 112, 116]⟩
def N_second : Str := ⟨#[115, 101, 99, 111, 110, 100]⟩
def N_setting : Str := ⟨#[115, 101, 116, 116, 105, 110, 103]⟩
def N_shape : Str := ⟨#[115, 104, 97, 112, 101]⟩
def N_signal_from : Str := ⟨#[115, 105, 103, 110, 97, 108, 95, 102, 114, 111, 109]⟩
def N_signals : Str := ⟨#[115, 105, 103, 110, 97, 108, 115]⟩
def N_silent : Str := ⟨#[115, 105, 108, 101, 110, 116]⟩
def N_single : Str := ⟨#[115, 105, 110, 103, 108, 101]⟩
def N_slope : Str := ⟨#[115, 108, 111, 112, 101]⟩
def N_state : Str := ⟨#[115, 116, 97, 116, 101]⟩
def N_str : Str := ⟨#[115, 116, 114]⟩
def N_sum : Str := ⟨#[115, 117, 109]⟩
def N_sum_rows : Str := ⟨#[115, 117, 109, 95, 114, 111, 119, 115]⟩
def N_super : Str := ⟨#[115, 117, 112, 101, 114]⟩
def N_tick : Str := ⟨#[116, 105, 99, 107]⟩
def N_told : Str := ⟨#[116, 111, 108, 100]⟩
def N_total : Str := ⟨#[116, 111, 116, 97, 108]⟩
def N_total_from : Str := ⟨#[116, 111, 116, 97, 108, 95, 102, 114, 111, 109]⟩
def N_tuned : Str := ⟨#[116, 117, 110, 101, 100]⟩
def N_tuple : Str := ⟨#[116, 117, 112, 108, 101]⟩
def N_used : Str := ⟨#[117, 115, 101, 100]⟩
def N_value : Str := ⟨#[118, 97, 108, 117, 101]⟩
def N_value_at : Str := ⟨#[118, 97, 108, 117, 101, 95, 97, 116]⟩
def N_wave_value : Str := ⟨#[119, 97, 118, 101, 95, 118, 97, 108, 117, 101]⟩
def N_width : Str := ⟨#[119, 105, 100, 116, 104]⟩
def N_window : Str := ⟨#[119, 105, 110, 100, 111, 119]⟩
def N_window_most : Str := ⟨#[119, 105, 110, 100, 111, 119, 95, 109, 111, 115, 116]⟩
def N_word : Str := ⟨#[119, 111, 114, 100]⟩
def N_wrong : Str := ⟨#[119, 114, 111, 110, 103]⟩
def N_wrong_field : Str := ⟨#[119, 114, 111, 110, 103, 95, 102, 105, 101, 108, 100]⟩
def N_wrong_setting : Str := ⟨#[119, 114, 111, 110, 103, 95, 115, 101, 116, 116, 105, 110, 103]⟩
/-- is_integer -/
def b_is_integer : Ss := (.cons (.ret (.and (.isi (.var 0) .int) (.not (.isi (.var 0) .bool)))) .nil)
def n0 : List Str := [N_value]
def d0 : FD := ⟨1, 1, b_is_integer⟩
/-- is_number -/
def b_is_number : Ss := (.cons (.ret (.and (.call N_is_integer (.cons (.var 0) .nil)) (.chain .le .le (.var 1) (.var 0) (.var 2)))) .nil)
def n1 : List Str := [N_value, N_least, N_most]
def d1 : FD := ⟨3, 3, b_is_number⟩
/-- check_number -/
def b_check_number : Ss := (.cons (.ife (.not (.call N_is_number (.cons (.var 0) (.cons (.var 1) (.cons (.var 2) .nil))))) (.cons (.raise_ N_OutOfRange (.cons (.var 3) .nil)) .nil) .nil) .nil)
def n2 : List Str := [N_value, N_least, N_most, N_word]
def d2 : FD := ⟨4, 4, b_check_number⟩
/-- is_field -/
def b_is_field : Ss := (.cons (.ife (.or (.not (.isi (.var 0) .tuple)) (.cmp .ne (.bi .len (.cons (.var 0) .nil)) (.int 3))) (.cons (.ret (.bl false)) .nil) .nil) (.cons (.tup [1, 2, 3] (.var 0)) (.cons (.ife (.or (.not (.call N_is_number (.cons (.var 1) (.cons (.neg (.g N_MOST_VALUE)) (.cons (.g N_MOST_VALUE) .nil))))) (.not (.call N_is_number (.cons (.var 2) (.cons (.var 1) (.cons (.g N_MOST_VALUE) .nil)))))) (.cons (.ret (.bl false)) .nil) .nil) (.cons (.ret (.call N_is_number (.cons (.var 3) (.cons (.int 0) (.cons (.g N_MOST_VALUE) .nil))))) .nil))))
def n3 : List Str := [N_value, N_low, N_high, N_slope]
def d3 : FD := ⟨1, 4, b_is_field⟩
/-- is_setting -/
def b_is_setting : Ss := (.cons (.ife (.or (.not (.isi (.var 0) .tuple)) (.cmp .ne (.bi .len (.cons (.var 0) .nil)) (.int 4))) (.cons (.ret (.bl false)) .nil) .nil) (.cons (.tup [1, 2, 3, 4] (.var 0)) (.cons (.ife (.or (.not (.call N_is_number (.cons (.var 1) (.cons (.neg (.g N_MOST_VALUE)) (.cons (.g N_MOST_VALUE) .nil))))) (.not (.call N_is_number (.cons (.var 2) (.cons (.int 0) (.cons (.g N_MOST_VALUE) .nil)))))) (.cons (.ret (.bl false)) .nil) .nil) (.cons (.ret (.and (.call N_is_number (.cons (.var 3) (.cons (.int 0) (.cons (.g N_MOST_DELAY) .nil)))) (.call N_is_number (.cons (.var 4) (.cons (.int 0) (.cons (.g N_MOST_DELAY) .nil)))))) .nil))))
def n4 : List Str := [N_value, N_point, N_band, N_on, N_off]
def d4 : FD := ⟨1, 5, b_is_setting⟩
/-- check_field -/
def b_check_field : Ss := (.cons (.ife (.not (.call N_is_field (.cons (.var 0) .nil))) (.cons (.raise_ N_InvalidField .nil) .nil) .nil) .nil)
def n5 : List Str := [N_field]
def d5 : FD := ⟨1, 1, b_check_field⟩
/-- check_setting -/
def b_check_setting : Ss := (.cons (.ife (.not (.call N_is_setting (.cons (.var 0) .nil))) (.cons (.raise_ N_InvalidSetting .nil) .nil) .nil) .nil)
def n6 : List Str := [N_setting]
def d6 : FD := ⟨1, 1, b_check_setting⟩
def L_check_pairs_0 : Ss := (.cons (.asg 2 (.ix (.var 0) (.var 1))) (.cons (.ife (.or (.not (.isi (.var 2) .tuple)) (.cmp .ne (.bi .len (.cons (.var 2) .nil)) (.int 2))) (.cons (.raise_ N_InvalidPair (.cons (.var 1) .nil)) .nil) .nil) (.cons (.ife (.or (.not (.call N_is_field (.cons (.ix (.var 2) (.int 0)) .nil))) (.not (.call N_is_setting (.cons (.ix (.var 2) (.int 1)) .nil)))) (.cons (.raise_ N_InvalidPair (.cons (.var 1) .nil)) .nil) .nil) .nil)))
/-- check_pairs -/
def b_check_pairs : Ss := (.cons (.ife (.not (.isi (.var 0) .tuple)) (.cons (.raise_ N_InvalidPair (.cons (.neg (.int 1)) .nil)) .nil) .nil) (.cons (.ife (.cmp .gt (.bi .len (.cons (.var 0) .nil)) (.g N_MOST_PAIRS)) (.cons (.raise_ N_TooMany (.cons (.g N_MOST_PAIRS) .nil)) .nil) .nil) (.cons (.for_ (.nm 1) (.rng1 (.bi .len (.cons (.var 0) .nil))) L_check_pairs_0) .nil)))
def n7 : List Str := [N_pairs, N_k, N_pair]
def d7 : FD := ⟨1, 3, b_check_pairs⟩
/-- kind_of -/
def b_kind_of : Ss := (.cons (.ex (.call N_check_field (.cons (.var 0) .nil))) (.cons (.ex (.call N_check_setting (.cons (.var 1) .nil))) (.cons (.tup [2, 3, 4] (.var 0)) (.cons (.ife (.cmp .lt (.var 3) (.ix (.var 1) (.int 0))) (.cons (.ret (.str N_silent)) .nil) .nil) (.cons (.ife (.or (.cmp .ge (.var 2) (.ix (.var 1) (.int 0))) (.cmp .eq (.var 4) (.int 0))) (.cons (.ret (.str N_fixed)) .nil) .nil) (.cons (.ife (.cmp .ge (.var 2) (.bin .sub (.ix (.var 1) (.int 0)) (.ix (.var 1) (.int 1)))) (.cons (.ret (.str N_single)) .nil) .nil) (.cons (.ret (.str N_lively)) .nil)))))))
def n8 : List Str := [N_field, N_setting, N_low, N_high, N_slope]
def d8 : FD := ⟨2, 5, b_kind_of⟩
/-- fall_ticks -/
def b_fall_ticks : Ss := (.cons (.asg 2 (.ix (.var 0) (.int 2))) (.cons (.ret (.bin .fdiv (.bin .add (.ix (.var 1) (.int 1)) (.var 2)) (.var 2))) .nil))
def n9 : List Str := [N_field, N_setting, N_slope]
def d9 : FD := ⟨2, 3, b_fall_ticks⟩
/-- gap_of -/
def b_gap_of : Ss := (.cons (.ret (.bin .add (.bin .add (.bin .mul (.int 2) (.call N_fall_ticks (.cons (.var 0) (.cons (.var 1) .nil)))) (.ix (.var 1) (.int 2))) (.ix (.var 1) (.int 3)))) .nil)
def n10 : List Str := [N_field, N_setting]
def d10 : FD := ⟨2, 2, b_gap_of⟩
/-- window_most -/
def b_window_most : Ss := (.cons (.asg 3 (.call N_kind_of (.cons (.var 0) (.cons (.var 1) .nil)))) (.cons (.ex (.call N_check_number (.cons (.var 2) (.cons (.int 1) (.cons (.g N_MOST_WIDTH) (.cons (.str N_width) .nil)))))) (.cons (.ife (.cmp .eq (.var 3) (.str N_silent)) (.cons (.ret (.int 0)) .nil) .nil) (.cons (.ife (.cmp .ne (.var 3) (.str N_lively)) (.cons (.ret (.int 1)) .nil) .nil) (.cons (.ret (.bin .add (.int 1) (.bin .fdiv (.bin .sub (.var 2) (.int 1)) (.call N_gap_of (.cons (.var 0) (.cons (.var 1) .nil)))))) .nil)))))
def n11 : List Str := [N_field, N_setting, N_width, N_kind]
def d11 : FD := ⟨3, 4, b_window_most⟩
/-- wave_value -/
def b_wave_value : Ss := (.cons (.asg 3 (.ix (.var 1) (.int 0))) (.cons (.asg 4 (.bin .sub (.bin .sub (.var 3) (.ix (.var 1) (.int 1))) (.int 1))) (.cons (.asg 5 (.ix (.var 0) (.int 2))) (.cons (.asg 6 (.bin .add (.call N_fall_ticks (.cons (.var 0) (.cons (.var 1) .nil))) (.ix (.var 1) (.int 3)))) (.cons (.ife (.cmp .le (.var 2) (.var 6)) (.cons (.ret (.bi .max (.cons (.var 4) (.cons (.bin .sub (.var 3) (.bin .mul (.var 5) (.var 2))) .nil)))) .nil) .nil) (.cons (.ret (.bi .min (.cons (.var 3) (.cons (.bin .add (.var 4) (.bin .mul (.var 5) (.bin .sub (.var 2) (.var 6)))) .nil)))) .nil))))))
def n12 : List Str := [N_field, N_setting, N_phase, N_point, N_lowest, N_slope, N_rise]
def d12 : FD := ⟨3, 7, b_wave_value⟩
/-- value_at -/
def b_value_at : Ss := (.cons (.ife (.or (.cmp .eq (.var 2) (.str N_silent)) (.cmp .eq (.var 2) (.str N_fixed))) (.cons (.ret (.ix (.var 0) (.int 1))) .nil) .nil) (.cons (.ife (.cmp .lt (.var 4) (.bin .sub (.var 3) (.ix (.var 1) (.int 2)))) (.cons (.ret (.bin .sub (.ix (.var 1) (.int 0)) (.int 1))) .nil) .nil) (.cons (.ife (.or (.cmp .le (.var 4) (.var 3)) (.cmp .eq (.var 2) (.str N_single))) (.cons (.ret (.ix (.var 1) (.int 0))) .nil) .nil) (.cons (.asg 5 (.call N_gap_of (.cons (.var 0) (.cons (.var 1) .nil)))) (.cons (.ret (.call N_wave_value (.cons (.var 0) (.cons (.var 1) (.cons (.bin .mod (.bin .sub (.var 4) (.var 3)) (.var 5)) .nil))))) .nil)))))
def n13 : List Str := [N_field, N_setting, N_kind, N_ring, N_tick, N_gap]
def d13 : FD := ⟨5, 6, b_value_at⟩
/-- signal_from -/
def b_signal_from : Ss := (.cons (.asg 4 (.call N_kind_of (.cons (.var 0) (.cons (.var 1) .nil)))) (.cons (.ret (.bi .tuple (.cons (.lc (.call N_value_at (.cons (.var 0) (.cons (.var 1) (.cons (.var 4) (.cons (.var 2) (.cons (.var 5) .nil)))))) (.nm 5) (.rng1 (.var 3)) .none) .nil))) .nil))
def n14 : List Str := [N_field, N_setting, N_ring, N_length, N_kind, N_tick]
def d14 : FD := ⟨4, 6, b_signal_from⟩
/-- off_for -/
def b_off_for : Ss := (.cons (.asg 4 (.bin .sub (.bin .sub (.bin .add (.bin .fdiv (.bin .sub (.var 2) (.int 1)) (.var 3)) (.int 1)) (.bin .mul (.int 2) (.call N_fall_ticks (.cons (.var 0) (.cons (.var 1) .nil))))) (.ix (.var 1) (.int 2)))) (.cons (.ret (.bi .max (.cons (.ix (.var 1) (.int 3)) (.cons (.var 4) .nil)))) .nil))
def n15 : List Str := [N_field, N_setting, N_width, N_count, N_needed]
def d15 : FD := ⟨4, 5, b_off_for⟩
/-- least_off -/
def b_least_off : Ss := (.cons (.asg 4 (.call N_kind_of (.cons (.var 0) (.cons (.var 1) .nil)))) (.cons (.ex (.call N_check_number (.cons (.var 2) (.cons (.int 1) (.cons (.g N_MOST_WIDTH) (.cons (.str N_width) .nil)))))) (.cons (.ex (.call N_check_number (.cons (.var 3) (.cons (.int 0) (.cons (.g N_MOST_COUNT) (.cons (.str N_count) .nil)))))) (.cons (.ife (.cmp .eq (.var 4) (.str N_silent)) (.cons (.ret (.ix (.var 1) (.int 3))) .nil) .nil) (.cons (.ife (.cmp .eq (.var 3) (.int 0)) (.cons (.ret .non) .nil) .nil) (.cons (.ife (.cmp .ne (.var 4) (.str N_lively)) (.cons (.ret (.ix (.var 1) (.int 3))) .nil) .nil) (.cons (.ret (.call N_off_for (.cons (.var 0) (.cons (.var 1) (.cons (.var 2) (.cons (.var 3) .nil)))))) .nil)))))))
def n16 : List Str := [N_field, N_setting, N_width, N_count, N_kind]
def d16 : FD := ⟨4, 5, b_least_off⟩
/-- choices_of -/
def b_choices_of : Ss := (.cons (.asg 3 (.call N_window_most (.cons (.var 0) (.cons (.var 1) (.cons (.var 2) .nil))))) (.cons (.ife (.cmp .ne (.call N_kind_of (.cons (.var 0) (.cons (.var 1) .nil))) (.str N_lively)) (.cons (.ret (.lst (.cons (.tup (.cons (.ix (.var 1) (.int 3)) (.cons (.var 3) .nil))) .nil))) .nil) .nil) (.cons (.ret (.lc (.tup (.cons (.call N_off_for (.cons (.var 0) (.cons (.var 1) (.cons (.var 2) (.cons (.var 4) .nil))))) (.cons (.var 4) .nil))) (.nm 4) (.rng2 (.int 1) (.bin .add (.var 3) (.int 1))) .none)) .nil)))
def n17 : List Str := [N_field, N_setting, N_width, N_most, N_count]
def d17 : FD := ⟨3, 5, b_choices_of⟩
def L_best_choice_0 : Ss := (.cons (.ife (.and (.cmp .le (.var 5) (.var 2)) (.cmp .isnot (.ix (.var 1) (.bin .sub (.var 2) (.var 5))) .non)) (.cons (.app 3 (.tup (.cons (.bin .add (.var 4) (.ix (.var 1) (.bin .sub (.var 2) (.var 5)))) (.cons (.var 4) (.cons (.var 5) .nil))))) .nil) .nil) .nil)
/-- best_choice -/
def b_best_choice : Ss := (.cons (.asg 3 (.lst .nil)) (.cons (.for_ (.tp [4, 5]) (.it (.var 0)) L_best_choice_0) (.cons (.ret (.bi .mind (.cons (.var 3) (.cons .non .nil)))) .nil)))
def n18 : List Str := [N_choices, N_later, N_room, N_found, N_off, N_count]
def d18 : FD := ⟨3, 6, b_best_choice⟩
def L_sum_rows_0 : Ss := (.cons (.asg 6 (.call N_best_choice (.cons (.var 3) (.cons (.ix (.var 2) (.neg (.int 1))) (.cons (.var 5) .nil))))) (.cons (.ife (.cmp .is_ (.var 6) .non) (.cons (.app 4 .non) .nil) (.cons (.app 4 (.ix (.var 6) (.int 0))) .nil)) .nil))
def L_sum_rows_1 : Ss := (.cons (.asg 4 (.lst .nil)) (.cons (.for_ (.nm 5) (.rng1 (.bin .add (.var 1) (.int 1))) L_sum_rows_0) (.cons (.app 2 (.var 4)) .nil)))
/-- sum_rows -/
def b_sum_rows : Ss := (.cons (.asg 2 (.lst (.cons (.bin .mul (.lst (.cons (.int 0) .nil)) (.bin .add (.var 1) (.int 1))) .nil))) (.cons (.for_ (.nm 3) (.rev (.var 0)) L_sum_rows_1) (.cons (.rev 2) (.cons (.ret (.var 2)) .nil))))
def n19 : List Str := [N_choices, N_limit, N_rows, N_options, N_row, N_room, N_best]
def d19 : FD := ⟨2, 7, b_sum_rows⟩
def L_least_delays_0 : Ss := (.cons (.tup [10, 11, 12] (.call N_best_choice (.cons (.ix (.var 3) (.var 9)) (.cons (.ix (.var 7) (.bin .add (.var 9) (.int 1))) (.cons (.var 6) .nil))))) (.cons (.app 8 (.var 11)) (.cons (.asg 6 (.bin .sub (.var 6) (.var 12))) .nil)))
/-- least_delays -/
def b_least_delays : Ss := (.cons (.ex (.call N_check_pairs (.cons (.var 0) .nil))) (.cons (.ex (.call N_check_number (.cons (.var 1) (.cons (.int 1) (.cons (.g N_MOST_WIDTH) (.cons (.str N_width) .nil)))))) (.cons (.ex (.call N_check_number (.cons (.var 2) (.cons (.int 0) (.cons (.g N_MOST_LIMIT) (.cons (.str N_limit) .nil)))))) (.cons (.asg 3 (.lc (.call N_choices_of (.cons (.var 4) (.cons (.var 5) (.cons (.var 1) .nil)))) (.tp [4, 5]) (.it (.var 0)) .none)) (.cons (.asg 6 (.bi .min (.cons (.var 2) (.cons (.bi .sum (.cons (.lc (.call N_window_most (.cons (.var 4) (.cons (.var 5) (.cons (.var 1) .nil)))) (.tp [4, 5]) (.it (.var 0)) .none) .nil)) .nil)))) (.cons (.asg 7 (.call N_sum_rows (.cons (.var 3) (.cons (.var 6) .nil)))) (.cons (.ife (.cmp .is_ (.ix (.ix (.var 7) (.int 0)) (.var 6)) .non) (.cons (.ret .non) .nil) .nil) (.cons (.asg 8 (.lst .nil)) (.cons (.for_ (.nm 9) (.rng1 (.bi .len (.cons (.var 0) .nil))) L_least_delays_0) (.cons (.ret (.tup (.cons (.bin .sub (.bi .sum (.cons (.var 8) .nil)) (.bi .sum (.cons (.lc (.ix (.var 5) (.int 3)) (.tp [4, 5]) (.it (.var 0)) .none) .nil))) (.cons (.bi .tuple (.cons (.var 8) .nil)) .nil)))) .nil))))))))))
def n20 : List Str := [N_pairs, N_width, N_limit, N_choices, N_field, N_setting, N_room, N_rows, N_offs, N_k, N_total, N_off, N_count]
def d20 : FD := ⟨3, 13, b_least_delays⟩
/-- most_from -/
def b_most_from : Ss := (.cons (.asg 4 (.call N_kind_of (.cons (.var 0) (.cons (.var 1) .nil)))) (.cons (.asg 5 (.ix (.var 1) (.int 2))) (.cons (.asg 6 (.bin .sub (.bin .add (.var 3) (.var 2)) (.int 1))) (.cons (.ife (.or (.cmp .eq (.var 4) (.str N_silent)) (.cmp .lt (.var 6) (.var 5))) (.cons (.ret (.int 0)) .nil) .nil) (.cons (.ife (.cmp .eq (.var 4) (.str N_fixed)) (.cons (.ret (.bi .int (.cons (.cmp .le (.var 3) (.var 5)) .nil))) .nil) .nil) (.cons (.ife (.cmp .eq (.var 4) (.str N_single)) (.cons (.ret (.int 1)) .nil) .nil) (.cons (.ret (.bin .add (.int 1) (.bin .fdiv (.bin .sub (.var 6) (.bi .max (.cons (.var 3) (.cons (.var 5) .nil)))) (.call N_gap_of (.cons (.var 0) (.cons (.var 1) .nil)))))) .nil)))))))
def n21 : List Str := [N_field, N_setting, N_width, N_begin, N_kind, N_on, N_last]
def d21 : FD := ⟨4, 7, b_most_from⟩
/-- total_from -/
def b_total_from : Ss := (.cons (.ret (.bi .sum (.cons (.lc (.call N_most_from (.cons (.var 3) (.cons (.var 4) (.cons (.var 1) (.cons (.var 2) .nil))))) (.tp [3, 4]) (.it (.var 0)) .none) .nil))) .nil)
def n22 : List Str := [N_pairs, N_width, N_begin, N_field, N_setting]
def d22 : FD := ⟨3, 5, b_total_from⟩
/-- crowded_signal -/
def b_crowded_signal : Ss := (.cons (.ret (.call N_signal_from (.cons (.var 0) (.cons (.var 1) (.cons (.bi .max (.cons (.var 3) (.cons (.ix (.var 1) (.int 2)) .nil))) (.cons (.bin .add (.var 3) (.var 2)) .nil)))))) .nil)
def n23 : List Str := [N_field, N_setting, N_width, N_begin]
def d23 : FD := ⟨4, 4, b_crowded_signal⟩
def L_most_total_0 : Ss := (.cons (.asg 8 (.call N_total_from (.cons (.var 0) (.cons (.var 1) (.cons (.var 7) .nil))))) (.cons (.ife (.cmp .gt (.var 8) (.var 5)) (.cons (.asg 5 (.var 8)) (.cons (.asg 6 (.var 7)) .nil)) .nil) .nil))
/-- most_total -/
def b_most_total : Ss := (.cons (.ex (.call N_check_pairs (.cons (.var 0) .nil))) (.cons (.ex (.call N_check_number (.cons (.var 1) (.cons (.int 1) (.cons (.g N_MOST_WIDTH) (.cons (.str N_width) .nil)))))) (.cons (.asg 2 (.bi .maxd (.cons (.lc (.ix (.var 4) (.int 2)) (.tp [3, 4]) (.it (.var 0)) .none) (.cons (.int 0) .nil)))) (.cons (.asg 5 (.call N_total_from (.cons (.var 0) (.cons (.var 1) (.cons (.int 0) .nil))))) (.cons (.asg 6 (.int 0)) (.cons (.for_ (.nm 7) (.rng2 (.int 1) (.bin .add (.var 2) (.int 1))) L_most_total_0) (.cons (.asg 9 (.bi .tuple (.cons (.lc (.call N_crowded_signal (.cons (.var 3) (.cons (.var 4) (.cons (.var 1) (.cons (.var 6) .nil))))) (.tp [3, 4]) (.it (.var 0)) .none) .nil))) (.cons (.ret (.tup (.cons (.var 5) (.cons (.var 6) (.cons (.var 9) .nil))))) .nil))))))))
def n24 : List Str := [N_pairs, N_width, N_last, N_field, N_setting, N_best, N_begin, N_tick, N_total, N_signals]
def d24 : FD := ⟨2, 10, b_most_total⟩
/-- _law_cell -/
def b__law_cell : Ss := (.cons (.ife (.cmp .eq (.bi .len (.cons (.var 0) .nil)) (.int 0)) (.cons (.ret (.bin .add (.bin .mul (.int 37) (.var 1)) (.int 3))) .nil) .nil) (.cons (.ife (.cmp .lt (.var 1) (.bi .len (.cons (.var 0) .nil))) (.cons (.ret (.bi .int (.cons (.ix (.var 0) (.var 1)) .nil))) .nil) .nil) (.cons (.ret (.bin .add (.bin .mul (.bin .mod (.bi .int (.cons (.ix (.var 0) (.bin .mod (.bi .int (.cons (.var 1) .nil)) (.bi .len (.cons (.var 0) .nil)))) .nil)) (.int 1000003)) (.int 5)) (.bin .mul (.int 31) (.var 1)))) .nil)))
def n25 : List Str := [N_script, N_k]
def d25 : FD := ⟨2, 2, b__law_cell⟩
/-- _law_pick -/
def b__law_pick : Ss := (.cons (.ret (.bin .mod (.bi .int (.cons (.call N__law_cell (.cons (.var 0) (.cons (.var 1) .nil))) .nil)) (.var 2))) .nil)
def n26 : List Str := [N_script, N_k, N_many]
def d26 : FD := ⟨3, 3, b__law_pick⟩
def L__law_row_0 : Ss := (.cons (.ife (.and (.var 4) (.cmp .gt (.var 3) (.int 0))) (.cons (.app 6 (.bin .mod (.bi .int (.cons (.var 3) .nil)) (.var 2))) (.cons (.asg 3 (.bin .fdiv (.var 3) (.var 2))) .nil)) (.cons (.asg 5 (.bin .mod (.bi .int (.cons (.bin .add (.bin .add (.bin .mul (.var 5) (.int 48271)) (.bin .mul (.int 2) (.var 7))) (.int 7)) .nil)) (.int 2147483647))) (.cons (.app 6 (.bin .mod (.bi .int (.cons (.bin .fdiv (.var 5) (.int 61)) .nil)) (.var 2))) .nil))) .nil)
/-- _law_row -/
def b__law_row : Ss := (.cons (.asg 3 (.bi .int (.cons (.var 0) .nil))) (.cons (.asg 4 (.cmp .ge (.var 3) (.bin .pow (.int 10) (.int 18)))) (.cons (.asg 5 (.bin .mod (.bi .int (.cons (.var 3) .nil)) (.int 2147483647))) (.cons (.asg 6 (.lst .nil)) (.cons (.for_ (.nm 7) (.rng1 (.var 1)) L__law_row_0) (.cons (.ret (.var 6)) .nil))))))
def n27 : List Str := [N_cell, N_many, N_base, N_rest, N_great, N_state, N_row, N_k]
def d27 : FD := ⟨3, 8, b__law_row⟩
/-- _law_is_integer -/
def b__law_is_integer : Ss := (.cons (.ret (.and (.isi (.var 0) .int) (.not (.isi (.var 0) .bool)))) .nil)
def n28 : List Str := [N_value]
def d28 : FD := ⟨1, 1, b__law_is_integer⟩
def L__law_same_0 : Ss := (.cons (.ife (.not (.call N__law_same (.cons (.ix (.var 0) (.var 2)) (.cons (.ix (.var 1) (.var 2)) .nil)))) (.cons (.ret (.bl false)) .nil) .nil) .nil)
/-- _law_same -/
def b__law_same : Ss := (.cons (.ife (.isi (.var 1) .tuple) (.cons (.ife (.or (.not (.isi (.var 0) .tuple)) (.cmp .ne (.bi .len (.cons (.var 0) .nil)) (.bi .len (.cons (.var 1) .nil)))) (.cons (.ret (.bl false)) .nil) .nil) (.cons (.for_ (.nm 2) (.rng1 (.bi .len (.cons (.var 1) .nil))) L__law_same_0) (.cons (.ret (.bl true)) .nil))) .nil) (.cons (.ife (.or (.cmp .is_ (.var 1) .non) (.cmp .is_ (.var 0) .non)) (.cons (.ret (.and (.cmp .is_ (.var 1) .non) (.cmp .is_ (.var 0) .non))) .nil) .nil) (.cons (.ife (.or (.cmp .ne (.isi (.var 1) .bool) (.isi (.var 0) .bool)) (.cmp .ne (.isi (.var 1) .str) (.isi (.var 0) .str))) (.cons (.ret (.bl false)) .nil) .nil) (.cons (.ife (.cmp .ne (.isi (.var 1) .int) (.isi (.var 0) .int)) (.cons (.ret (.bl false)) .nil) .nil) (.cons (.ret (.cmp .eq (.var 0) (.var 1))) .nil)))))
def n29 : List Str := [N_actual, N_due, N_k]
def d29 : FD := ⟨2, 3, b__law_same⟩
/-- _law_case -/
def b__law_case : Ss := (.cons (.asg 2 (.call N__law_row (.cons (.var 0) (.cons (.int 7) (.cons (.int 2003001) .nil))))) (.cons (.asg 3 (.bin .sub (.bin .mod (.bi .int (.cons (.ix (.var 2) (.int 0)) .nil)) (.int 2001)) (.int 1000))) (.cons (.asg 4 (.bin .add (.var 3) (.bin .mod (.bi .int (.cons (.ix (.var 2) (.int 1)) .nil)) (.bin .sub (.int 1001) (.var 3))))) (.cons (.asg 5 (.bin .mod (.bi .int (.cons (.ix (.var 2) (.int 2)) .nil)) (.int 1001))) (.cons (.asg 6 (.bin .sub (.bin .mod (.bi .int (.cons (.ix (.var 2) (.int 3)) .nil)) (.int 2001)) (.int 1000))) (.cons (.asg 7 (.bin .mod (.bi .int (.cons (.ix (.var 2) (.int 4)) .nil)) (.int 1001))) (.cons (.asg 8 (.bin .mod (.bi .int (.cons (.ix (.var 2) (.int 5)) .nil)) (.int 101))) (.cons (.asg 9 (.bin .mod (.bi .int (.cons (.ix (.var 2) (.int 6)) .nil)) (.int 101))) (.cons (.ife (.cmp .eq (.var 1) (.int 1)) (.cons (.asg 6 (.bi .min (.cons (.int 1000) (.cons (.bin .add (.var 3) (.bin .mod (.bi .int (.cons (.ix (.var 2) (.int 3)) .nil)) (.bin .add (.bin .sub (.var 4) (.var 3)) (.int 2)))) .nil)))) (.cons (.asg 7 (.bin .mod (.bi .int (.cons (.ix (.var 2) (.int 4)) .nil)) (.int 40))) (.cons (.asg 9 (.bin .mod (.bi .int (.cons (.ix (.var 2) (.int 6)) .nil)) (.int 10))) .nil))) .nil) (.cons (.ife (.cmp .gt (.var 1) (.int 1)) (.cons (.asg 3 (.bin .sub (.bin .mod (.bi .int (.cons (.ix (.var 2) (.int 0)) .nil)) (.int 31)) (.int 20))) (.cons (.asg 4 (.bin .add (.var 3) (.bin .mod (.bi .int (.cons (.ix (.var 2) (.int 1)) .nil)) (.int 30)))) (.cons (.asg 5 (.bin .mod (.bi .int (.cons (.ix (.var 2) (.int 2)) .nil)) (.int 12))) (.cons (.asg 6 (.bin .add (.var 3) (.bin .mod (.bi .int (.cons (.ix (.var 2) (.int 3)) .nil)) (.bin .add (.bin .sub (.var 4) (.var 3)) (.int 2))))) (.cons (.asg 7 (.bin .mod (.bi .int (.cons (.ix (.var 2) (.int 4)) .nil)) (.bin .add (.bin .sub (.var 6) (.var 3)) (.int 2)))) (.cons (.asg 8 (.bin .mod (.bi .int (.cons (.ix (.var 2) (.int 5)) .nil)) (.int 7))) (.cons (.asg 9 (.bin .mod (.bi .int (.cons (.ix (.var 2) (.int 6)) .nil)) (.int 7))) .nil))))))) .nil) (.cons (.ret (.tup (.cons (.tup (.cons (.var 3) (.cons (.var 4) (.cons (.var 5) .nil)))) (.cons (.tup (.cons (.var 6) (.cons (.var 7) (.cons (.var 8) (.cons (.var 9) .nil))))) .nil)))) .nil)))))))))))
def n30 : List Str := [N_cell, N_shape, N_row, N_low, N_high, N_slope, N_point, N_band, N_on, N_off]
def d30 : FD := ⟨2, 10, b__law_case⟩
/-- _law_kind -/
def b__law_kind : Ss := (.cons (.ife (.cmp .lt (.ix (.var 0) (.int 1)) (.ix (.var 1) (.int 0))) (.cons (.ret (.str N_silent)) .nil) .nil) (.cons (.ife (.or (.cmp .ge (.ix (.var 0) (.int 0)) (.ix (.var 1) (.int 0))) (.cmp .eq (.ix (.var 0) (.int 2)) (.int 0))) (.cons (.ret (.str N_fixed)) .nil) .nil) (.cons (.ife (.cmp .ge (.ix (.var 0) (.int 0)) (.bin .sub (.ix (.var 1) (.int 0)) (.ix (.var 1) (.int 1)))) (.cons (.ret (.str N_single)) .nil) .nil) (.cons (.ret (.str N_lively)) .nil))))
def n31 : List Str := [N_field, N_setting]
def d31 : FD := ⟨2, 2, b__law_kind⟩
/-- _law_gap -/
def b__law_gap : Ss := (.cons (.asg 2 (.bin .sub (.int 0) (.bin .fdiv (.bin .sub (.bin .sub (.int 0) (.int 1)) (.ix (.var 1) (.int 1))) (.ix (.var 0) (.int 2))))) (.cons (.ret (.bin .add (.bin .add (.bin .add (.var 2) (.ix (.var 1) (.int 3))) (.var 2)) (.ix (.var 1) (.int 2)))) .nil))
def n32 : List Str := [N_field, N_setting, N_fall]
def d32 : FD := ⟨2, 3, b__law_gap⟩
/-- _law_window -/
def b__law_window : Ss := (.cons (.asg 3 (.call N__law_kind (.cons (.var 0) (.cons (.var 1) .nil)))) (.cons (.ife (.cmp .eq (.var 3) (.str N_silent)) (.cons (.ret (.int 0)) .nil) .nil) (.cons (.ife (.cmp .ne (.var 3) (.str N_lively)) (.cons (.ret (.int 1)) .nil) .nil) (.cons (.ret (.bin .add (.int 1) (.bin .fdiv (.bin .sub (.var 2) (.int 1)) (.call N__law_gap (.cons (.var 0) (.cons (.var 1) .nil)))))) .nil))))
def n33 : List Str := [N_field, N_setting, N_width, N_kind]
def d33 : FD := ⟨3, 4, b__law_window⟩
/-- _law_with_off -/
def b__law_with_off : Ss := (.cons (.ret (.tup (.cons (.ix (.var 0) (.int 0)) (.cons (.ix (.var 0) (.int 1)) (.cons (.ix (.var 0) (.int 2)) (.cons (.var 1) .nil)))))) .nil)
def n34 : List Str := [N_setting, N_off]
def d34 : FD := ⟨2, 2, b__law_with_off⟩
def L__law_options_0 : Ss := (.cons (.asg 5 (.call N__law_window (.cons (.var 0) (.cons (.call N__law_with_off (.cons (.var 1) (.cons (.var 4) .nil))) (.cons (.var 2) .nil))))) (.cons (.ife (.or (.cmp .eq (.bi .len (.cons (.var 3) .nil)) (.int 0)) (.cmp .lt (.var 5) (.ix (.ix (.var 3) (.neg (.int 1))) (.int 1)))) (.cons (.app 3 (.tup (.cons (.var 4) (.cons (.var 5) .nil)))) .nil) .nil) .nil))
/-- _law_options -/
def b__law_options : Ss := (.cons (.asg 3 (.lst .nil)) (.cons (.for_ (.nm 4) (.rng2 (.ix (.var 1) (.int 3)) (.int 101)) L__law_options_0) (.cons (.ret (.var 3)) .nil)))
def n35 : List Str := [N_field, N_setting, N_width, N_rows, N_off, N_count]
def d35 : FD := ⟨3, 6, b__law_options⟩
def L__law_off_due_0 : Ss := (.cons (.ife (.cmp .le (.ix (.var 4) (.int 1)) (.var 3)) (.cons (.ret (.ix (.var 4) (.int 0))) .nil) .nil) .nil)
/-- _law_off_due -/
def b__law_off_due : Ss := (.cons (.for_ (.nm 4) (.it (.call N__law_options (.cons (.var 0) (.cons (.var 1) (.cons (.var 2) .nil))))) L__law_off_due_0) (.cons (.ret .non) .nil))
def n36 : List Str := [N_field, N_setting, N_width, N_count, N_row]
def d36 : FD := ⟨4, 5, b__law_off_due⟩
def L__law_delays_due_0 : Ss := (.cons (.asg 10 (.bin .add (.var 8) (.ix (.var 9) (.int 1)))) (.cons (.ife (.cmp .le (.var 10) (.var 3)) (.cons (.asg 11 (.tup (.cons (.bin .add (.ix (.ix (.var 5) (.var 8)) (.int 0)) (.ix (.var 9) (.int 0))) (.cons (.bin .add (.ix (.ix (.var 5) (.var 8)) (.int 1)) (.tup (.cons (.ix (.var 9) (.int 0)) .nil))) .nil)))) (.cons (.ife (.or (.cmp .is_ (.ix (.var 6) (.var 10)) .non) (.cmp .lt (.var 11) (.ix (.var 6) (.var 10)))) (.cons (.asgix 6 (.var 10) (.var 11)) .nil) .nil) .nil)) .nil) .nil))
def L__law_delays_due_1 : Ss := (.cons (.ife (.cmp .isnot (.ix (.var 5) (.var 8)) .non) (.cons (.for_ (.nm 9) (.it (.var 7)) L__law_delays_due_0) .nil) .nil) .nil)
def L__law_delays_due_2 : Ss := (.cons (.asg 6 (.bin .mul (.lst (.cons .non .nil)) (.bin .add (.var 3) (.int 1)))) (.cons (.asg 7 (.call N__law_options (.cons (.ix (.var 4) (.int 0)) (.cons (.ix (.var 4) (.int 1)) (.cons (.var 1) .nil))))) (.cons (.for_ (.nm 8) (.rng1 (.bin .add (.var 3) (.int 1))) L__law_delays_due_1) (.cons (.asg 5 (.var 6)) .nil))))
/-- _law_delays_due -/
def b__law_delays_due : Ss := (.cons (.asg 3 (.bi .min (.cons (.var 2) (.cons (.bi .sum (.cons (.lc (.call N__law_window (.cons (.ix (.var 4) (.int 0)) (.cons (.ix (.var 4) (.int 1)) (.cons (.var 1) .nil)))) (.nm 4) (.it (.var 0)) .none) .nil)) .nil)))) (.cons (.asg 5 (.bin .mul (.lst (.cons .non .nil)) (.bin .add (.var 3) (.int 1)))) (.cons (.asgix 5 (.int 0) (.tup (.cons (.int 0) (.cons (.tup .nil) .nil)))) (.cons (.for_ (.nm 4) (.it (.var 0)) L__law_delays_due_2) (.cons (.asg 12 (.lc (.var 11) (.nm 11) (.it (.var 5)) (.some (.cmp .isnot (.var 11) .non)))) (.cons (.ife (.cmp .eq (.bi .len (.cons (.var 12) .nil)) (.int 0)) (.cons (.ret .non) .nil) .nil) (.cons (.asg 11 (.bi .min (.cons (.var 12) .nil))) (.cons (.ret (.tup (.cons (.bin .sub (.ix (.var 11) (.int 0)) (.bi .sum (.cons (.lc (.ix (.ix (.var 4) (.int 1)) (.int 3)) (.nm 4) (.it (.var 0)) .none) .nil))) (.cons (.ix (.var 11) (.int 1)) .nil)))) .nil))))))))
def n37 : List Str := [N_pairs, N_width, N_limit, N_room, N_pair, N_best, N_later, N_options, N_used, N_option, N_total, N_row, N_found]
def d37 : FD := ⟨3, 13, b__law_delays_due⟩
/-- _law_ask -/
def b__law_ask : Ss := (.cons (.asg 5 (.lst .nil)) (.cons (.asg 6 .non) (.cons (.try_ (.cons (.ife (.cmp .eq (.var 0) (.int 0)) (.cons (.asg 6 (.call N_least_off (.cons (.var 1) (.cons (.var 2) (.cons (.var 3) (.cons (.var 4) .nil)))))) .nil) (.cons (.asg 6 (.call N_least_delays (.cons (.var 1) (.cons (.var 3) (.cons (.var 4) .nil))))) .nil)) .nil) (.cons N_AlarmError (some 7) (.cons (.ife (.isx 7 N_InvalidField) (.cons (.app 5 (.str N_field)) .nil) .nil) (.cons (.ife (.isx 7 N_InvalidSetting) (.cons (.app 5 (.str N_setting)) .nil) .nil) (.cons (.ife (.isx 7 N_InvalidPair) (.cons (.app 5 (.str N_pair)) (.cons (.app 5 (.xfl 7 N_position)) .nil)) .nil) (.cons (.ife (.isx 7 N_TooMany) (.cons (.app 5 (.str N_many)) (.cons (.app 5 (.xfl 7 N_bound)) .nil)) .nil) (.cons (.ife (.isx 7 N_OutOfRange) (.cons (.app 5 (.str N_range)) (.cons (.app 5 (.xfl 7 N_word)) .nil)) .nil) (.cons (.ret (.bi .tuple (.cons (.var 5) .nil))) .nil)))))) .nil)) (.cons (.ret (.tup (.cons (.str N_told) (.cons (.var 6) .nil)))) .nil))))
def n38 : List Str := [N_door, N_first, N_second, N_width, N_number, N_names, N_value, N_e]
def d38 : FD := ⟨5, 8, b__law_ask⟩
/-- _law_wrong_field -/
def b__law_wrong_field : Ss := (.cons (.asg 2 (.ix (.var 1) (.int 0))) (.cons (.asg 3 (.ix (.var 1) (.int 1))) (.cons (.asg 4 (.ix (.var 1) (.int 2))) (.cons (.asg 5 (.lst (.cons (.tup (.cons (.bin .add (.var 3) (.int 1)) (.cons (.var 3) (.cons (.var 4) .nil)))) (.cons (.tup (.cons (.bin .sub (.int 0) (.int 1001)) (.cons (.var 3) (.cons (.var 4) .nil)))) (.cons (.tup (.cons (.var 2) (.cons (.int 1001) (.cons (.var 4) .nil)))) (.cons (.tup (.cons (.var 2) (.cons (.var 3) (.cons (.bin .sub (.int 0) (.int 1)) .nil)))) .nil)))))) (.cons (.asg 5 (.bin .add (.var 5) (.lst (.cons (.tup (.cons (.var 2) (.cons (.var 3) (.cons (.int 1001) .nil)))) (.cons (.tup (.cons (.bl true) (.cons (.int 1000) (.cons (.var 4) .nil)))) (.cons (.tup (.cons (.bin .sub (.int 0) (.int 5)) (.cons (.bl false) (.cons (.var 4) .nil)))) (.cons (.tup (.cons (.var 2) (.cons (.var 3) (.cons (.bl true) .nil)))) (.cons (.tup (.cons (.var 2) (.cons (.var 3) (.cons (.bl false) .nil)))) .nil)))))))) (.cons (.asg 5 (.bin .add (.var 5) (.lst (.cons (.bi .list (.cons (.var 1) .nil)) (.cons (.sl (.var 1) .none (.some (.int 2))) (.cons (.bin .add (.var 1) (.tup (.cons (.int 0) .nil))) (.cons .non (.cons (.str N_field) (.cons (.int 7) (.cons (.tup (.cons .non (.cons (.var 3) (.cons (.var 4) .nil)))) (.cons (.tup (.cons (.var 2) (.cons (.str N_9) (.cons (.var 4) .nil)))) .nil))))))))))) (.cons (.asg 5 (.bin .add (.var 5) (.lst (.cons (.tup (.cons (.var 2) (.cons (.var 3) (.cons (.tup (.cons (.int 1) .nil)) .nil)))) (.cons (.tup .nil) .nil))))) (.cons (.ret (.ix (.var 5) (.var 0))) .nil))))))))
def n39 : List Str := [N_choice, N_field, N_low, N_high, N_slope, N_rows]
def d39 : FD := ⟨2, 6, b__law_wrong_field⟩
/-- _law_wrong_setting -/
def b__law_wrong_setting : Ss := (.cons (.asg 2 (.ix (.var 1) (.int 0))) (.cons (.asg 3 (.ix (.var 1) (.int 1))) (.cons (.asg 4 (.ix (.var 1) (.int 2))) (.cons (.asg 5 (.ix (.var 1) (.int 3))) (.cons (.asg 6 (.lst (.cons (.tup (.cons (.int 1001) (.cons (.var 3) (.cons (.var 4) (.cons (.var 5) .nil))))) (.cons (.tup (.cons (.bin .sub (.int 0) (.int 1001)) (.cons (.var 3) (.cons (.var 4) (.cons (.var 5) .nil))))) (.cons (.tup (.cons (.var 2) (.cons (.bin .sub (.int 0) (.int 1)) (.cons (.var 4) (.cons (.var 5) .nil))))) (.cons (.tup (.cons (.var 2) (.cons (.int 1001) (.cons (.var 4) (.cons (.var 5) .nil))))) .nil)))))) (.cons (.asg 6 (.bin .add (.var 6) (.lst (.cons (.tup (.cons (.var 2) (.cons (.var 3) (.cons (.bin .sub (.int 0) (.int 1)) (.cons (.var 5) .nil))))) (.cons (.tup (.cons (.var 2) (.cons (.var 3) (.cons (.int 101) (.cons (.var 5) .nil))))) (.cons (.tup (.cons (.var 2) (.cons (.var 3) (.cons (.var 4) (.cons (.bin .sub (.int 0) (.int 1)) .nil))))) (.cons (.tup (.cons (.var 2) (.cons (.var 3) (.cons (.var 4) (.cons (.int 101) .nil))))) .nil))))))) (.cons (.asg 6 (.bin .add (.var 6) (.lst (.cons (.tup (.cons (.bl true) (.cons (.var 3) (.cons (.var 4) (.cons (.var 5) .nil))))) (.cons (.tup (.cons (.var 2) (.cons (.bl false) (.cons (.var 4) (.cons (.var 5) .nil))))) (.cons (.tup (.cons (.var 2) (.cons (.var 3) (.cons (.bl true) (.cons (.var 5) .nil))))) (.cons (.tup (.cons (.var 2) (.cons (.var 3) (.cons (.var 4) (.cons (.bl true) .nil))))) .nil))))))) (.cons (.asg 6 (.bin .add (.var 6) (.lst (.cons (.bi .list (.cons (.var 1) .nil)) (.cons (.sl (.var 1) .none (.some (.int 3))) (.cons (.bin .add (.var 1) (.tup (.cons (.int 0) .nil))) (.cons .non (.cons (.str N_setting) (.cons (.int 0) (.cons (.tup (.cons .non (.cons (.var 3) (.cons (.var 4) (.cons (.var 5) .nil))))) .nil)))))))))) (.cons (.asg 6 (.bin .add (.var 6) (.lst (.cons (.tup (.cons (.var 2) (.cons (.var 3) (.cons (.var 4) (.cons .non .nil))))) (.cons (.tup (.cons (.var 2) (.cons (.str N_2) (.cons (.var 4) (.cons (.var 5) .nil))))) (.cons (.tup .nil) .nil)))))) (.cons (.ret (.ix (.var 6) (.var 0))) .nil))))))))))
def n40 : List Str := [N_choice, N_setting, N_point, N_band, N_on, N_off, N_rows]
def d40 : FD := ⟨2, 7, b__law_wrong_setting⟩
/-- _law_off_refused -/
def b__law_off_refused : Ss := (.cons (.asg 5 (.call N__law_wrong_field (.cons (.call N__law_pick (.cons (.var 0) (.cons (.int 16) (.cons (.int 19) .nil)))) (.cons (.var 1) .nil)))) (.cons (.asg 6 (.call N__law_wrong_setting (.cons (.call N__law_pick (.cons (.var 0) (.cons (.int 17) (.cons (.int 22) .nil)))) (.cons (.var 2) .nil)))) (.cons (.asg 7 (.ix (.lst (.cons (.int 0) (.cons (.int 101) (.cons (.bl true) (.cons .non (.cons (.str N_5) (.cons (.tup (.cons (.int 3) .nil)) (.cons (.bin .pow (.int 10) (.int 6)) (.cons (.bin .sub (.int 0) (.int 1)) (.cons (.lst (.cons (.int 2) .nil)) (.cons (.bl false) .nil))))))))))) (.call N__law_pick (.cons (.var 0) (.cons (.int 18) (.cons (.int 10) .nil)))))) (.cons (.asg 8 (.ix (.lst (.cons (.bin .sub (.int 0) (.int 1)) (.cons (.int 101) (.cons (.bl true) (.cons .non (.cons (.str N_5) (.cons (.tup (.cons (.int 3) .nil)) (.cons (.bin .pow (.int 10) (.int 6)) (.cons (.lst (.cons (.int 2) .nil)) (.cons (.bl false) .nil)))))))))) (.call N__law_pick (.cons (.var 0) (.cons (.int 19) (.cons (.int 9) .nil)))))) (.cons (.asg 9 (.var 2)) (.cons (.asg 10 (.var 4)) (.cons (.ife (.cmp .eq (.call N__law_pick (.cons (.var 0) (.cons (.int 20) (.cons (.int 2) .nil)))) (.int 1)) (.cons (.asg 9 (.var 6)) (.cons (.asg 10 (.var 8)) .nil)) .nil) (.cons (.ife (.not (.call N__law_same (.cons (.call N__law_ask (.cons (.int 0) (.cons (.var 5) (.cons (.var 9) (.cons (.var 7) (.cons (.var 10) .nil)))))) (.cons (.tup (.cons (.str N_field) .nil)) .nil)))) (.cons (.ret (.bl false)) .nil) .nil) (.cons (.ife (.not (.call N__law_same (.cons (.call N__law_ask (.cons (.int 0) (.cons (.var 1) (.cons (.var 6) (.cons (.var 7) (.cons (.var 10) .nil)))))) (.cons (.tup (.cons (.str N_setting) .nil)) .nil)))) (.cons (.ret (.bl false)) .nil) .nil) (.cons (.ife (.not (.call N__law_same (.cons (.call N__law_ask (.cons (.int 0) (.cons (.var 1) (.cons (.var 2) (.cons (.var 7) (.cons (.var 10) .nil)))))) (.cons (.tup (.cons (.str N_range) (.cons (.str N_width) .nil))) .nil)))) (.cons (.ret (.bl false)) .nil) .nil) (.cons (.ret (.call N__law_same (.cons (.call N__law_ask (.cons (.int 0) (.cons (.var 1) (.cons (.var 2) (.cons (.var 3) (.cons (.var 8) .nil)))))) (.cons (.tup (.cons (.str N_range) (.cons (.str N_count) .nil))) .nil)))) .nil)))))))))))
def n41 : List Str := [N_script, N_field, N_setting, N_width, N_count, N_wrong_field, N_wrong_setting, N_odd, N_more, N_second, N_last]
def d41 : FD := ⟨5, 11, b__law_off_refused⟩
/-- _law_off_holds -/
def b__law_off_holds : Ss := (.cons (.asg 1 (.call N__law_case (.cons (.call N__law_cell (.cons (.var 0) (.cons (.int 10) .nil))) (.cons (.ix (.lst (.cons (.int 2) (.cons (.int 3) (.cons (.int 1) (.cons (.int 2) (.cons (.int 0) (.cons (.int 3) .nil))))))) (.call N__law_pick (.cons (.var 0) (.cons (.int 11) (.cons (.int 6) .nil))))) .nil)))) (.cons (.asg 2 (.ix (.var 1) (.int 0))) (.cons (.asg 3 (.ix (.var 1) (.int 1))) (.cons (.asg 4 (.bin .add (.int 1) (.call N__law_pick (.cons (.var 0) (.cons (.int 12) (.cons (.ix (.lst (.cons (.int 100) (.cons (.int 12) (.cons (.int 30) .nil)))) (.call N__law_pick (.cons (.var 0) (.cons (.int 13) (.cons (.int 3) .nil))))) .nil)))))) (.cons (.asg 5 (.call N__law_window (.cons (.var 2) (.cons (.var 3) (.cons (.var 4) .nil))))) (.cons (.asg 6 (.ix (.lst (.cons (.int 0) (.cons (.int 1) (.cons (.var 5) (.cons (.bi .max (.cons (.int 0) (.cons (.bin .sub (.var 5) (.int 1)) .nil))) (.cons (.int 100) (.cons (.call N__law_pick (.cons (.var 0) (.cons (.int 14) (.cons (.int 9) .nil)))) (.cons (.int 2) .nil)))))))) (.call N__law_pick (.cons (.var 0) (.cons (.int 15) (.cons (.int 7) .nil)))))) (.cons (.asg 7 (.call N__law_off_due (.cons (.var 2) (.cons (.var 3) (.cons (.var 4) (.cons (.var 6) .nil)))))) (.cons (.ife (.not (.call N__law_same (.cons (.call N__law_ask (.cons (.int 0) (.cons (.var 2) (.cons (.var 3) (.cons (.var 4) (.cons (.var 6) .nil)))))) (.cons (.tup (.cons (.str N_told) (.cons (.var 7) .nil))) .nil)))) (.cons (.ret (.bl false)) .nil) .nil) (.cons (.ife (.and (.cmp .isnot (.var 7) .non) (.cmp .gt (.call N_window_most (.cons (.var 2) (.cons (.call N__law_with_off (.cons (.var 3) (.cons (.var 7) .nil))) (.cons (.var 4) .nil)))) (.var 6))) (.cons (.ret (.bl false)) .nil) .nil) (.cons (.ife (.and (.cmp .isnot (.var 7) .non) (.cmp .gt (.var 7) (.ix (.var 3) (.int 3)))) (.cons (.ife (.cmp .le (.call N_window_most (.cons (.var 2) (.cons (.call N__law_with_off (.cons (.var 3) (.cons (.bin .sub (.var 7) (.int 1)) .nil))) (.cons (.var 4) .nil)))) (.var 6)) (.cons (.ret (.bl false)) .nil) .nil) .nil) .nil) (.cons (.ret (.call N__law_off_refused (.cons (.var 0) (.cons (.var 2) (.cons (.var 3) (.cons (.var 4) (.cons (.var 6) .nil))))))) .nil)))))))))))
def n42 : List Str := [N_script, N_pair, N_field, N_setting, N_width, N_window, N_count, N_due]
def d42 : FD := ⟨1, 8, b__law_off_holds⟩
/-- _law_spoilt_pair -/
def b__law_spoilt_pair : Ss := (.cons (.asg 2 (.ix (.var 1) (.int 0))) (.cons (.asg 3 (.ix (.var 1) (.int 1))) (.cons (.asg 4 (.lst (.cons (.bi .list (.cons (.var 1) .nil)) (.cons (.tup (.cons (.var 2) .nil)) (.cons (.tup (.cons (.var 2) (.cons (.var 3) (.cons (.int 0) .nil)))) (.cons (.tup (.cons (.var 3) (.cons (.var 2) .nil))) (.cons .non (.cons (.str N_pair) (.cons (.int 3) (.cons (.tup .nil) (.cons (.tup (.cons (.var 2) (.cons .non .nil))) .nil))))))))))) (.cons (.asg 4 (.bin .add (.var 4) (.lst (.cons (.tup (.cons (.tup (.cons (.bin .add (.ix (.var 2) (.int 1)) (.int 1)) (.cons (.ix (.var 2) (.int 1)) (.cons (.ix (.var 2) (.int 2)) .nil)))) (.cons (.var 3) .nil))) (.cons (.tup (.cons (.tup (.cons (.ix (.var 2) (.int 0)) (.cons (.int 1001) (.cons (.ix (.var 2) (.int 2)) .nil)))) (.cons (.var 3) .nil))) .nil))))) (.cons (.asg 4 (.bin .add (.var 4) (.lst (.cons (.tup (.cons (.tup (.cons (.ix (.var 2) (.int 0)) (.cons (.ix (.var 2) (.int 1)) (.cons (.bin .sub (.int 0) (.int 1)) .nil)))) (.cons (.var 3) .nil))) (.cons (.tup (.cons (.bi .list (.cons (.var 2) .nil)) (.cons (.var 3) .nil))) (.cons (.tup (.cons (.var 2) (.cons (.bi .list (.cons (.var 3) .nil)) .nil))) .nil)))))) (.cons (.asg 4 (.bin .add (.var 4) (.lst (.cons (.tup (.cons (.var 2) (.cons (.tup (.cons (.ix (.var 3) (.int 0)) (.cons (.int 1001) (.cons (.ix (.var 3) (.int 2)) (.cons (.ix (.var 3) (.int 3)) .nil))))) .nil))) (.cons (.tup (.cons (.var 2) (.cons (.tup (.cons (.ix (.var 3) (.int 0)) (.cons (.ix (.var 3) (.int 1)) (.cons (.int 101) (.cons (.int 0) .nil))))) .nil))) .nil))))) (.cons (.asg 4 (.bin .add (.var 4) (.lst (.cons (.tup (.cons (.var 2) (.cons (.tup (.cons (.ix (.var 3) (.int 0)) (.cons (.ix (.var 3) (.int 1)) (.cons (.ix (.var 3) (.int 2)) (.cons (.bl true) .nil))))) .nil))) (.cons (.tup (.cons (.tup (.cons (.ix (.var 2) (.int 0)) (.cons (.ix (.var 2) (.int 1)) (.cons (.bl false) .nil)))) (.cons (.var 3) .nil))) .nil))))) (.cons (.ret (.ix (.var 4) (.var 0))) .nil))))))))
def n43 : List Str := [N_choice, N_pair, N_field, N_setting, N_rows]
def d43 : FD := ⟨2, 5, b__law_spoilt_pair⟩
/-- _law_wrong_pairs -/
def b__law_wrong_pairs : Ss := (.cons (.asg 2 (.call N__law_pick (.cons (.var 0) (.cons (.int 22) (.cons (.int 6) .nil))))) (.cons (.asg 3 (.tup (.cons (.tup (.cons (.int 0) (.cons (.int 5) (.cons (.int 1) .nil)))) (.cons (.tup (.cons (.int 3) (.cons (.int 0) (.cons (.int 0) (.cons (.int 0) .nil))))) .nil)))) (.cons (.ife (.cmp .eq (.var 2) (.int 0)) (.cons (.ret (.lst (.cons (.bi .list (.cons (.var 1) .nil)) (.cons (.tup (.cons (.str N_pair) (.cons (.bin .sub (.int 0) (.int 1)) .nil))) .nil)))) .nil) .nil) (.cons (.ife (.cmp .eq (.var 2) (.int 1)) (.cons (.ret (.lst (.cons (.ix (.lst (.cons .non (.cons (.str N_pairs) (.cons (.int 5) (.cons (.lst .nil) .nil))))) (.call N__law_pick (.cons (.var 0) (.cons (.int 23) (.cons (.int 4) .nil))))) (.cons (.tup (.cons (.str N_pair) (.cons (.bin .sub (.int 0) (.int 1)) .nil))) .nil)))) .nil) .nil) (.cons (.asg 4 (.bi .list (.cons (.var 1) .nil))) (.cons (.ife (.cmp .eq (.var 2) (.int 2)) (.cons (.asg 4 (.bin .add (.var 4) (.bin .mul (.lst (.cons (.var 3) .nil)) (.bin .sub (.int 9) (.bi .len (.cons (.var 4) .nil)))))) (.cons (.ife (.cmp .eq (.call N__law_pick (.cons (.var 0) (.cons (.int 23) (.cons (.int 2) .nil)))) (.int 1)) (.cons (.asgix 4 (.int 4) .non) .nil) .nil) (.cons (.ret (.lst (.cons (.bi .tuple (.cons (.var 4) .nil)) (.cons (.tup (.cons (.str N_many) (.cons (.int 8) .nil))) .nil)))) .nil))) .nil) (.cons (.ife (.cmp .eq (.bi .len (.cons (.var 4) .nil)) (.int 0)) (.cons (.app 4 (.var 3)) .nil) .nil) (.cons (.asg 5 (.call N__law_pick (.cons (.var 0) (.cons (.int 23) (.cons (.bi .len (.cons (.var 4) .nil)) .nil))))) (.cons (.asgix 4 (.var 5) (.call N__law_spoilt_pair (.cons (.call N__law_pick (.cons (.var 0) (.cons (.int 24) (.cons (.int 18) .nil)))) (.cons (.ix (.var 4) (.var 5)) .nil)))) (.cons (.ife (.cmp .eq (.call N__law_pick (.cons (.var 0) (.cons (.int 25) (.cons (.int 2) .nil)))) (.int 1)) (.cons (.asgix 4 (.neg (.int 1)) .non) .nil) .nil) (.cons (.ret (.lst (.cons (.bi .tuple (.cons (.var 4) .nil)) (.cons (.tup (.cons (.str N_pair) (.cons (.var 5) .nil))) .nil)))) .nil)))))))))))
def n44 : List Str := [N_script, N_pairs, N_choice, N_extra, N_row, N_at]
def d44 : FD := ⟨2, 6, b__law_wrong_pairs⟩
/-- _law_delays_refused -/
def b__law_delays_refused : Ss := (.cons (.asg 4 (.ix (.lst (.cons (.int 0) (.cons (.int 101) (.cons (.bl true) (.cons .non (.cons (.str N_5) (.cons (.tup (.cons (.int 3) .nil)) (.cons (.bin .pow (.int 10) (.int 6)) (.cons (.bin .sub (.int 0) (.int 1)) (.cons (.lst (.cons (.int 2) .nil)) (.cons (.bl false) .nil))))))))))) (.call N__law_pick (.cons (.var 0) (.cons (.int 26) (.cons (.int 10) .nil)))))) (.cons (.asg 5 (.ix (.lst (.cons (.bin .sub (.int 0) (.int 1)) (.cons (.int 1001) (.cons (.bl true) (.cons .non (.cons (.str N_5) (.cons (.tup (.cons (.int 3) .nil)) (.cons (.bin .pow (.int 10) (.int 6)) (.cons (.lst (.cons (.int 2) .nil)) (.cons (.bl false) .nil)))))))))) (.call N__law_pick (.cons (.var 0) (.cons (.int 27) (.cons (.int 9) .nil)))))) (.cons (.asg 6 (.call N__law_wrong_pairs (.cons (.var 0) (.cons (.var 1) .nil)))) (.cons (.asg 7 (.lst (.cons (.var 2) (.cons (.var 3) .nil)))) (.cons (.ife (.cmp .eq (.call N__law_pick (.cons (.var 0) (.cons (.int 28) (.cons (.int 2) .nil)))) (.int 1)) (.cons (.asg 7 (.lst (.cons (.var 4) (.cons (.var 5) .nil)))) .nil) .nil) (.cons (.ife (.not (.call N__law_same (.cons (.call N__law_ask (.cons (.int 1) (.cons (.ix (.var 6) (.int 0)) (.cons .non (.cons (.ix (.var 7) (.int 0)) (.cons (.ix (.var 7) (.int 1)) .nil)))))) (.cons (.ix (.var 6) (.int 1)) .nil)))) (.cons (.ret (.bl false)) .nil) .nil) (.cons (.ife (.not (.call N__law_same (.cons (.call N__law_ask (.cons (.int 1) (.cons (.var 1) (.cons .non (.cons (.var 4) (.cons (.ix (.var 7) (.int 1)) .nil)))))) (.cons (.tup (.cons (.str N_range) (.cons (.str N_width) .nil))) .nil)))) (.cons (.ret (.bl false)) .nil) .nil) (.cons (.ret (.call N__law_same (.cons (.call N__law_ask (.cons (.int 1) (.cons (.var 1) (.cons .non (.cons (.var 2) (.cons (.var 5) .nil)))))) (.cons (.tup (.cons (.str N_range) (.cons (.str N_limit) .nil))) .nil)))) .nil))))))))
def n45 : List Str := [N_script, N_pairs, N_width, N_limit, N_odd, N_more, N_wrong, N_numbers]
def d45 : FD := ⟨4, 8, b__law_delays_refused⟩
/-- _law_tuned -/
def b__law_tuned : Ss := (.cons (.ret (.bi .tuple (.cons (.lc (.tup (.cons (.ix (.ix (.var 0) (.var 2)) (.int 0)) (.cons (.call N__law_with_off (.cons (.ix (.ix (.var 0) (.var 2)) (.int 1)) (.cons (.ix (.var 1) (.var 2)) .nil))) .nil))) (.nm 2) (.rng1 (.bi .len (.cons (.var 0) .nil))) .none) .nil))) .nil)
def n46 : List Str := [N_pairs, N_offs, N_k]
def d46 : FD := ⟨2, 3, b__law_tuned⟩
def L_law_0 : Ss := (.cons (.asg 6 (.ix (.lst (.cons (.int 2) (.cons (.int 3) (.cons (.int 2) (.cons (.int 1) (.cons (.int 2) (.cons (.int 3) (.cons (.int 2) (.cons (.int 0) .nil))))))))) (.call N__law_pick (.cons (.var 0) (.cons (.bin .add (.int 32) (.var 5)) (.cons (.int 8) .nil)))))) (.cons (.app 4 (.call N__law_case (.cons (.call N__law_cell (.cons (.var 0) (.cons (.bin .add (.int 2) (.var 5)) .nil))) (.cons (.var 6) .nil)))) .nil))
/-- law -/
def b_law : Ss := (.cons (.asg 1 (.ix (.lst (.cons (.int 1) (.cons (.int 2) (.cons (.int 3) (.cons (.int 2) (.cons (.int 4) (.cons (.int 0) (.cons (.int 1) (.cons (.int 3) (.cons (.int 5) (.cons (.int 2) (.cons (.int 8) (.cons (.int 6) (.cons (.int 3) (.cons (.int 1) (.cons (.int 2) (.cons (.int 7) .nil))))))))))))))))) (.call N__law_pick (.cons (.var 0) (.cons (.int 0) (.cons (.int 16) .nil)))))) (.cons (.asg 2 (.bin .add (.int 1) (.call N__law_pick (.cons (.var 0) (.cons (.int 1) (.cons (.int 30) .nil)))))) (.cons (.asg 3 (.call N__law_pick (.cons (.var 0) (.cons (.int 30) (.cons (.int 12) .nil))))) (.cons (.ife (.cmp .lt (.var 3) (.int 3)) (.cons (.asg 2 (.ix (.lst (.cons (.int 1) (.cons (.int 100) (.cons (.bin .add (.int 1) (.call N__law_pick (.cons (.var 0) (.cons (.int 1) (.cons (.int 100) .nil))))) .nil)))) (.var 3))) (.cons (.asg 1 (.bi .min (.cons (.var 1) (.cons (.int 2) .nil)))) .nil)) .nil) (.cons (.asg 4 (.lst .nil)) (.cons (.for_ (.nm 5) (.rng1 (.var 1)) L_law_0) (.cons (.asg 4 (.bi .tuple (.cons (.var 4) .nil))) (.cons (.asg 7 (.lc (.call N__law_window (.cons (.ix (.var 8) (.int 0)) (.cons (.ix (.var 8) (.int 1)) (.cons (.var 2) .nil)))) (.nm 8) (.it (.var 4)) .none)) (.cons (.asg 9 (.bi .len (.cons (.lc (.var 10) (.nm 10) (.it (.var 7)) (.some (.cmp .gt (.var 10) (.int 0)))) .nil))) (.cons (.asg 11 (.call N__law_pick (.cons (.var 0) (.cons (.int 31) (.cons (.bin .add (.bi .sum (.cons (.var 7) .nil)) (.int 2)) .nil))))) (.cons (.asg 12 (.ix (.lst (.cons (.var 11) (.cons (.var 11) (.cons (.int 0) (.cons (.int 1000) (.cons (.var 9) (.cons (.bi .max (.cons (.int 0) (.cons (.bin .sub (.var 9) (.int 1)) .nil))) (.cons (.bi .sum (.cons (.var 7) .nil)) (.cons (.var 11) .nil))))))))) (.call N__law_pick (.cons (.var 0) (.cons (.int 21) (.cons (.int 8) .nil)))))) (.cons (.asg 13 .non) (.cons (.ife (.cmp .le (.var 9) (.var 12)) (.cons (.asg 13 (.call N__law_delays_due (.cons (.var 4) (.cons (.var 2) (.cons (.var 12) .nil))))) .nil) .nil) (.cons (.asg 14 (.call N__law_ask (.cons (.int 1) (.cons (.var 4) (.cons .non (.cons (.var 2) (.cons (.var 12) .nil))))))) (.cons (.ife (.not (.call N__law_same (.cons (.var 14) (.cons (.tup (.cons (.str N_told) (.cons (.var 13) .nil))) .nil)))) (.cons (.ret (.bl false)) .nil) .nil) (.cons (.ife (.cmp .isnot (.var 13) .non) (.cons (.asg 15 (.call N__law_tuned (.cons (.var 4) (.cons (.ix (.var 13) (.int 1)) .nil)))) (.cons (.ife (.cmp .gt (.bi .sum (.cons (.lc (.call N_window_most (.cons (.ix (.var 8) (.int 0)) (.cons (.ix (.var 8) (.int 1)) (.cons (.var 2) .nil)))) (.nm 8) (.it (.var 15)) .none) .nil)) (.var 12)) (.cons (.ret (.bl false)) .nil) .nil) (.cons (.ife (.cmp .gt (.ix (.call N_most_total (.cons (.var 15) (.cons (.var 2) .nil))) (.int 0)) (.var 12)) (.cons (.ret (.bl false)) .nil) .nil) .nil))) .nil) (.cons (.ife (.not (.call N__law_off_holds (.cons (.var 0) .nil))) (.cons (.ret (.bl false)) .nil) .nil) (.cons (.ife (.not (.call N__law_delays_refused (.cons (.var 0) (.cons (.var 4) (.cons (.var 2) (.cons (.var 12) .nil)))))) (.cons (.ret (.bl false)) .nil) .nil) (.cons (.ret (.call N__law_same (.cons (.call N__law_ask (.cons (.int 1) (.cons (.var 4) (.cons .non (.cons (.var 2) (.cons (.var 12) .nil)))))) (.cons (.tup (.cons (.str N_told) (.cons (.var 13) .nil))) .nil)))) .nil)))))))))))))))))))
def n47 : List Str := [N_script, N_many, N_width, N_choice, N_pairs, N_k, N_shape, N_mosts, N_pair, N_loud, N_most, N_any_limit, N_limit, N_due, N_answer, N_tuned]
def d47 : FD := ⟨1, 16, b_law⟩
def tab : Tb where
  fns := [(N_is_integer, d0), (N_is_number, d1), (N_check_number, d2), (N_is_field, d3), (N_is_setting, d4), (N_check_field, d5), (N_check_setting, d6), (N_check_pairs, d7), (N_kind_of, d8), (N_fall_ticks, d9), (N_gap_of, d10), (N_window_most, d11), (N_wave_value, d12), (N_value_at, d13), (N_signal_from, d14), (N_off_for, d15), (N_least_off, d16), (N_choices_of, d17), (N_best_choice, d18), (N_sum_rows, d19), (N_least_delays, d20), (N_most_from, d21), (N_total_from, d22), (N_crowded_signal, d23), (N_most_total, d24), (N__law_cell, d25), (N__law_pick, d26), (N__law_row, d27), (N__law_is_integer, d28), (N__law_same, d29), (N__law_case, d30), (N__law_kind, d31), (N__law_gap, d32), (N__law_window, d33), (N__law_with_off, d34), (N__law_options, d35), (N__law_off_due, d36), (N__law_delays_due, d37), (N__law_ask, d38), (N__law_wrong_field, d39), (N__law_wrong_setting, d40), (N__law_off_refused, d41), (N__law_off_holds, d42), (N__law_spoilt_pair, d43), (N__law_wrong_pairs, d44), (N__law_delays_refused, d45), (N__law_tuned, d46), (N_law, d47)]
  cons := [(N_MOST_VALUE, .int 1000), (N_MOST_DELAY, .int 100), (N_MOST_PAIRS, .int 8), (N_MOST_WIDTH, .int 100), (N_MOST_COUNT, .int 100), (N_MOST_LIMIT, .int 1000)]
  exs := [(N_AlarmError, [], [N_AlarmError, N_ValueError]), (N_InvalidField, [], [N_InvalidField, N_AlarmError, N_ValueError]), (N_InvalidSetting, [], [N_InvalidSetting, N_AlarmError, N_ValueError]), (N_TooMany, [N_bound], [N_TooMany, N_AlarmError, N_ValueError]), (N_OutOfRange, [N_word], [N_OutOfRange, N_AlarmError, N_ValueError]), (N_InvalidPair, [N_position], [N_InvalidPair, N_AlarmError, N_ValueError])]
  mths := []
  frs := [N_ValueError, N_bool, N_int, N_isinstance, N_len, N_list, N_max, N_min, N_range, N_reversed, N_str, N_sum, N_super, N_tuple]
  cls := []
  tops := [N_is_integer, N_is_number, N_check_number, N_is_field, N_is_setting, N_check_field, N_check_setting, N_check_pairs, N_kind_of, N_fall_ticks, N_gap_of, N_window_most, N_wave_value, N_value_at, N_signal_from, N_off_for, N_least_off, N_choices_of, N_best_choice, N_sum_rows, N_least_delays, N_most_from, N_total_from, N_crowded_signal, N_most_total, N__law_cell, N__law_pick, N__law_row, N__law_is_integer, N__law_same, N__law_case, N__law_kind, N__law_gap, N__law_window, N__law_with_off, N__law_options, N__law_off_due, N__law_delays_due, N__law_ask, N__law_wrong_field, N__law_wrong_setting, N__law_off_refused, N__law_off_holds, N__law_spoilt_pair, N__law_wrong_pairs, N__law_delays_refused, N__law_tuned, N_law]
  hots := []
  nfs := [N_bound, N_position, N_word]
theorem c_is_integer (n : Nat) (x0 : D) : callD tab.g (n + 1) N_is_integer [x0] = endR (exs tab.g (cal tab.g n) b_is_integer [some (.sh, x0)]) := by kernel_rfl
theorem c_is_number (n : Nat) (x0 x1 x2 : D) : callD tab.g (n + 1) N_is_number [x0, x1, x2] = endR (exs tab.g (cal tab.g n) b_is_number [some (.sh, x0), some (.sh, x1), some (.sh, x2)]) := by kernel_rfl
theorem c_check_number (n : Nat) (x0 x1 x2 x3 : D) : callD tab.g (n + 1) N_check_number [x0, x1, x2, x3] = endR (exs tab.g (cal tab.g n) b_check_number [some (.sh, x0), some (.sh, x1), some (.sh, x2), some (.sh, x3)]) := by kernel_rfl
theorem c_is_field (n : Nat) (x0 : D) : callD tab.g (n + 1) N_is_field [x0] = endR (exs tab.g (cal tab.g n) b_is_field [some (.sh, x0), none, none, none]) := by kernel_rfl
theorem c_is_setting (n : Nat) (x0 : D) : callD tab.g (n + 1) N_is_setting [x0] = endR (exs tab.g (cal tab.g n) b_is_setting [some (.sh, x0), none, none, none, none]) := by kernel_rfl
theorem c_check_field (n : Nat) (x0 : D) : callD tab.g (n + 1) N_check_field [x0] = endR (exs tab.g (cal tab.g n) b_check_field [some (.sh, x0)]) := by kernel_rfl
theorem c_check_setting (n : Nat) (x0 : D) : callD tab.g (n + 1) N_check_setting [x0] = endR (exs tab.g (cal tab.g n) b_check_setting [some (.sh, x0)]) := by kernel_rfl
theorem c_check_pairs (n : Nat) (x0 : D) : callD tab.g (n + 1) N_check_pairs [x0] = endR (exs tab.g (cal tab.g n) b_check_pairs [some (.sh, x0), none, none]) := by kernel_rfl
theorem c_kind_of (n : Nat) (x0 x1 : D) : callD tab.g (n + 1) N_kind_of [x0, x1] = endR (exs tab.g (cal tab.g n) b_kind_of [some (.sh, x0), some (.sh, x1), none, none, none]) := by kernel_rfl
theorem c_fall_ticks (n : Nat) (x0 x1 : D) : callD tab.g (n + 1) N_fall_ticks [x0, x1] = endR (exs tab.g (cal tab.g n) b_fall_ticks [some (.sh, x0), some (.sh, x1), none]) := by kernel_rfl
theorem c_gap_of (n : Nat) (x0 x1 : D) : callD tab.g (n + 1) N_gap_of [x0, x1] = endR (exs tab.g (cal tab.g n) b_gap_of [some (.sh, x0), some (.sh, x1)]) := by kernel_rfl
theorem c_window_most (n : Nat) (x0 x1 x2 : D) : callD tab.g (n + 1) N_window_most [x0, x1, x2] = endR (exs tab.g (cal tab.g n) b_window_most [some (.sh, x0), some (.sh, x1), some (.sh, x2), none]) := by kernel_rfl
theorem c_wave_value (n : Nat) (x0 x1 x2 : D) : callD tab.g (n + 1) N_wave_value [x0, x1, x2] = endR (exs tab.g (cal tab.g n) b_wave_value [some (.sh, x0), some (.sh, x1), some (.sh, x2), none, none, none, none]) := by kernel_rfl
theorem c_value_at (n : Nat) (x0 x1 x2 x3 x4 : D) : callD tab.g (n + 1) N_value_at [x0, x1, x2, x3, x4] = endR (exs tab.g (cal tab.g n) b_value_at [some (.sh, x0), some (.sh, x1), some (.sh, x2), some (.sh, x3), some (.sh, x4), none]) := by kernel_rfl
theorem c_signal_from (n : Nat) (x0 x1 x2 x3 : D) : callD tab.g (n + 1) N_signal_from [x0, x1, x2, x3] = endR (exs tab.g (cal tab.g n) b_signal_from [some (.sh, x0), some (.sh, x1), some (.sh, x2), some (.sh, x3), none, none]) := by kernel_rfl
theorem c_off_for (n : Nat) (x0 x1 x2 x3 : D) : callD tab.g (n + 1) N_off_for [x0, x1, x2, x3] = endR (exs tab.g (cal tab.g n) b_off_for [some (.sh, x0), some (.sh, x1), some (.sh, x2), some (.sh, x3), none]) := by kernel_rfl
theorem c_least_off (n : Nat) (x0 x1 x2 x3 : D) : callD tab.g (n + 1) N_least_off [x0, x1, x2, x3] = endR (exs tab.g (cal tab.g n) b_least_off [some (.sh, x0), some (.sh, x1), some (.sh, x2), some (.sh, x3), none]) := by kernel_rfl
theorem c_choices_of (n : Nat) (x0 x1 x2 : D) : callD tab.g (n + 1) N_choices_of [x0, x1, x2] = endR (exs tab.g (cal tab.g n) b_choices_of [some (.sh, x0), some (.sh, x1), some (.sh, x2), none, none]) := by kernel_rfl
theorem c_best_choice (n : Nat) (x0 x1 x2 : D) : callD tab.g (n + 1) N_best_choice [x0, x1, x2] = endR (exs tab.g (cal tab.g n) b_best_choice [some (.sh, x0), some (.sh, x1), some (.sh, x2), none, none, none]) := by kernel_rfl
theorem c_sum_rows (n : Nat) (x0 x1 : D) : callD tab.g (n + 1) N_sum_rows [x0, x1] = endR (exs tab.g (cal tab.g n) b_sum_rows [some (.sh, x0), some (.sh, x1), none, none, none, none, none]) := by kernel_rfl
theorem c_least_delays (n : Nat) (x0 x1 x2 : D) : callD tab.g (n + 1) N_least_delays [x0, x1, x2] = endR (exs tab.g (cal tab.g n) b_least_delays [some (.sh, x0), some (.sh, x1), some (.sh, x2), none, none, none, none, none, none, none, none, none, none]) := by kernel_rfl
theorem c_most_from (n : Nat) (x0 x1 x2 x3 : D) : callD tab.g (n + 1) N_most_from [x0, x1, x2, x3] = endR (exs tab.g (cal tab.g n) b_most_from [some (.sh, x0), some (.sh, x1), some (.sh, x2), some (.sh, x3), none, none, none]) := by kernel_rfl
theorem c_total_from (n : Nat) (x0 x1 x2 : D) : callD tab.g (n + 1) N_total_from [x0, x1, x2] = endR (exs tab.g (cal tab.g n) b_total_from [some (.sh, x0), some (.sh, x1), some (.sh, x2), none, none]) := by kernel_rfl
theorem c_crowded_signal (n : Nat) (x0 x1 x2 x3 : D) : callD tab.g (n + 1) N_crowded_signal [x0, x1, x2, x3] = endR (exs tab.g (cal tab.g n) b_crowded_signal [some (.sh, x0), some (.sh, x1), some (.sh, x2), some (.sh, x3)]) := by kernel_rfl
theorem c_most_total (n : Nat) (x0 x1 : D) : callD tab.g (n + 1) N_most_total [x0, x1] = endR (exs tab.g (cal tab.g n) b_most_total [some (.sh, x0), some (.sh, x1), none, none, none, none, none, none, none, none]) := by kernel_rfl
theorem c__law_cell (n : Nat) (x0 x1 : D) : callD tab.g (n + 1) N__law_cell [x0, x1] = endR (exs tab.g (cal tab.g n) b__law_cell [some (.sh, x0), some (.sh, x1)]) := by kernel_rfl
theorem c__law_pick (n : Nat) (x0 x1 x2 : D) : callD tab.g (n + 1) N__law_pick [x0, x1, x2] = endR (exs tab.g (cal tab.g n) b__law_pick [some (.sh, x0), some (.sh, x1), some (.sh, x2)]) := by kernel_rfl
theorem c__law_row (n : Nat) (x0 x1 x2 : D) : callD tab.g (n + 1) N__law_row [x0, x1, x2] = endR (exs tab.g (cal tab.g n) b__law_row [some (.sh, x0), some (.sh, x1), some (.sh, x2), none, none, none, none, none]) := by kernel_rfl
theorem c__law_is_integer (n : Nat) (x0 : D) : callD tab.g (n + 1) N__law_is_integer [x0] = endR (exs tab.g (cal tab.g n) b__law_is_integer [some (.sh, x0)]) := by kernel_rfl
theorem c__law_same (n : Nat) (x0 x1 : D) : callD tab.g (n + 1) N__law_same [x0, x1] = endR (exs tab.g (cal tab.g n) b__law_same [some (.sh, x0), some (.sh, x1), none]) := by kernel_rfl
theorem c__law_case (n : Nat) (x0 x1 : D) : callD tab.g (n + 1) N__law_case [x0, x1] = endR (exs tab.g (cal tab.g n) b__law_case [some (.sh, x0), some (.sh, x1), none, none, none, none, none, none, none, none]) := by kernel_rfl
theorem c__law_kind (n : Nat) (x0 x1 : D) : callD tab.g (n + 1) N__law_kind [x0, x1] = endR (exs tab.g (cal tab.g n) b__law_kind [some (.sh, x0), some (.sh, x1)]) := by kernel_rfl
theorem c__law_gap (n : Nat) (x0 x1 : D) : callD tab.g (n + 1) N__law_gap [x0, x1] = endR (exs tab.g (cal tab.g n) b__law_gap [some (.sh, x0), some (.sh, x1), none]) := by kernel_rfl
theorem c__law_window (n : Nat) (x0 x1 x2 : D) : callD tab.g (n + 1) N__law_window [x0, x1, x2] = endR (exs tab.g (cal tab.g n) b__law_window [some (.sh, x0), some (.sh, x1), some (.sh, x2), none]) := by kernel_rfl
theorem c__law_with_off (n : Nat) (x0 x1 : D) : callD tab.g (n + 1) N__law_with_off [x0, x1] = endR (exs tab.g (cal tab.g n) b__law_with_off [some (.sh, x0), some (.sh, x1)]) := by kernel_rfl
theorem c__law_options (n : Nat) (x0 x1 x2 : D) : callD tab.g (n + 1) N__law_options [x0, x1, x2] = endR (exs tab.g (cal tab.g n) b__law_options [some (.sh, x0), some (.sh, x1), some (.sh, x2), none, none, none]) := by kernel_rfl
theorem c__law_off_due (n : Nat) (x0 x1 x2 x3 : D) : callD tab.g (n + 1) N__law_off_due [x0, x1, x2, x3] = endR (exs tab.g (cal tab.g n) b__law_off_due [some (.sh, x0), some (.sh, x1), some (.sh, x2), some (.sh, x3), none]) := by kernel_rfl
theorem c__law_delays_due (n : Nat) (x0 x1 x2 : D) : callD tab.g (n + 1) N__law_delays_due [x0, x1, x2] = endR (exs tab.g (cal tab.g n) b__law_delays_due [some (.sh, x0), some (.sh, x1), some (.sh, x2), none, none, none, none, none, none, none, none, none, none]) := by kernel_rfl
theorem c__law_ask (n : Nat) (x0 x1 x2 x3 x4 : D) : callD tab.g (n + 1) N__law_ask [x0, x1, x2, x3, x4] = endR (exs tab.g (cal tab.g n) b__law_ask [some (.sh, x0), some (.sh, x1), some (.sh, x2), some (.sh, x3), some (.sh, x4), none, none, none]) := by kernel_rfl
theorem c__law_wrong_field (n : Nat) (x0 x1 : D) : callD tab.g (n + 1) N__law_wrong_field [x0, x1] = endR (exs tab.g (cal tab.g n) b__law_wrong_field [some (.sh, x0), some (.sh, x1), none, none, none, none]) := by kernel_rfl
theorem c__law_wrong_setting (n : Nat) (x0 x1 : D) : callD tab.g (n + 1) N__law_wrong_setting [x0, x1] = endR (exs tab.g (cal tab.g n) b__law_wrong_setting [some (.sh, x0), some (.sh, x1), none, none, none, none, none]) := by kernel_rfl
theorem c__law_off_refused (n : Nat) (x0 x1 x2 x3 x4 : D) : callD tab.g (n + 1) N__law_off_refused [x0, x1, x2, x3, x4] = endR (exs tab.g (cal tab.g n) b__law_off_refused [some (.sh, x0), some (.sh, x1), some (.sh, x2), some (.sh, x3), some (.sh, x4), none, none, none, none, none, none]) := by kernel_rfl
theorem c__law_off_holds (n : Nat) (x0 : D) : callD tab.g (n + 1) N__law_off_holds [x0] = endR (exs tab.g (cal tab.g n) b__law_off_holds [some (.sh, x0), none, none, none, none, none, none, none]) := by kernel_rfl
theorem c__law_spoilt_pair (n : Nat) (x0 x1 : D) : callD tab.g (n + 1) N__law_spoilt_pair [x0, x1] = endR (exs tab.g (cal tab.g n) b__law_spoilt_pair [some (.sh, x0), some (.sh, x1), none, none, none]) := by kernel_rfl
theorem c__law_wrong_pairs (n : Nat) (x0 x1 : D) : callD tab.g (n + 1) N__law_wrong_pairs [x0, x1] = endR (exs tab.g (cal tab.g n) b__law_wrong_pairs [some (.sh, x0), some (.sh, x1), none, none, none, none]) := by kernel_rfl
theorem c__law_delays_refused (n : Nat) (x0 x1 x2 x3 : D) : callD tab.g (n + 1) N__law_delays_refused [x0, x1, x2, x3] = endR (exs tab.g (cal tab.g n) b__law_delays_refused [some (.sh, x0), some (.sh, x1), some (.sh, x2), some (.sh, x3), none, none, none, none]) := by kernel_rfl
theorem c__law_tuned (n : Nat) (x0 x1 : D) : callD tab.g (n + 1) N__law_tuned [x0, x1] = endR (exs tab.g (cal tab.g n) b__law_tuned [some (.sh, x0), some (.sh, x1), none]) := by kernel_rfl
theorem c_law (n : Nat) (x0 : D) : callD tab.g (n + 1) N_law [x0] = endR (exs tab.g (cal tab.g n) b_law [some (.sh, x0), none, none, none, none, none, none, none, none, none, none, none, none, none, none, none]) := by kernel_rfl
@[simp] theorem con_MOST_VALUE : tab.g.con N_MOST_VALUE = some (.int 1000) := by kernel_rfl
@[simp] theorem con_MOST_DELAY : tab.g.con N_MOST_DELAY = some (.int 100) := by kernel_rfl
@[simp] theorem con_MOST_PAIRS : tab.g.con N_MOST_PAIRS = some (.int 8) := by kernel_rfl
@[simp] theorem con_MOST_WIDTH : tab.g.con N_MOST_WIDTH = some (.int 100) := by kernel_rfl
@[simp] theorem con_MOST_COUNT : tab.g.con N_MOST_COUNT = some (.int 100) := by kernel_rfl
@[simp] theorem con_MOST_LIMIT : tab.g.con N_MOST_LIMIT = some (.int 1000) := by kernel_rfl
@[simp] theorem exf_AlarmError : tab.g.exf N_AlarmError = some [] := by kernel_rfl
@[simp] theorem sub_AlarmError_AlarmError : tab.g.sub N_AlarmError N_AlarmError = true := by kernel_rfl
@[simp] theorem sub_AlarmError_InvalidField : tab.g.sub N_AlarmError N_InvalidField = false := by kernel_rfl
@[simp] theorem sub_AlarmError_InvalidSetting : tab.g.sub N_AlarmError N_InvalidSetting = false := by kernel_rfl
@[simp] theorem sub_AlarmError_TooMany : tab.g.sub N_AlarmError N_TooMany = false := by kernel_rfl
@[simp] theorem sub_AlarmError_OutOfRange : tab.g.sub N_AlarmError N_OutOfRange = false := by kernel_rfl
@[simp] theorem sub_AlarmError_InvalidPair : tab.g.sub N_AlarmError N_InvalidPair = false := by kernel_rfl
@[simp] theorem sub_AlarmError_ValueError : tab.g.sub N_AlarmError N_ValueError = true := by kernel_rfl
@[simp] theorem exf_InvalidField : tab.g.exf N_InvalidField = some [] := by kernel_rfl
@[simp] theorem sub_InvalidField_AlarmError : tab.g.sub N_InvalidField N_AlarmError = true := by kernel_rfl
@[simp] theorem sub_InvalidField_InvalidField : tab.g.sub N_InvalidField N_InvalidField = true := by kernel_rfl
@[simp] theorem sub_InvalidField_InvalidSetting : tab.g.sub N_InvalidField N_InvalidSetting = false := by kernel_rfl
@[simp] theorem sub_InvalidField_TooMany : tab.g.sub N_InvalidField N_TooMany = false := by kernel_rfl
@[simp] theorem sub_InvalidField_OutOfRange : tab.g.sub N_InvalidField N_OutOfRange = false := by kernel_rfl
@[simp] theorem sub_InvalidField_InvalidPair : tab.g.sub N_InvalidField N_InvalidPair = false := by kernel_rfl
@[simp] theorem sub_InvalidField_ValueError : tab.g.sub N_InvalidField N_ValueError = true := by kernel_rfl
@[simp] theorem exf_InvalidSetting : tab.g.exf N_InvalidSetting = some [] := by kernel_rfl
@[simp] theorem sub_InvalidSetting_AlarmError : tab.g.sub N_InvalidSetting N_AlarmError = true := by kernel_rfl
@[simp] theorem sub_InvalidSetting_InvalidField : tab.g.sub N_InvalidSetting N_InvalidField = false := by kernel_rfl
@[simp] theorem sub_InvalidSetting_InvalidSetting : tab.g.sub N_InvalidSetting N_InvalidSetting = true := by kernel_rfl
@[simp] theorem sub_InvalidSetting_TooMany : tab.g.sub N_InvalidSetting N_TooMany = false := by kernel_rfl
@[simp] theorem sub_InvalidSetting_OutOfRange : tab.g.sub N_InvalidSetting N_OutOfRange = false := by kernel_rfl
@[simp] theorem sub_InvalidSetting_InvalidPair : tab.g.sub N_InvalidSetting N_InvalidPair = false := by kernel_rfl
@[simp] theorem sub_InvalidSetting_ValueError : tab.g.sub N_InvalidSetting N_ValueError = true := by kernel_rfl
@[simp] theorem exf_TooMany : tab.g.exf N_TooMany = some [N_bound] := by kernel_rfl
@[simp] theorem sub_TooMany_AlarmError : tab.g.sub N_TooMany N_AlarmError = true := by kernel_rfl
@[simp] theorem sub_TooMany_InvalidField : tab.g.sub N_TooMany N_InvalidField = false := by kernel_rfl
@[simp] theorem sub_TooMany_InvalidSetting : tab.g.sub N_TooMany N_InvalidSetting = false := by kernel_rfl
@[simp] theorem sub_TooMany_TooMany : tab.g.sub N_TooMany N_TooMany = true := by kernel_rfl
@[simp] theorem sub_TooMany_OutOfRange : tab.g.sub N_TooMany N_OutOfRange = false := by kernel_rfl
@[simp] theorem sub_TooMany_InvalidPair : tab.g.sub N_TooMany N_InvalidPair = false := by kernel_rfl
@[simp] theorem sub_TooMany_ValueError : tab.g.sub N_TooMany N_ValueError = true := by kernel_rfl
@[simp] theorem exf_OutOfRange : tab.g.exf N_OutOfRange = some [N_word] := by kernel_rfl
@[simp] theorem sub_OutOfRange_AlarmError : tab.g.sub N_OutOfRange N_AlarmError = true := by kernel_rfl
@[simp] theorem sub_OutOfRange_InvalidField : tab.g.sub N_OutOfRange N_InvalidField = false := by kernel_rfl
@[simp] theorem sub_OutOfRange_InvalidSetting : tab.g.sub N_OutOfRange N_InvalidSetting = false := by kernel_rfl
@[simp] theorem sub_OutOfRange_TooMany : tab.g.sub N_OutOfRange N_TooMany = false := by kernel_rfl
@[simp] theorem sub_OutOfRange_OutOfRange : tab.g.sub N_OutOfRange N_OutOfRange = true := by kernel_rfl
@[simp] theorem sub_OutOfRange_InvalidPair : tab.g.sub N_OutOfRange N_InvalidPair = false := by kernel_rfl
@[simp] theorem sub_OutOfRange_ValueError : tab.g.sub N_OutOfRange N_ValueError = true := by kernel_rfl
@[simp] theorem exf_InvalidPair : tab.g.exf N_InvalidPair = some [N_position] := by kernel_rfl
@[simp] theorem sub_InvalidPair_AlarmError : tab.g.sub N_InvalidPair N_AlarmError = true := by kernel_rfl
@[simp] theorem sub_InvalidPair_InvalidField : tab.g.sub N_InvalidPair N_InvalidField = false := by kernel_rfl
@[simp] theorem sub_InvalidPair_InvalidSetting : tab.g.sub N_InvalidPair N_InvalidSetting = false := by kernel_rfl
@[simp] theorem sub_InvalidPair_TooMany : tab.g.sub N_InvalidPair N_TooMany = false := by kernel_rfl
@[simp] theorem sub_InvalidPair_OutOfRange : tab.g.sub N_InvalidPair N_OutOfRange = false := by kernel_rfl
@[simp] theorem sub_InvalidPair_InvalidPair : tab.g.sub N_InvalidPair N_InvalidPair = true := by kernel_rfl
@[simp] theorem sub_InvalidPair_ValueError : tab.g.sub N_InvalidPair N_ValueError = true := by kernel_rfl
end Lw

set_option maxHeartbeats 1000000
namespace Lw
open PySem S2
/-- a value that isinstance may be asked of -/
def okV : D → Bool
  | .dct _ _ => false
  | .ob _ _ _ => false
  | _ => true
def isInt : D → Bool
  | .int _ => true
  | _ => false
@[simp] theorem okV_non : okV .non = true := (rfl)
@[simp] theorem okV_bl (b : Bool) : okV (.bl b) = true := (rfl)
@[simp] theorem okV_int (b : Int) : okV (.int b) = true := (rfl)
@[simp] theorem okV_str (b : Str) : okV (.str b) = true := (rfl)
@[simp] theorem okV_tup (b : List D) : okV (.tup b) = true := (rfl)
@[simp] theorem okV_lst (b : List D) : okV (.lst b) = true := (rfl)
@[simp] theorem okV_scr (b : List Int) : okV (.scr b) = true := (rfl)
@[simp] theorem okV_dct (a b : List D) : okV (.dct a b) = false := (rfl)
@[simp] theorem okV_ob (a : Str) (b : List Str) (c : List D) : okV (.ob a b c) = false := (rfl)
@[simp] theorem isInt_non : isInt .non = false := (rfl)
@[simp] theorem isInt_bl (b : Bool) : isInt (.bl b) = false := (rfl)
@[simp] theorem isInt_int (b : Int) : isInt (.int b) = true := (rfl)
@[simp] theorem isInt_str (b : Str) : isInt (.str b) = false := (rfl)
@[simp] theorem isInt_tup (b : List D) : isInt (.tup b) = false := (rfl)
@[simp] theorem isInt_lst (b : List D) : isInt (.lst b) = false := (rfl)
@[simp] theorem isInt_scr (b : List Int) : isInt (.scr b) = false := (rfl)
theorem is_integer_ok (n : Nat) (v : D) (h : okV v = true) : callD tab.g (n + 1) N_is_integer [v] = .ok (.sh, .bl (isInt v)) := by
  rw [c_is_integer, b_is_integer]
  cases v <;> simp at h <;> simp
theorem law_is_integer_ok (n : Nat) (v : D) (h : okV v = true) : callD tab.g (n + 1) N__law_is_integer [v] = .ok (.sh, .bl (isInt v)) := by
  rw [c__law_is_integer, b__law_is_integer]
  cases v <;> simp at h <;> simp
def inB (v : D) (a b : Int) : Bool := match v with
  | .int i => decide (a ≤ i) && decide (i ≤ b)
  | _ => false
theorem inB_int (i a b : Int) : inB (.int i) a b = (decide (a ≤ i) && decide (i ≤ b)) := (rfl)
theorem inB_of {v : D} {a b : Int} (h : inB v a b = true) : ∃ i, v = .int i ∧ a ≤ i ∧ i ≤ b := by
  cases v <;> simp [inB] at h
  exact ⟨_, rfl, h.1, h.2⟩
theorem is_number_ok (n : Nat) (v : D) (a b : Int) (h : okV v = true) : callD tab.g (n + 2) N_is_number [v, .int a, .int b] = .ok (.sh, .bl (inB v a b)) := by
  rw [c_is_number, b_is_number]
  cases v <;> simp at h <;> simp [is_integer_ok, inB]
  rename_i i
  by_cases h1 : a ≤ i <;> simp [h1]
/-- a value whose items may be asked of, too -/
def sv : D → Bool
  | .dct _ _ => false
  | .ob _ _ _ => false
  | .tup l => l.all okV
  | _ => true
def fieldB : D → Bool
  | .tup [a, b, c] => inB a (-1000) 1000 && (match a with | .int i => inB b i 1000 && inB c 0 1000 | _ => false)
  | _ => false
theorem is_field_ok (n : Nat) (v : D) (h : sv v = true) : callD tab.g (n + 3) N_is_field [v] = .ok (.sh, .bl (fieldB v)) := by
  rw [c_is_field, b_is_field]
  cases v with
  | tup l =>
    have h : l.all okV = true := h
    match l, h with
    | [], _ => simp [fieldB]
    | [a], _ => simp [fieldB]
    | [a, b], _ => simp [fieldB]
    | [a, b, c], h =>
      simp at h
      obtain ⟨h1, h2, h3⟩ := h
      cases e : inB a (-1000) 1000 with
      | false => simp [fieldB, is_number_ok, h1, h2, h3, e]
      | true =>
        obtain ⟨i, rfl, _, _⟩ := inB_of e
        cases e2 : inB b i 1000 <;> simp [fieldB, is_number_ok, h1, h2, h3, e, e2]
    | a :: b :: c :: d :: r, _ =>
      have e : ¬ ((r.length : Int) + 1 + 1 + 1 + 1 = 3) := by omega
      simp [fieldB, e]
  | _ => first | (exact absurd h Bool.false_ne_true) | simp [fieldB]
def settingB : D → Bool
  | .tup [a, b, c, d] => inB a (-1000) 1000 && (inB b 0 1000 && (inB c 0 100 && inB d 0 100))
  | _ => false
theorem is_setting_ok (n : Nat) (v : D) (h : sv v = true) : callD tab.g (n + 3) N_is_setting [v] = .ok (.sh, .bl (settingB v)) := by
  rw [c_is_setting, b_is_setting]
  cases v with
  | tup l =>
    have h : l.all okV = true := h
    match l, h with
    | [], _ => simp [settingB]
    | [a], _ => simp [settingB]
    | [a, b], _ => simp [settingB]
    | [a, b, c], _ => simp [settingB]
    | [a, b, c, d], h =>
      simp at h
      obtain ⟨h1, h2, h3, h4⟩ := h
      cases e : inB a (-1000) 1000 <;> cases e2 : inB b 0 1000 <;> cases e3 : inB c 0 100 <;> simp [settingB, is_number_ok, h1, h2, h3, h4, e, e2, e3]
    | a :: b :: c :: d :: x :: r, _ =>
      have e : ¬ ((r.length : Int) + 1 + 1 + 1 + 1 + 1 = 4) := by omega
      simp [settingB, e]
  | _ => first | (exact absurd h Bool.false_ne_true) | simp [settingB]
theorem check_field_ok (n : Nat) (v : D) (h : sv v = true) : callD tab.g (n + 4) N_check_field [v] = if fieldB v = true then .ok (.sh, .non) else .exc (.ob N_InvalidField [] []) := by
  rw [c_check_field, b_check_field]
  cases e : fieldB v <;> simp [is_field_ok, h, e]
theorem check_setting_ok (n : Nat) (v : D) (h : sv v = true) : callD tab.g (n + 4) N_check_setting [v] = if settingB v = true then .ok (.sh, .non) else .exc (.ob N_InvalidSetting [] []) := by
  rw [c_check_setting, b_check_setting]
  cases e : settingB v <;> simp [is_setting_ok, h, e]
/-! the script -/
theorem cell_ok (n : Nat) (ns : List Int) (k : Int) (hk : 0 ≤ k) : ∃ i, callD tab.g (n + 1) N__law_cell [.scr ns, .int k] = .ok (.sh, .int i) := by
  rw [c__law_cell, b__law_cell]
  by_cases e : ns.length = 0
  · refine ⟨37 * k + 3, ?_⟩
    simp [e, mul_ii 37 k (mulOk_l (by decide) (by decide))]
  · by_cases e2 : k < ns.length
    · obtain ⟨x, _, hx⟩ := atI_mem hk e2
      refine ⟨x, ?_⟩
      simp [e, e2, hx]
    · have h0 : (0 : Int) < ns.length := by omega
      obtain ⟨x, _, hx⟩ := atI_mem (l := ns) (k := k % ns.length) (Int.emod_nonneg _ (by omega)) (Int.emod_lt_of_pos _ h0)
      have b1 := Int.emod_nonneg x (by decide : (1000003 : Int) ≠ 0)
      have b2 := Int.emod_lt_of_pos x (by decide : (0 : Int) < 1000003)
      refine ⟨x % 1000003 * 5 + 31 * k, ?_⟩
      simp [e, e2, mod_ii _ _ h0, hx, mod_ii x 1000003 (by decide), mul_ii _ _ (mulOk_l (i := x % 1000003) (j := 5) (by omega) (by omega)), mul_ii 31 k (mulOk_l (by decide) (by decide))]
theorem pick_ok (n : Nat) (ns : List Int) (k m : Int) (hk : 0 ≤ k) (hm : 0 < m) : ∃ i, callD tab.g (n + 2) N__law_pick [.scr ns, .int k, .int m] = .ok (.sh, .int i) ∧ 0 ≤ i ∧ i < m := by
  rw [c__law_pick, b__law_pick]
  obtain ⟨x, hx⟩ := cell_ok n ns k hk
  exact ⟨x % m, by simp [hx, mod_ii _ _ hm], Int.emod_nonneg _ (by omega), Int.emod_lt_of_pos _ hm⟩
theorem row_ok (n : Nat) (c b : Int) (m : Nat) (hb : 0 < b) (hb2 : b < 1073741824) (hm : m ≤ 1000) : ∃ l : List Int, callD tab.g (n + 1) N__law_row [.int c, .int m, .int b] = .ok (.o1, .lst (l.map .int)) ∧ l.length = m ∧ ∀ x ∈ l, 0 ≤ x ∧ x < b := by
  rw [c__law_row, b__law_row]
  have p1 : binD .pow (.int 10) (.int 18) = .ok (.int 1000000000000000000) := by simp only [binD]; exact if_pos (by decide)
  simp [p1, mod_ii c 2147483647 (by decide), rng_nat (show m ≤ 1000000 by omega)]
  refine forL_up (Post := fun o => ∃ l : List Int, endR (o.seq _) = .ok (.o1, .lst (l.map .int)) ∧ l.length = m ∧ ∀ x ∈ l, 0 ≤ x ∧ x < b)
    (fun k env => ∃ (rest st : Int) (l : List Int) (s : Slot), env = [some (.sh, .int c), some (.sh, .int m), some (.sh, .int b), some (.sh, .int rest), some (.sh, .bl (decide (1000000000000000000 ≤ c))), some (.sh, .int st), some (.o1, .lst (l.map .int)), s] ∧ l.length = k ∧ (∀ x ∈ l, 0 ≤ x ∧ x < b) ∧ 0 ≤ st ∧ st < 2147483647)
    ⟨c, c % 2147483647, [], none, rfl, rfl, by simp, Int.emod_nonneg _ (by decide), Int.emod_lt_of_pos _ (by decide)⟩ (fun k env hk ⟨rest, st, l, s, e, hl, hx, h0, h1⟩ => ?_) (fun env ⟨rest, st, l, s, e, hl, hx, h0, h1⟩ => ?_)
  · subst e
    have sz : (l.map D.int).length < szL := by rw [List.length_map]; exact szL_lt (by omega)
    have next : ∀ y : Int, 0 ≤ y → y < b → (∀ x ∈ l ++ [y], 0 ≤ x ∧ x < b) := fun y h1 h2 x hm => by
      rcases List.mem_append.mp hm with h | h
      · exact hx x h
      · rw [List.mem_singleton.mp h]; exact ⟨h1, h2⟩
    by_cases hc : (1000000000000000000 ≤ c) ∧ 0 < rest
    · refine .inl ⟨_, .inl (by simp [L__law_row_0, hc.1, hc.2, mod_ii _ _ hb, div_ii _ _ hb hb2, szL_lt (show l.length ≤ 1000000 by omega)]; rfl), rest / b, st, l ++ [rest % b], some (.sh, .int k), by simp [hc.1], by simp [hl], next _ (Int.emod_nonneg _ (by omega)) (Int.emod_lt_of_pos _ hb), h0, h1⟩
    · have m1 := mul_ii st 48271 (mulOk_r (by decide) (by decide))
      have m2 := mul_ii 2 (k : Int) (mulOk_l (by decide) (by decide))
      have no : (R.ok (decide (1000000000000000000 ≤ c)) : R Bool) = .ok false ∨ (1000000000000000000 ≤ c ∧ ¬ 0 < rest) := by
        by_cases h1 : 1000000000000000000 ≤ c
        · exact .inr ⟨h1, fun z => hc ⟨h1, z⟩⟩
        · exact .inl (by simp [h1])
      refine .inl ⟨[some (.sh, .int c), some (.sh, .int m), some (.sh, .int b), some (.sh, .int rest), some (.sh, .bl (decide (1000000000000000000 ≤ c))), some (.sh, .int ((st * 48271 + 2 * k + 7) % 2147483647)), some (.o1, .lst ((l ++ [(st * 48271 + 2 * k + 7) % 2147483647 / 61 % b]).map .int)), some (.sh, .int k)], .inl ?_, rest, _, _, _, rfl, by simp [hl], next _ (Int.emod_nonneg _ (by omega)) (Int.emod_lt_of_pos _ hb), Int.emod_nonneg _ (by decide), Int.emod_lt_of_pos _ (by decide)⟩
      rcases no with h1 | ⟨h1, h2⟩
      · have h1 : ¬ 1000000000000000000 ≤ c := by simpa using h1
        simp [L__law_row_0, h1, m1, m2, mod_ii _ 2147483647 (by decide), mod_ii _ _ hb, div_ii _ 61 (by decide) (by decide), szL_lt (show l.length ≤ 1000000 by omega)]
      · simp [L__law_row_0, h1, h2, m1, m2, mod_ii _ 2147483647 (by decide), mod_ii _ _ hb, div_ii _ 61 (by decide) (by decide), szL_lt (show l.length ≤ 1000000 by omega)]
  · subst e
    exact ⟨l, by simp, hl, hx⟩
end Lw



set_option maxHeartbeats 1000000
namespace Lw
open PySem S2
theorem mod4 (b : Int) : b % 4 = 0 ∨ b % 4 = 1 ∨ b % 4 = 2 ∨ b % 4 = 3 := by omega
theorem mod3 (b : Int) : b % 3 = 0 ∨ b % 3 = 1 ∨ b % 3 = 2 := by omega
theorem ix4 (a b c d : Int) (i : Int) (P : Int → Prop) (ha : P a) (hb : P b) (hc : P c) (hd : P d) : ∃ v, L2.atI [D.int a, D.int b, D.int c, D.int d] (i % 4) = some (.int v) ∧ P v := by
  rcases mod4 i with h | h | h | h <;> rw [h]
  · exact ⟨a, rfl, ha⟩
  · exact ⟨b, rfl, hb⟩
  · exact ⟨c, rfl, hc⟩
  · exact ⟨d, rfl, hd⟩
theorem ix3 (a b c : Int) (i : Int) (P : Int → Prop) (ha : P a) (hb : P b) (hc : P c) : ∃ v, L2.atI [D.int a, D.int b, D.int c] (i % 3) = some (.int v) ∧ P v := by
  rcases mod3 i with h | h | h <;> rw [h]
  · exact ⟨a, rfl, ha⟩
  · exact ⟨b, rfl, hb⟩
  · exact ⟨c, rfl, hc⟩
end Lw



set_option maxHeartbeats 1000000
namespace Lw
open PySem S2
/-- a signal of the field -/
structure Sg (lo hi sl : Int) (l : List Int) : Prop where
  rg : ∀ x ∈ l, lo ≤ x ∧ x ≤ hi
  st : ∀ (k : Nat) (a b : Int), l[k]? = some a → l[k + 1]? = some b → -sl ≤ b - a ∧ b - a ≤ sl
theorem Sg.nil {lo hi sl : Int} : Sg lo hi sl [] := ⟨fun x h => absurd h (by simp), fun k a b h => absurd h (by simp)⟩
theorem Sg.one {lo hi sl y : Int} (h : lo ≤ y ∧ y ≤ hi) : Sg lo hi sl [y] := ⟨fun x m => (by rw [List.mem_singleton.mp m]; exact h), fun k a b _ h => absurd h (by simp)⟩
theorem Sg.app {lo hi sl y z : Int} {l : List Int} (S : Sg lo hi sl (l ++ [z])) (h : lo ≤ y ∧ y ≤ hi) (d : -sl ≤ y - z ∧ y - z ≤ sl) : Sg lo hi sl ((l ++ [z]) ++ [y]) := by
  refine ⟨fun x m => ?_, fun k a b ha hb => ?_⟩
  · rcases List.mem_append.mp m with m | m
    · exact S.rg x m
    · rw [List.mem_singleton.mp m]; exact h
  · by_cases hk : k + 1 < (l ++ [z]).length
    · rw [List.getElem?_append_left hk] at hb
      rw [List.getElem?_append_left (by omega)] at ha
      exact S.st k a b ha hb
    · have hb2 := (List.getElem?_eq_some_iff.mp hb).1
      rw [List.length_append] at hb2
      have hb3 : k + 1 < (l ++ [z]).length + 1 := hb2
      have e : k + 1 = (l ++ [z]).length := by omega
      rw [e, List.getElem?_append_right (Nat.le_refl _), Nat.sub_self] at hb
      have e1 : y = b := Option.some.inj hb
      have e2 : k = l.length := by rw [List.length_append] at e; simpa using e
      rw [List.getElem?_append_left (by omega), e2, List.getElem?_append_right (Nat.le_refl _), Nat.sub_self] at ha
      have e3 : z = a := Option.some.inj ha
      rw [← e1, ← e3]; exact d
theorem atI_last (l : List D) (z : D) : L2.atI (l ++ [z]) (-1) = some z := by
  unfold L2.atI L2.ixN
  rw [if_neg (by decide), if_pos (by rw [List.length_append]; simp; omega)]
  have : ((-1 : Int) + ((l ++ [z]).length : Nat)).toNat = l.length := by rw [List.length_append]; simp; omega
  rw [this]
  simp
theorem atI_lits (l : List Int) (i : Int) (h0 : 0 ≤ i) (h1 : i < l.length) (P : Int → Prop) (all : ∀ x ∈ l, P x) : ∃ v, L2.atI (l.map D.int) i = some (.int v) ∧ P v := by
  obtain ⟨x, m, e⟩ := atI_mem (l := l.map D.int) h0 (by rw [List.length_map]; exact h1)
  obtain ⟨v, m2, rfl⟩ := List.mem_map.mp m
  exact ⟨v, e, all v m2⟩
theorem snoc (l : List Int) : l = [] ∨ ∃ r z, l = r ++ [z] := by
  rcases List.eq_nil_or_concat l with h | ⟨r, z, h⟩
  · exact .inl h
  · exact .inr ⟨r, z, by rw [h, List.concat_eq_append]⟩
end Lw




set_option maxHeartbeats 1000000
namespace Lw
open PySem S2
def badAt (lo hi sl : Int) (l : List D) (k : Nat) : Bool := match l[k]? with
  | some (.int v) => !(decide (lo ≤ v) && decide (v ≤ hi)) || (match k, l[k - 1]? with
    | _ + 1, some (.int u) => decide (sl < (if v - u < 0 then -(v - u) else v - u))
    | _, _ => false)
  | _ => true
def faultD (lo hi sl : Int) : D → D
  | .tup l => if 400 < l.length then .int (-1) else match (List.range l.length).find? (badAt lo hi sl l) with
    | some k => .int k
    | none => .non
  | _ => .int (-1)
theorem bad_int {lo hi sl : Int} {l : List D} {k : Nat} (h : badAt lo hi sl l k = false) : ∃ v, l[k]? = some (.int v) ∧ lo ≤ v ∧ v ≤ hi := by
  unfold badAt at h
  split at h
  · rename_i v e
    rw [Bool.or_eq_false_iff] at h
    have := h.1
    simp at this
    exact ⟨v, e, this.1, this.2⟩
  · cases h
theorem find_some {p : Nat → Bool} {n k : Nat} (hk : k < n) (h : p k = true) (b : ∀ j < k, p j = false) : (List.range n).find? p = some k := by
  rw [List.find?_range_eq_some]
  exact ⟨h, List.mem_range.mpr hk, fun j hj => by rw [b j hj]; rfl⟩
theorem find_none {p : Nat → Bool} {n : Nat} (b : ∀ j < n, p j = false) : (List.range n).find? p = none := by
  rw [List.find?_eq_none]
  intro j hj
  rw [b j (List.mem_range.mp hj)]
  simp
theorem lower {p : Nat → Bool} {k : Nat} (b : ∀ j < k, p j = false) (h : p k = false) : ∀ j < k + 1, p j = false := fun j hj => by
  by_cases e : j = k
  · rw [e]; exact h
  · exact b j (by omega)
theorem sv_items {l : List D} (h : sv (.tup l) = true) : l.all okV = true := h
/-- the loop of both -/
theorem fault_loop {f : D → S2.Env → Out} {lo hi sl : Int} {l : List D} {e0 : S2.Env} (mk : S2.Slot → S2.Env) (h0 : e0 = mk none) (hs : ∀ k s, k < l.length → (∀ j < k, badAt lo hi sl l j = false) → f (.int k) (mk s) = if badAt lo hi sl l k = true then .ret .sh (.int k) else .nx (mk (some (.sh, .int k)))) :
    ∀ g : S2.Env → Out, (∀ s, g (mk s) = .ret .sh .non) → endR ((forL f (upto 0 l.length) e0).seq g) = .ok (.sh, match (List.range l.length).find? (badAt lo hi sl l) with
      | some k => .int k
      | none => .non) := by
  intro g hg
  refine forL_up (Post := fun o => endR (o.seq g) = .ok (.sh, match (List.range l.length).find? (badAt lo hi sl l) with
      | some k => .int k
      | none => .non)) (fun k env => (∃ s, env = mk s) ∧ ∀ j < k, badAt lo hi sl l j = false) ⟨⟨none, h0⟩, fun j h => absurd h (Nat.not_lt_zero _)⟩ (fun k env hk ⟨⟨s, e⟩, b⟩ => ?_) (fun env ⟨⟨s, e⟩, b⟩ => ?_)
  · subst e
    have := hs k s hk b
    cases q : badAt lo hi sl l k with
    | true =>
      rw [q, if_pos rfl] at this
      refine .inr (.inr ⟨by rw [this]; rfl, ?_⟩)
      rw [this, find_some hk q b]
      rfl
    | false =>
      rw [q, if_neg Bool.false_ne_true] at this
      exact .inl ⟨_, .inl this, ⟨_, rfl⟩, lower b q⟩
  · subst e
    rw [find_none b, seq_nx, hg]
    rfl
end Lw



set_option maxHeartbeats 1000000
namespace Lw
open PySem S2
def cnt (p b : Int) (s : Bool) (c v : Int) : Int := if (if s = true then decide (v < p - b) else decide (p ≤ v)) = true then c + 1 else 0
def standsL (p b o u : Int) : Bool → Int → List Int → List Bool
  | _, _, [] => []
  | s, c, v :: r => if (if s = true then u else o) < cnt p b s c v then (!s) :: standsL p b o u (!s) 0 r else s :: standsL p b o u s (cnt p b s c v) r
abbrev stg (p b o u : Int) : D := .tup [.int p, .int b, .int o, .int u]
abbrev fld (lo hi sl : Int) : D := .tup [.int lo, .int hi, .int sl]
theorem stg0 {p b o u : Int} : L2.atI [D.int p, .int b, .int o, .int u] 0 = some (.int p) := rfl
theorem stg1 {p b o u : Int} : L2.atI [D.int p, .int b, .int o, .int u] 1 = some (.int b) := rfl
theorem stg2 {p b o u : Int} : L2.atI [D.int p, .int b, .int o, .int u] 2 = some (.int o) := rfl
theorem stg3 {p b o u : Int} : L2.atI [D.int p, .int b, .int o, .int u] 3 = some (.int u) := rfl
theorem fault_non {lo hi sl : Int} {v : D} (h : faultD lo hi sl v = .non) : ∃ xs : List Int, v = .tup (xs.map .int) ∧ xs.length ≤ 400 := by
  cases v with
  | tup l =>
    have h : (if 400 < l.length then D.int (-1) else match (List.range l.length).find? (badAt lo hi sl l) with
      | some k => .int k
      | none => .non) = .non := h
    split at h
    · cases h
    · rename_i hl
      split at h
      · cases h
      · rename_i e
        have all : ∀ k, k < l.length → ∃ i, l[k]? = some (.int i) := fun k hk => by
          have := List.find?_eq_none.mp e k (List.mem_range.mpr hk)
          obtain ⟨i, q, _⟩ := bad_int (by simpa using this)
          exact ⟨i, q⟩
        have : ∀ l : List D, (∀ k, k < l.length → ∃ i, l[k]? = some (.int i)) → ∃ xs : List Int, l = xs.map .int := by
          intro l
          induction l with
          | nil => exact fun _ => ⟨[], rfl⟩
          | cons d l ih =>
            intro h
            obtain ⟨i, q⟩ := h 0 (by simp)
            obtain ⟨xs, e⟩ := ih fun k hk => by simpa using h (k + 1) (by simpa using hk)
            have q : d = .int i := by simpa using q
            exact ⟨i :: xs, by rw [q, e]; rfl⟩
        obtain ⟨xs, e⟩ := this l all
        subst e
        exact ⟨xs, rfl, by rw [List.length_map] at hl; omega⟩
  | _ => cases h
theorem bools_own (l : List Bool) : hasLs (l.map D.bl) = false := by
  induction l with
  | nil => rfl
  | cons b l ih => rw [List.map_cons, hasLs_cons, hasL_bl, ih]; rfl
theorem standsL_cons (p b o u : Int) (s : Bool) (c v : Int) (r : List Int) : standsL p b o u s c (v :: r) = (if (if s = true then u else o) < cnt p b s c v then !s else s) :: standsL p b o u (if (if s = true then u else o) < cnt p b s c v then !s else s) (if (if s = true then u else o) < cnt p b s c v then 0 else cnt p b s c v) r := by
  rw [standsL]
  by_cases h : (if s = true then u else o) < cnt p b s c v
  · rw [if_pos h, if_pos h, if_pos h]
  · rw [if_neg h, if_neg h, if_neg h]
theorem standsL_len (p b o u : Int) : ∀ (xs : List Int) (s : Bool) (c : Int), (standsL p b o u s c xs).length = xs.length
  | [], _, _ => rfl
  | v :: r, s, c => by rw [standsL_cons, List.length_cons, List.length_cons, standsL_len p b o u r]
end Lw



set_option maxHeartbeats 1000000
namespace Lw
open PySem S2
theorem mapC_range {f : D → R (Option OD)} {q : Nat → Bool} : ∀ (m j : Nat), (∀ k, j ≤ k → k < j + m → f (.int k) = .ok (if q k = true then some (.sh, .int k) else none)) → mapC f ((List.range' j m).map fun k : Nat => D.int k) = .ok (((List.range' j m).filter q).map fun k : Nat => (Own.sh, D.int k))
  | 0, j, _ => rfl
  | m + 1, j, h => by
    rw [List.range'_succ, List.map_cons]
    show (f (.int j)).bind (fun o => (mapC f ((List.range' (j + 1) m).map fun k : Nat => D.int k)).bind fun ys => .ok (consO o ys)) = _
    rw [h j (Nat.le_refl _) (by omega), mapC_range m (j + 1) (fun k h1 h2 => h k (by omega) (by omega))]
    cases e : q j with
    | true => rw [if_pos rfl, List.filter_cons_of_pos e]; rfl
    | false => rw [if_neg Bool.false_ne_true, List.filter_cons_of_neg (by rw [e]; exact Bool.false_ne_true)]; rfl
theorem mapC_upto {f : D → R (Option OD)} {q : Nat → Bool} {n : Nat} (h : ∀ k < n, f (.int k) = .ok (if q k = true then some (.sh, .int k) else none)) : mapC f (upto 0 n) = .ok (((List.range' 0 n).filter q).map fun k : Nat => (Own.sh, D.int k)) := by
  rw [upto_zero]
  exact mapC_range n 0 fun k _ h2 => h k (by omega)
def ringAt (fs : List Bool) (k : Nat) : Bool := match fs[k]?, k with
  | some true, 0 => true
  | some true, k + 1 => !(fs[k]?.getD false)
  | _, _ => false
def ringsD (fs : List Bool) : D := .tup (((List.range' 0 fs.length).filter (ringAt fs)).map fun k : Nat => D.int k)
/-- S k d: same(d, d), k deep -/
def Sm (k : Nat) (d : D) : Prop := ∀ n, callD tab.g (n + k) N__law_same [d, d] = .ok (.sh, .bl true)
theorem Sm.up {k : Nat} {d : D} (h : Sm k d) : Sm (k + 1) d := fun n => by
  have := h (n + 1)
  rwa [show n + 1 + k = n + (k + 1) by omega] at this
theorem sm_non : Sm 1 .non := fun n => by rw [c__law_same, b__law_same]; simp [isNonD]
theorem sm_bl (b : Bool) : Sm 1 (.bl b) := fun n => by rw [c__law_same, b__law_same]; simp [isNonD]
theorem sm_int (b : Int) : Sm 1 (.int b) := fun n => by rw [c__law_same, b__law_same]; simp [isNonD]
theorem sm_str (b : Str) : Sm 1 (.str b) := fun n => by rw [c__law_same, b__law_same]; simp [isNonD]
theorem sm_tup (l : List D) (k : Nat) (hl : l.length ≤ 1000) (h : ∀ x ∈ l, Sm k x) : Sm (k + 1) (.tup l) := fun n => by
  have e : callD tab.g (n + (k + 1)) N__law_same [.tup l, .tup l] = endR (exs tab.g (cal tab.g (n + k)) b__law_same [some (.sh, .tup l), some (.sh, .tup l), none]) := c__law_same (n + k) _ _
  rw [e, b__law_same]
  have hr := rng_nat (show l.length ≤ 1000000 by omega)
  simp [hr]
  refine forL_up (Post := fun o => endR ((o.seq _).seq _) = .ok (.sh, .bl true)) (fun k env => ∃ s, env = [some (.sh, .tup l), some (.sh, .tup l), s]) ⟨none, rfl⟩ (fun j env hj ⟨s, e⟩ => ?_) (fun env ⟨s, e⟩ => ?_)
  · subst e
    have a1 := atI_nat (l := l) hj
    have h1 := h l[j] (List.getElem_mem hj) n
    exact .inl ⟨_, .inl (by simp [L__law_same_0, a1, h1]; rfl), _, rfl⟩
  · subst e
    simp
theorem own_ints {α : Type} (l : List α) (f : α → Int) : listOwn (l.map fun k => (Own.sh, D.int (f k))) = .o1 := by
  unfold listOwn
  cases l with
  | nil => rfl
  | cons a l => rfl
theorem lc_rng {g : G} {C : Cal} {elt a : E} {c : Eo} {i n : Nat} {env : S2.Env} {o : Own} {q : Nat → Bool} (hi : ev g C a env = .ok (o, .int n)) (hn : n ≤ 1000000)
    (h : ∀ k < n, ((tsto g C c (env.set i (some (.sh, .int k)))).tame.bind fun b => if b = true then (ev g C elt (env.set i (some (.sh, .int k)))).tame.bind fun y => .ok (some y) else .ok none) = .ok (if q k = true then some (.sh, .int k) else none)) :
    ev g C (.lc elt (.nm i) (.rng1 a) c) env = .ok (.o1, .lst (((List.range' 0 n).filter q).map fun k : Nat => D.int k)) := by
  rw [ev_lc, items_rng1, hi]
  show ((rngD 0 (n : Int)).bind fun l => R.ok ((Own.sh, D.non), l)).bind _ = _
  rw [rng_nat hn]
  show (mapC _ (upto 0 n)).tame.bind _ = _
  rw [mapC_upto (q := q) (fun k hk => h k hk)]
  have hl : (upto 0 n).length ≤ szL := by unfold upto; rw [List.length_map, List.length_range]; exact szL_of hn
  show (if (upto 0 n).length ≤ szL then R.ok (listOwn _, D.lst _) else R.no) = _
  rw [if_pos hl, own_ints, List.map_map]
  rfl
theorem ring_val (fs : List Bool) (k : Nat) (h : k < fs.length) : fs[k]? = some fs[k] := List.getElem?_eq_getElem h
end Lw



set_option maxHeartbeats 2000000
namespace Lw
open PySem S2
theorem atI_P {l : List D} {i : Int} {P : D → Prop} (all : ∀ x ∈ l, P x) (h0 : 0 ≤ i) (h : i < l.length) : ∃ x, L2.atI l i = some x ∧ P x := by
  obtain ⟨x, m, e⟩ := atI_mem h0 h
  exact ⟨x, e, all x m⟩
theorem slD_tup2 (a b c : D) : slD (.tup [a, b, c]) none (some 2) = .ok (.tup [a, b]) := rfl
theorem slD_tup3 (a b c d : D) : slD (.tup [a, b, c, d]) none (some 3) = .ok (.tup [a, b, c]) := rfl
end Lw




set_option maxHeartbeats 1000000
namespace Lw
open PySem S2
@[simp] theorem ne_fs : (N_fixed = N_silent) = False := eq_false (by decide)
@[simp] theorem ne_gs : (N_single = N_silent) = False := eq_false (by decide)
@[simp] theorem ne_ls : (N_lively = N_silent) = False := eq_false (by decide)
@[simp] theorem ne_gf : (N_single = N_fixed) = False := eq_false (by decide)
@[simp] theorem ne_lf : (N_lively = N_fixed) = False := eq_false (by decide)
@[simp] theorem ne_lg : (N_lively = N_single) = False := eq_false (by decide)
@[simp] theorem ne_sl : (N_silent = N_lively) = False := eq_false (by decide)
@[simp] theorem ne_fl : (N_fixed = N_lively) = False := eq_false (by decide)
@[simp] theorem ne_gl : (N_single = N_lively) = False := eq_false (by decide)
@[simp] theorem ne_sg : (N_silent = N_single) = False := eq_false (by decide)
@[simp] theorem ne_fg : (N_fixed = N_single) = False := eq_false (by decide)
@[simp] theorem ne_sf : (N_silent = N_fixed) = False := eq_false (by decide)
@[simp] theorem ne_ss (a b : Str) : cmpD .ne (.str a) (.str b) = .ok (decide (a ≠ b)) := by rw [ne_of, eq_ss]; simp
theorem fld0 {lo hi sl : Int} : L2.atI [D.int lo, .int hi, .int sl] 0 = some (.int lo) := rfl
theorem fld1 {lo hi sl : Int} : L2.atI [D.int lo, .int hi, .int sl] 1 = some (.int hi) := rfl
theorem fld2 {lo hi sl : Int} : L2.atI [D.int lo, .int hi, .int sl] 2 = some (.int sl) := rfl
/-- a right pair -/
structure Ok (lo hi sl p b o u : Int) : Prop where
  f1 : -1000 ≤ lo
  f2 : lo ≤ hi
  f3 : hi ≤ 1000
  f4 : 0 ≤ sl
  f5 : sl ≤ 1000
  p1 : -1000 ≤ p
  p2 : p ≤ 1000
  b1 : 0 ≤ b
  b2 : b ≤ 1000
  o1 : 0 ≤ o
  o2 : o ≤ 100
  u1 : 0 ≤ u
  u2 : u ≤ 100
theorem Ok.f {lo hi sl p b o u : Int} (k : Ok lo hi sl p b o u) : fieldB (fld lo hi sl) = true := by
  obtain ⟨f1, f2, f3, f4, f5, p1, p2, b1, b2, o1, o2, u1, u2⟩ := k
  simp [fieldB, inB]; omega
theorem Ok.s {lo hi sl p b o u : Int} (k : Ok lo hi sl p b o u) : settingB (stg p b o u) = true := by
  obtain ⟨f1, f2, f3, f4, f5, p1, p2, b1, b2, o1, o2, u1, u2⟩ := k
  simp [settingB, inB]; omega
theorem check_number_ok (n : Nat) (v : D) (a b : Int) (w : Str) (h : okV v = true) : callD tab.g (n + 3) N_check_number [v, .int a, .int b, .str w] = if inB v a b = true then .ok (.sh, .non) else .exc (.ob N_OutOfRange [N_word] [.str w]) := by
  rw [c_check_number, b_check_number]
  cases e : inB v a b <;> simp [is_number_ok, h, e]
def kindS (lo hi sl p b : Int) : Str := if hi < p then N_silent else if p ≤ lo ∨ sl = 0 then N_fixed else if p - b ≤ lo then N_single else N_lively
def fallI (sl b : Int) : Int := (b + sl) / sl
def gapI (sl b o u : Int) : Int := 2 * fallI sl b + o + u
section
variable {lo hi sl p b o u : Int}
theorem kind_of_ok (n : Nat) (k : Ok lo hi sl p b o u) : callD tab.g (n + 5) N_kind_of [fld lo hi sl, stg p b o u] = .ok (.sh, .str (kindS lo hi sl p b)) := by
  rw [c_kind_of, b_kind_of]
  have cf := check_field_ok n (fld lo hi sl) rfl
  rw [k.f, if_pos rfl] at cf
  have cs := check_setting_ok n (stg p b o u) rfl
  rw [k.s, if_pos rfl] at cs
  unfold kindS
  by_cases h1 : hi < p
  · simp [cf, cs, stg0, h1]
  · by_cases h2 : p ≤ lo
    · simp [cf, cs, stg0, h1, h2]
    · by_cases h3 : sl = 0
      · subst h3
        simp [cf, cs, stg0, h1, h2]
      · by_cases h4 : p - b ≤ lo <;> simp [cf, cs, stg0, stg1, h1, h2, h3, h4]
theorem fall_ok (n : Nat) (h : 0 < sl) (h2 : sl ≤ 1000) : callD tab.g (n + 1) N_fall_ticks [fld lo hi sl, stg p b o u] = .ok (.sh, .int (fallI sl b)) := by
  rw [c_fall_ticks, b_fall_ticks]
  simp [fld2, stg1, div_ii _ sl h (by omega), fallI]
theorem gap_ok (n : Nat) (h : 0 < sl) (h2 : sl ≤ 1000) : callD tab.g (n + 2) N_gap_of [fld lo hi sl, stg p b o u] = .ok (.sh, .int (gapI sl b o u)) := by
  rw [c_gap_of, b_gap_of]
  simp [fall_ok n h h2, stg2, stg3, mul_ii 2 _ (mulOk_l (by decide) (by decide)), gapI]
theorem lively_of (h : kindS lo hi sl p b = N_lively) : ¬ hi < p ∧ ¬ p ≤ lo ∧ sl ≠ 0 ∧ ¬ p - b ≤ lo := by
  unfold kindS at h
  split at h
  · simp at h
  · split at h
    · simp at h
    · rename_i h2
      split at h
      · simp at h
      · exact ⟨by assumption, fun z => h2 (.inl z), fun z => h2 (.inr z), by assumption⟩
theorem fallI_pos (h : 0 < sl) (hb : 0 ≤ b) : 1 ≤ fallI sl b := by
  unfold fallI
  have := Int.add_mul_ediv_right b 1 (show sl ≠ 0 by omega)
  rw [Int.one_mul] at this
  rw [this]
  have := Int.ediv_nonneg hb (Int.le_of_lt h)
  omega
theorem fallI_le (h : 0 < sl) (hb : 0 ≤ b) : fallI sl b ≤ b + 1 := by
  unfold fallI
  have := Int.add_mul_ediv_right b 1 (show sl ≠ 0 by omega)
  rw [Int.one_mul] at this
  rw [this]
  have := Int.ediv_le_self sl hb
  omega
theorem gapI_pos (h : 0 < sl) (k : Ok lo hi sl p b o u) : 2 ≤ gapI sl b o u ∧ gapI sl b o u ≤ 3000 := by
  have h1 := fallI_pos h k.b1
  have h2 := fallI_le h k.b1
  have := k.b2
  have := k.o1
  have := k.o2
  have := k.u1
  have := k.u2
  unfold gapI
  omega
def mostI (lo hi sl p b o u n : Int) : Int := if kindS lo hi sl p b = N_silent ∨ n ≤ o then 0 else if kindS lo hi sl p b ≠ N_lively then 1 else 1 + (n - 1 - o) / gapI sl b o u
def windowI (lo hi sl p b o u n : Int) : Int := if kindS lo hi sl p b = N_silent then 0 else if kindS lo hi sl p b ≠ N_lively then 1 else 1 + (n - 1) / gapI sl b o u
end
end Lw



set_option maxHeartbeats 1000000
namespace Lw
open PySem S2
theorem mapC_map {f : D → R (Option OD)} {y : Nat → D} : ∀ (m j : Nat), (∀ k, j ≤ k → k < j + m → f (.int k) = .ok (some (.sh, y k))) → mapC f ((List.range' j m).map fun k : Nat => D.int k) = .ok ((List.range' j m).map fun k : Nat => (Own.sh, y k))
  | 0, j, _ => rfl
  | m + 1, j, h => by
    rw [List.range'_succ, List.map_cons]
    show (f (.int j)).bind (fun o => (mapC f ((List.range' (j + 1) m).map fun k : Nat => D.int k)).bind fun ys => .ok (consO o ys)) = _
    rw [h j (Nat.le_refl _) (by omega), mapC_map m (j + 1) (fun k h1 h2 => h k (by omega) (by omega))]
    rfl
theorem own_shs {α : Type} (l : List α) (y : α → D) : listOwn (l.map fun k => (Own.sh, y k)) = .o1 := by
  unfold listOwn
  cases l with
  | nil => rfl
  | cons a l => rfl
/-- [elt for k in range(n)] -/
theorem lc_map {g : G} {C : Cal} {elt a : E} {i n : Nat} {env : S2.Env} {o : Own} {y : Nat → D} (hi : ev g C a env = .ok (o, .int n)) (hn : n ≤ 1000000) (h : ∀ k < n, ev g C elt (env.set i (some (.sh, .int k))) = .ok (.sh, y k)) :
    ev g C (.lc elt (.nm i) (.rng1 a) .none) env = .ok (.o1, .lst ((List.range' 0 n).map y)) := by
  rw [ev_lc, items_rng1, hi]
  show ((rngD 0 (n : Int)).bind fun l => R.ok ((Own.sh, D.non), l)).bind _ = _
  rw [rng_nat hn]
  show (mapC _ (upto 0 n)).tame.bind _ = _
  rw [upto_zero, mapC_map (y := y) n 0 (fun k _ hk => by
    show ((tsto g C .none _).tame.bind fun b => if b = true then (ev g C elt (env.set i (some (.sh, .int k)))).tame.bind fun y => .ok (some y) else .ok none) = _
    rw [h k (by omega), tsto_none]
    rfl)]
  have hl : (((List.range' 0 n).map fun k : Nat => D.int k)).length ≤ szL := by rw [List.length_map, List.length_range']; exact szL_of hn
  show (if _ then R.ok (listOwn _, D.lst _) else R.no) = _
  rw [if_pos hl, own_shs, List.map_map]
  rfl
def waveI (sl p b u φ : Int) : Int := if φ ≤ fallI sl b + u then (if p - b - 1 < p - sl * φ then p - sl * φ else p - b - 1) else (if p - b - 1 + sl * (φ - (fallI sl b + u)) < p then p - b - 1 + sl * (φ - (fallI sl b + u)) else p)
def valI (lo hi sl p b o u : Int) (ring tick : Int) : Int :=
  if kindS lo hi sl p b = N_silent ∨ kindS lo hi sl p b = N_fixed then hi else if tick < ring - o then p - 1 else if tick ≤ ring ∨ kindS lo hi sl p b = N_single then p else waveI sl p b u ((tick - ring) % gapI sl b o u)
section
variable {lo hi sl p b o u : Int}
theorem wave_ok (n : Nat) (h : 0 < sl) (k : Ok lo hi sl p b o u) (φ : Int) : callD tab.g (n + 2) N_wave_value [fld lo hi sl, stg p b o u, .int φ] = .ok (.sh, .int (waveI sl p b u φ)) := by
  rw [c_wave_value, b_wave_value]
  have m := fun x : Int => mul_ii sl x (mulOk_l (by have := k.f4; omega) (by have := k.f5; omega))
  unfold waveI
  by_cases h1 : φ ≤ fallI sl b + u <;> simp [fall_ok n h k.f5, stg0, stg1, stg3, fld2, m, h1]
theorem kind_cases (lo hi sl p b : Int) : kindS lo hi sl p b = N_silent ∨ kindS lo hi sl p b = N_fixed ∨ kindS lo hi sl p b = N_single ∨ kindS lo hi sl p b = N_lively := by
  unfold kindS
  split
  · exact .inl rfl
  · split
    · exact .inr (.inl rfl)
    · split
      · exact .inr (.inr (.inl rfl))
      · exact .inr (.inr (.inr rfl))
theorem value_ok (n : Nat) (k : Ok lo hi sl p b o u) (ring tick : Int) : callD tab.g (n + 3) N_value_at [fld lo hi sl, stg p b o u, .str (kindS lo hi sl p b), .int ring, .int tick] = .ok (.sh, .int (valI lo hi sl p b o u ring tick)) := by
  rw [c_value_at, b_value_at]
  unfold valI
  rcases kind_cases lo hi sl p b with e | e | e | e
  · simp [e, fld1]
  · simp [e, fld1]
  · by_cases h1 : tick < ring - o
    · simp [e, stg0, stg2, h1]
    · by_cases h2 : tick ≤ ring <;> simp [e, stg0, stg2, h1, h2]
  · have := (lively_of e).2.2.1
    have := k.f4
    have sp : 0 < sl := by omega
    obtain ⟨g1, g2⟩ := gapI_pos sp k
    by_cases h1 : tick < ring - o
    · simp [e, stg0, stg2, h1]
    · by_cases h2 : tick ≤ ring
      · simp [e, stg0, stg2, h1, h2]
      · simp [e, stg0, stg2, h1, h2, gap_ok n sp k.f5, mod_ii _ (gapI sl b o u) (by omega), wave_ok n sp k]
def busyL (lo hi sl p b o u : Int) (ring : Int) (n : Nat) : List Int := (List.range' 0 n).map fun t : Nat => valI lo hi sl p b o u ring t
theorem signal_from_ok (n : Nat) (k : Ok lo hi sl p b o u) (ring : Int) (m : Nat) (hm : m ≤ 1000000) : callD tab.g (n + 6) N_signal_from [fld lo hi sl, stg p b o u, .int ring, .int m] = .ok (.sh, .tup ((busyL lo hi sl p b o u ring m).map .int)) := by
  rw [c_signal_from, b_signal_from]
  have e : ev tab.g (cal tab.g (n + 5)) (.lc (.call N_value_at (.cons (.var 0) (.cons (.var 1) (.cons (.var 4) (.cons (.var 2) (.cons (.var 5) .nil)))))) (.nm 5) (.rng1 (.var 3)) .none) [some (.sh, fld lo hi sl), some (.sh, stg p b o u), some (.sh, .int ring), some (.sh, .int m), some (.sh, .str (kindS lo hi sl p b)), none] = .ok (.o1, .lst ((List.range' 0 m).map fun t : Nat => D.int (valI lo hi sl p b o u ring t))) := by
    refine lc_map (o := .sh) (by simp) hm fun j hj => ?_
    simp [value_ok (n + 2) k]
  have ow : ∀ l : List Nat, hasLs (l.map fun t : Nat => D.int (valI lo hi sl p b o u ring t)) = false := fun l => by
    induction l with
    | nil => simp
    | cons a l ih => simp [ih]
  simp [kind_of_ok n k, -ev_lc, e, ow, busyL, Function.comp_def]
end
end Lw



set_option maxHeartbeats 1000000
namespace Lw
open PySem S2
def thr (o u : Int) (s : Bool) : Int := if s = true then u else o
/-- one tick: standing, count, rings -/
def stp (p b o u : Int) (t : Int) (v : Int) (q : Bool × Int × List Int) : Bool × Int × List Int :=
  if thr o u q.1 < cnt p b q.1 q.2.1 v then (!q.1, 0, if q.1 = true then q.2.2 else q.2.2 ++ [t]) else (q.1, cnt p b q.1 q.2.1 v, q.2.2)
/-- k ticks -/
def runL (p b o u : Int) (xs : List Int) : Nat → Bool × Int × List Int
  | 0 => (false, 0, [])
  | k + 1 => stp p b o u k (xs[k]?.getD 0) (runL p b o u xs k)
def ringsL (p b o u : Int) (xs : List Int) : List Int := (runL p b o u xs xs.length).2.2
section
variable {p b o u : Int}
theorem run_len (xs : List Int) : ∀ k, (runL p b o u xs k).2.2.length ≤ k
  | 0 => Nat.le_refl _
  | k + 1 => by
    have := run_len xs k
    unfold runL stp
    split
    · split
      · simp; omega
      · rw [List.length_append]; simp; omega
    · simp; omega
theorem cnt_mn {ab be ch c v : Int} {st : Bool} {k : Nat} (ec : c = (if st = true then (if k - 1 - ch < be then k - 1 - ch else be) else (if k - 1 - ch < ab then k - 1 - ch else ab))) (h1 : 0 ≤ ab) (h2 : 0 ≤ be) (h3 : ch ≤ (k : Int) - 1) :
    cnt p b st c v = (if st = true then (if k - ch < (if p - b ≤ v then 0 else be + 1) then k - ch else (if p - b ≤ v then 0 else be + 1)) else (if k - ch < (if v < p then 0 else ab + 1) then k - ch else (if v < p then 0 else ab + 1))) := by
  rw [ec]
  cases st
  · by_cases z : v < p
    · have z2 : ¬ p ≤ v := by omega
      simp only [cnt, z, z2, if_true, decide_false, Bool.false_eq_true, if_false]; split <;> omega
    · have z2 : p ≤ v := by omega
      simp only [cnt, z, z2, if_true, decide_true, Bool.false_eq_true, if_false]; split <;> split <;> omega
  · by_cases z : v < p - b
    · have z2 : ¬ p - b ≤ v := by omega
      simp only [cnt, z, z2, if_true, decide_true, Bool.false_eq_true, if_false]; split <;> split <;> omega
    · have z2 : p - b ≤ v := by omega
      simp only [cnt, z, z2, if_true, decide_false, Bool.false_eq_true, if_false]; split <;> omega
/-- the rings of the stands -/
theorem rings_of_stands (xs : List Int) : ∀ (r pre : List Int) (fs : List Bool), xs = pre ++ r → fs.length = pre.length → (fs.getLast? = some (runL p b o u xs pre.length).1 ∨ (fs = [] ∧ (runL p b o u xs pre.length).1 = false)) →
    (runL p b o u xs pre.length).2.2 ++ (((List.range' pre.length r.length).filter (ringAt (fs ++ standsL p b o u (runL p b o u xs pre.length).1 (runL p b o u xs pre.length).2.1 r))).map fun k : Nat => (k : Int)) = (runL p b o u xs xs.length).2.2
  | [], pre, fs, e, hl, hs => by rw [e]; simp
  | v :: r, pre, fs, e, hl, hs => by
    have hv : xs[pre.length]? = some v := by rw [e]; simp
    have e1 : runL p b o u xs (pre.length + 1) = stp p b o u pre.length v (runL p b o u xs pre.length) := by rw [runL, hv]; rfl
    rw [standsL_cons]
    generalize hq : runL p b o u xs pre.length = q at *
    obtain ⟨s, c, rs⟩ := q
    dsimp only at hs ⊢
    generalize hs' : (if (if s = true then u else o) < cnt p b s c v then !s else s) = s'
    generalize hc' : (if (if s = true then u else o) < cnt p b s c v then 0 else cnt p b s c v) = c'
    have e2 : runL p b o u xs (pre ++ [v]).length = (s', c', if (s' && !s) = true then rs ++ [(pre.length : Int)] else rs) := by
      rw [List.length_append, List.length_singleton, e1, ← hs', ← hc']
      unfold stp thr
      cases s
      · by_cases z : o < cnt p b false c v <;> simp [z]
      · by_cases z : u < cnt p b true c v <;> simp [z]
    have ih := rings_of_stands xs r (pre ++ [v]) (fs ++ [s']) (by rw [e]; simp) (by simp [hl]) (.inl (by rw [e2]; simp))
    rw [e2] at ih
    dsimp only at ih
    have ra : ringAt (fs ++ s' :: standsL p b o u s' c' r) pre.length = (s' && !s) := by
      unfold ringAt
      have g1 : (fs ++ s' :: standsL p b o u s' c' r)[pre.length]? = some s' := by rw [← hl]; simp
      rw [g1]
      cases hp : pre.length with
      | zero =>
        rcases hs with hs | ⟨_, hs⟩
        · have : fs = [] := List.length_eq_zero_iff.mp (by rw [hl, hp])
          rw [this] at hs; cases hs
        · rw [hs]; cases s' <;> rfl
      | succ m =>
        rcases hs with hs | ⟨hs, _⟩
        · have g2 : (fs ++ s' :: standsL p b o u s' c' r)[m]? = some s := by
            rw [List.getElem?_append_left (by omega)]
            rw [List.getLast?_eq_getElem?] at hs
            rw [← hs]
            congr 1
            omega
          cases s' with
          | false => rfl
          | true =>
            show (!((fs ++ true :: standsL p b o u true c' r)[m]?.getD false)) = _
            rw [g2]
            rfl
        · rw [hs] at hl; simp at hl; omega
    rw [show (v :: r).length = r.length + 1 from rfl, List.range'_succ]
    rw [List.length_append, List.length_singleton, List.append_assoc] at ih
    cases hx : (s' && !s) with
    | true =>
      rw [hx] at ra ih
      rw [List.filter_cons_of_pos ra, List.map_cons, ← ih, if_pos rfl, List.append_assoc]
      rfl
    | false =>
      rw [hx] at ra ih
      rw [List.filter_cons_of_neg (by rw [ra]; exact Bool.false_ne_true), ← ih, if_neg Bool.false_ne_true]
      rfl
theorem ringsD_eq (xs : List Int) : ringsD (standsL p b o u false 0 xs) = .tup ((ringsL p b o u xs).map .int) := by
  have := rings_of_stands (p := p) (b := b) (o := o) (u := u) xs xs [] [] rfl rfl (.inr ⟨rfl, rfl⟩)
  unfold ringsD ringsL
  rw [standsL_len, ← this]
  show _ = D.tup (List.map D.int ([] ++ List.map _ _))
  rw [List.nil_append, List.map_map]
  rfl
end
end Lw


set_option maxHeartbeats 1000000
namespace Lw
open PySem S2
def Gp (g : Int) (l : List Int) : Prop := ∀ (k : Nat) (a b : Int), l[k]? = some a → l[k + 1]? = some b → g ≤ b - a
theorem Gp.nil {g : Int} : Gp g [] := fun k a b h => absurd h (by simp)
theorem Gp.one {g y : Int} : Gp g [y] := fun k a b _ h => absurd h (by simp)
theorem Gp.app {g y z : Int} {l : List Int} (S : Gp g (l ++ [z])) (d : g ≤ y - z) : Gp g ((l ++ [z]) ++ [y]) := by
  intro k a b ha hb
  by_cases hk : k + 1 < (l ++ [z]).length
  · rw [List.getElem?_append_left hk] at hb
    rw [List.getElem?_append_left (by omega)] at ha
    exact S k a b ha hb
  · have hb3 : k + 1 < (l ++ [z]).length + 1 := by
      have hb2 := (List.getElem?_eq_some_iff.mp hb).1
      rwa [List.length_append] at hb2
    have e : k + 1 = (l ++ [z]).length := by omega
    rw [e, List.getElem?_append_right (Nat.le_refl _), Nat.sub_self] at hb
    have e1 : y = b := Option.some.inj hb
    have e2 : k = l.length := by rw [List.length_append] at e; simpa using e
    rw [List.getElem?_append_left (by omega), e2, List.getElem?_append_right (Nat.le_refl _), Nat.sub_self] at ha
    have e3 : z = a := Option.some.inj ha
    rw [← e1, ← e3]; exact d
abbrev X (xs : List Int) (j : Nat) : Int := xs[j]?.getD 0
theorem X_at {xs : List Int} {j : Nat} (h : j < xs.length) : xs[j]? = some (X xs j) := by
  unfold X
  rw [List.getElem?_eq_getElem h]
  rfl
section
variable {lo hi sl p b o u : Int} {xs : List Int}
theorem Sg.at_ (S : Sg lo hi sl xs) {j : Nat} (h : j < xs.length) : lo ≤ X xs j ∧ X xs j ≤ hi := S.rg _ (List.mem_of_getElem? (X_at h))
theorem Sg.far (S : Sg lo hi sl xs) (i : Nat) : ∀ d : Nat, i + d < xs.length → X xs i - X xs (i + d) ≤ sl * d ∧ X xs (i + d) - X xs i ≤ sl * d
  | 0, _ => by simp
  | d + 1, h => by
    obtain ⟨h1, h2⟩ := S.far i d (by omega)
    have := S.st (i + d) _ _ (X_at (by omega)) (X_at (j := i + d + 1) (by omega))
    have e : sl * ((d + 1 : Nat) : Int) = sl * d + sl := by rw [Int.natCast_add, Int.mul_add]; simp
    rw [e]
    have e2 : i + (d + 1) = i + d + 1 := by omega
    rw [e2]
    omega
theorem fall_bound (h : 0 < sl) {d : Int} (hb : b + 1 ≤ sl * d) : fallI sl b ≤ d := by
  unfold fallI
  have : (b + sl) / sl < d + 1 := Int.ediv_lt_of_lt_mul h (by rw [Int.add_mul, Int.one_mul, Int.mul_comm d sl]; omega)
  omega
/-- from p or above to below p - b, or back, takes at least fallI ticks -/
theorem Sg.fall (S : Sg lo hi sl xs) (h : 0 < sl) {i j : Nat} (hij : i < j) (hj : j < xs.length) (hv : (p ≤ X xs i ∧ X xs j < p - b) ∨ (X xs i < p - b ∧ p ≤ X xs j)) : fallI sl b ≤ (j : Int) - i := by
  obtain ⟨h1, h2⟩ := S.far i (j - i) (by omega)
  have e : i + (j - i) = j := by omega
  rw [e] at h1 h2
  have e2 : ((j - i : Nat) : Int) = (j : Int) - i := by omega
  rw [e2] at h1 h2
  refine fall_bound h ?_
  omega
structure RI (sl p b o u : Int) (xs : List Int) (k : Nat) (s : Bool) (c : Int) (rs : List Int) : Prop where
  c0 : 0 ≤ c
  ck : c ≤ k
  co : s = false → c ≤ o
  cu : s = true → c ≤ u
  cf : s = false → ∀ j : Nat, j < k → (k : Int) - c ≤ j → p ≤ X xs j
  ct : s = true → ∀ j : Nat, j < k → (k : Int) - c ≤ j → X xs j < p - b
  rg : ∀ r ∈ rs, o ≤ r ∧ r < k
  lt : s = true → ∃ (rs' : List Int) (r : Nat), rs = rs' ++ [(r : Int)] ∧ r < k ∧ p ≤ X xs r ∧ (r : Int) + 1 ≤ k - c
  lf : s = false → rs = [] ∨ ∃ (rs' : List Int) (r g f : Nat), rs = rs' ++ [(r : Int)] ∧ r < g ∧ (g : Int) + u = f ∧ f < k ∧ p ≤ X xs r ∧ X xs g < p - b ∧ X xs f < p - b ∧ (f : Int) + 1 ≤ k - c
  gp : 0 < sl → Gp (gapI sl b o u) rs
  sm : rs ≠ [] → ∃ j : Nat, j < k ∧ p ≤ X xs j
  fx : (∀ j : Nat, j < xs.length → p ≤ X xs j) → (s = false → rs = [] ∧ c = k) ∧ (s = true → rs = [o])
  nf : (∀ j : Nat, j < xs.length → p - b ≤ X xs j) → (s = false → rs = []) ∧ (s = true → rs.length = 1)
theorem ri_run (S : Sg lo hi sl xs) (hb : 0 ≤ b) (ho : 0 ≤ o) (hu : 0 ≤ u) : ∀ k : Nat, k ≤ xs.length → RI sl p b o u xs k (runL p b o u xs k).1 (runL p b o u xs k).2.1 (runL p b o u xs k).2.2
  | 0, _ => by
    refine ⟨Int.le_refl _, Int.le_refl _, fun _ => ho, fun h => (by cases h), fun _ j h => absurd h (Nat.not_lt_zero _), fun h => (by cases h), fun r h => absurd h (by simp [runL]), fun h => (by cases h), fun _ => .inl rfl, fun _ => Gp.nil, fun h => absurd rfl h, fun _ => ⟨fun _ => ⟨rfl, rfl⟩, fun h => (by cases h)⟩, fun _ => ⟨fun _ => rfl, fun h => (by cases h)⟩⟩
  | k + 1, hk => by
    have I := ri_run S hb ho hu k (by omega)
    have hv := S.at_ (show k < xs.length by omega)
    have e : runL p b o u xs (k + 1) = stp p b o u k (X xs k) (runL p b o u xs k) := rfl
    rw [e]
    generalize runL p b o u xs k = q at I ⊢
    obtain ⟨s, c, rs⟩ := q
    obtain ⟨c0, ck, co, cu, cf, ct, rg, lt, lf, gp, sm, fx, nf⟩ := I
    dsimp only at c0 ck co cu cf ct rg lt lf gp sm fx nf
    have rg' : ∀ r ∈ rs, o ≤ r ∧ r < ((k + 1 : Nat) : Int) := fun r hr => ⟨(rg r hr).1, by have := (rg r hr).2; omega⟩
    have sm' : rs ≠ [] → ∃ j : Nat, j < k + 1 ∧ p ≤ X xs j := fun h => (sm h).imp fun j z => ⟨by omega, z.2⟩
    cases s with
    | false =>
      by_cases h1 : p ≤ X xs k
      · have ec : cnt p b false c (X xs k) = c + 1 := by simp [cnt, h1]
        have all : ∀ j : Nat, j < k + 1 → ((k + 1 : Nat) : Int) - (c + 1) ≤ j → p ≤ X xs j := fun j hj hj2 => by
          by_cases e : j = k
          · rw [e]; exact h1
          · exact cf rfl j (by omega) (by omega)
        by_cases h2 : o < c + 1
        · have e2 : stp p b o u k (X xs k) (false, c, rs) = (true, 0, rs ++ [(k : Int)]) := by simp [stp, thr, ec, h2]
          rw [e2]
          dsimp only
          have ce : c = o := by have := co rfl; omega
          refine ⟨Int.le_refl _, by omega, fun h => (by cases h), fun _ => hu, fun h => (by cases h), fun _ j h1 h2 => by omega, fun r hr => ?_, fun _ => ⟨rs, k, rfl, by omega, h1, by omega⟩, fun h => (by cases h), fun hs => ?_, fun _ => ⟨k, by omega, h1⟩, fun h => ⟨fun h => (by cases h), fun _ => ?_⟩, fun h => ⟨fun h => (by cases h), fun _ => ?_⟩⟩
          · rcases List.mem_append.mp hr with hr | hr
            · exact rg' r hr
            · rw [List.mem_singleton.mp hr]; omega
          · rcases lf rfl with hn | ⟨rs', r, g, f, er, rg1, gf, fk, hr, hg, hf, fc⟩
            · rw [hn]; exact Gp.one
            · rw [er] at gp ⊢
              refine Gp.app (gp hs) ?_
              have a1 := S.fall hs rg1 (by omega) (.inl ⟨hr, hg⟩)
              have hko : (k : Int) - o = ((k - o.toNat : Nat) : Int) := by omega
              have a2 := S.fall (p := p) (b := b) hs (i := f) (j := k - o.toNat) (by omega) (by omega) (.inr ⟨hf, all _ (by omega) (by omega)⟩)
              unfold gapI
              omega
          · obtain ⟨z1, z2⟩ := (fx h).1 rfl
            rw [z1, show (k : Int) = o by omega]
            rfl
          · rw [(nf h).1 rfl]; rfl
        · have e2 : stp p b o u k (X xs k) (false, c, rs) = (false, c + 1, rs) := by simp [stp, thr, ec, h2]
          rw [e2]
          dsimp only
          refine ⟨by show 0 ≤ c + 1; omega, by show c + 1 ≤ _; omega, fun _ => by show c + 1 ≤ o; omega, fun h => (by cases h), fun _ => all, fun h => (by cases h), rg', fun h => (by cases h), fun _ => ?_, gp, sm', fun h => ⟨fun _ => ?_, fun h => (by cases h)⟩, fun h => ⟨fun _ => (nf h).1 rfl, fun h => (by cases h)⟩⟩
          · rcases lf rfl with hn | ⟨rs', r, g, f, er, rg1, gf, fk, hr, hg, hf, fc⟩
            · exact .inl hn
            · exact .inr ⟨rs', r, g, f, er, rg1, gf, by omega, hr, hg, hf, by omega⟩
          · obtain ⟨z1, z2⟩ := (fx h).1 rfl
            exact ⟨z1, by show c + 1 = _; omega⟩
      · have ec : cnt p b false c (X xs k) = 0 := by simp [cnt, h1]
        have e2 : stp p b o u k (X xs k) (false, c, rs) = (false, 0, rs) := by
          have : ¬ o < 0 := by omega
          simp [stp, thr, ec, this]
        rw [e2]
        dsimp only
        refine ⟨Int.le_refl _, by omega, fun _ => ho, fun h => (by cases h), fun _ j h1 h2 => by omega, fun h => (by cases h), rg', fun h => (by cases h), fun _ => ?_, gp, sm', fun h => absurd (h k (by omega)) h1, fun h => ⟨fun _ => (nf h).1 rfl, fun h => (by cases h)⟩⟩
        rcases lf rfl with hn | ⟨rs', r, g, f, er, rg1, gf, fk, hr, hg, hf, fc⟩
        · exact .inl hn
        · exact .inr ⟨rs', r, g, f, er, rg1, gf, by omega, hr, hg, hf, by omega⟩
    | true =>
      obtain ⟨rs', r, er, rk, hr, rc⟩ := lt rfl
      by_cases h1 : X xs k < p - b
      · have ec : cnt p b true c (X xs k) = c + 1 := by simp [cnt, h1]
        have all : ∀ j : Nat, j < k + 1 → ((k + 1 : Nat) : Int) - (c + 1) ≤ j → X xs j < p - b := fun j hj hj2 => by
          by_cases e : j = k
          · rw [e]; exact h1
          · exact ct rfl j (by omega) (by omega)
        by_cases h2 : u < c + 1
        · have e2 : stp p b o u k (X xs k) (true, c, rs) = (false, 0, rs) := by simp [stp, thr, ec, h2]
          rw [e2]
          dsimp only
          have ce : c = u := by have := cu rfl; omega
          refine ⟨Int.le_refl _, by omega, fun _ => ho, fun h => (by cases h), fun _ j h1 h2 => by omega, fun h => (by cases h), rg', fun h => (by cases h), fun _ => .inr ⟨rs', r, k - u.toNat, k, er, by omega, by omega, by omega, hr, all _ (by omega) (by omega), h1, by omega⟩, gp, sm', fun h => ?_, fun h => ?_⟩
          · have := h k (by omega)
            omega
          · have := h k (by omega)
            omega
        · have e2 : stp p b o u k (X xs k) (true, c, rs) = (true, c + 1, rs) := by simp [stp, thr, ec, h2]
          rw [e2]
          dsimp only
          exact ⟨by show 0 ≤ c + 1; omega, by show c + 1 ≤ _; omega, fun h => (by cases h), fun _ => by show c + 1 ≤ u; omega, fun h => (by cases h), fun _ => all, rg', fun _ => ⟨rs', r, er, by omega, hr, by show (r : Int) + 1 ≤ _ - (c + 1); omega⟩, fun h => (by cases h), gp, sm', fun h => ⟨fun h => (by cases h), fun _ => (fx h).2 rfl⟩, fun h => ⟨fun h => (by cases h), fun _ => (nf h).2 rfl⟩⟩
      · have ec : cnt p b true c (X xs k) = 0 := by simp [cnt, h1]
        have e2 : stp p b o u k (X xs k) (true, c, rs) = (true, 0, rs) := by
          have : ¬ u < 0 := by omega
          simp [stp, thr, ec, this]
        rw [e2]
        dsimp only
        exact ⟨Int.le_refl _, by omega, fun h => (by cases h), fun _ => hu, fun h => (by cases h), fun _ j h1 h2 => by omega, rg', fun _ => ⟨rs', r, er, by omega, hr, by omega⟩, fun h => (by cases h), gp, sm', fun h => ⟨fun h => (by cases h), fun _ => (fx h).2 rfl⟩, fun h => ⟨fun h => (by cases h), fun _ => (nf h).2 rfl⟩⟩
end
end Lw


set_option maxHeartbeats 1000000
namespace Lw
open PySem S2
theorem Gp.tail {g y : Int} {l : List Int} (h : Gp g (y :: l)) : Gp g l := fun k a b ha hb => h (k + 1) a b (by simpa using ha) (by simpa using hb)
theorem Gp.drop {g : Int} {l : List Int} (h : Gp g l) (n : Nat) : Gp g (l.drop n) := fun k a b ha hb => by
  rw [List.getElem?_drop] at ha hb
  exact h (n + k) a b ha (by rw [show n + k + 1 = n + (k + 1) by omega]; exact hb)
theorem Gp.cnt {g : Int} (hg : 0 < g) : ∀ (l : List Int) (y B : Int), Gp g (y :: l) → (B ≤ y → ((y :: l).filter fun x => decide (x < B)) = []) ∧ (y < B → (((y :: l).filter fun x => decide (x < B)).length - 1 : Int) * g ≤ B - 1 - y)
  | [], y, B, _ => by
    constructor
    · intro h
      have : ¬ y < B := by omega
      simp [this]
    · intro h
      simp [h]
      omega
  | z :: l, y, B, h => by
    have hz := h 0 y z rfl rfl
    obtain ⟨h1, h2⟩ := Gp.cnt hg l z B h.tail
    constructor
    · intro hB
      have : ¬ y < B := by omega
      rw [List.filter_cons_of_neg (by simpa using hB)]
      exact h1 (by omega)
    · intro hB
      rw [List.filter_cons_of_pos (by simpa using hB)]
      by_cases hzB : B ≤ z
      · rw [h1 hzB]
        simp; omega
      · have := h2 (by omega)
        have e : (((y :: ((z :: l).filter fun x => decide (x < B))).length : Nat) : Int) - 1 = (((z :: l).filter fun x => decide (x < B)).length - 1 : Int) + 1 := by
          rw [List.length_cons]; omega
        rw [e, Int.add_mul, Int.one_mul]
        omega
section
variable {lo hi sl p b o u : Int} {xs : List Int}
theorem ri_all (k : Ok lo hi sl p b o u) (S : Sg lo hi sl xs) : RI sl p b o u xs xs.length (runL p b o u xs xs.length).1 (runL p b o u xs xs.length).2.1 (ringsL p b o u xs) := ri_run S k.b1 k.o1 k.u1 xs.length (Nat.le_refl _)
theorem rg_all (k : Ok lo hi sl p b o u) (S : Sg lo hi sl xs) : ∀ r ∈ ringsL p b o u xs, o ≤ r ∧ r < xs.length := (ri_all k S).rg
theorem silent_none (k : Ok lo hi sl p b o u) (S : Sg lo hi sl xs) (h : kindS lo hi sl p b = N_silent) : ringsL p b o u xs = [] := by
  have hp : hi < p := by
    unfold kindS at h
    split at h
    · assumption
    · split at h
      · simp at h
      · split at h <;> simp at h
  by_cases e : ringsL p b o u xs = []
  · exact e
  · obtain ⟨j, hj, hv⟩ := (ri_all k S).sm e
    have := S.at_ hj
    omega
theorem flat (S : Sg lo hi 0 xs) {i j : Nat} (hi' : i < xs.length) (hj : j < xs.length) : X xs i = X xs j := by
  rcases Nat.le_total i j with h | h
  · have := S.far i (j - i) (by omega)
    rw [show i + (j - i) = j by omega] at this
    omega
  · have := S.far j (i - j) (by omega)
    rw [show j + (i - j) = i by omega] at this
    omega
theorem fixed_of (h : kindS lo hi sl p b = N_fixed) : p ≤ lo ∨ sl = 0 := by
  unfold kindS at h
  split at h
  · simp at h
  · split at h
    · assumption
    · split at h <;> simp at h
theorem single_of (h : kindS lo hi sl p b = N_single) : p - b ≤ lo := by
  unfold kindS at h
  split at h
  · simp at h
  · split at h
    · simp at h
    · split at h
      · assumption
      · simp at h
theorem fixed_ge (k : Ok lo hi sl p b o u) (S : Sg lo hi sl xs) (h : kindS lo hi sl p b = N_fixed) (hr : ringsL p b o u xs ≠ []) : ∀ j : Nat, j < xs.length → p ≤ X xs j := fun j hj => by
  rcases fixed_of h with z | z
  · have := S.at_ hj
    omega
  · subst z
    obtain ⟨i, hi', hv⟩ := (ri_all k S).sm hr
    rw [flat S hj hi']; exact hv
theorem fixed_o (k : Ok lo hi sl p b o u) (S : Sg lo hi sl xs) (h : kindS lo hi sl p b = N_fixed) : ∀ r ∈ ringsL p b o u xs, r = o := fun r hr => by
  have hne : ringsL p b o u xs ≠ [] := fun e => by rw [e] at hr; cases hr
  have := (ri_all k S).fx (fixed_ge k S h hne)
  cases e : (runL p b o u xs xs.length).1 with
  | true => rw [this.2 e] at hr; exact List.mem_singleton.mp hr
  | false => exact absurd (this.1 e).1 hne
theorem one_ring (k : Ok lo hi sl p b o u) (S : Sg lo hi sl xs) (h : kindS lo hi sl p b ≠ N_lively) : (ringsL p b o u xs).length ≤ 1 := by
  by_cases hne : ringsL p b o u xs = []
  · rw [hne]; simp
  · have hb := k.b1
    have nf : ∀ j : Nat, j < xs.length → p - b ≤ X xs j := fun j hj => by
      rcases kind_cases lo hi sl p b with e | e | e | e
      · exact absurd (silent_none k S e) hne
      · have := fixed_ge k S e hne j hj
        omega
      · have := single_of e
        have := S.at_ hj
        omega
      · exact absurd e h
    have := (ri_all k S).nf nf
    cases e : (runL p b o u xs xs.length).1 with
    | true => rw [this.2 e]; exact Nat.le_refl 1
    | false => rw [this.1 e]; simp
theorem lively_sl (k : Ok lo hi sl p b o u) (h : kindS lo hi sl p b = N_lively) : 0 < sl := by
  have := (lively_of h).2.2.1
  have := k.f4
  omega
theorem gaps (k : Ok lo hi sl p b o u) (S : Sg lo hi sl xs) (h : kindS lo hi sl p b = N_lively) : Gp (gapI sl b o u) (ringsL p b o u xs) := (ri_all k S).gp (lively_sl k h)
theorem most_le (k : Ok lo hi sl p b o u) (S : Sg lo hi sl xs) : ((ringsL p b o u xs).length : Int) ≤ mostI lo hi sl p b o u xs.length := by
  unfold mostI
  cases e : ringsL p b o u xs with
  | nil =>
    split
    · simp
    · split
      · simp
      · rename_i h1 h2
        have hl : kindS lo hi sl p b = N_lively := Classical.byContradiction h2
        have sp := lively_sl k hl
        obtain ⟨g1, g2⟩ := gapI_pos sp k
        have : ¬ (xs.length : Int) ≤ o := fun z => h1 (.inr z)
        have := Int.ediv_nonneg (show (0 : Int) ≤ xs.length - 1 - o by omega) (show 0 ≤ gapI sl b o u by omega)
        simp; omega
  | cons y l =>
    have hy := rg_all k S y (by rw [e]; exact List.mem_cons_self)
    split
    · rename_i h1
      rcases h1 with h1 | h1
      · rw [silent_none k S h1] at e; cases e
      · omega
    · split
      · rename_i h2
        have := one_ring k S h2
        rw [e] at this
        exact Int.ofNat_le.mpr this
      · rename_i h2
        have hl : kindS lo hi sl p b = N_lively := Classical.byContradiction h2
        have sp := lively_sl k hl
        obtain ⟨g1, g2⟩ := gapI_pos sp k
        have G := gaps k S hl
        rw [e] at G
        have := (Gp.cnt (show 0 < gapI sl b o u by omega) l y xs.length G).2 hy.2
        have fl : ((y :: l).filter fun x => decide (x < (xs.length : Int))) = y :: l := by
          rw [List.filter_eq_self]
          intro a ha
          have := rg_all k S a (by rw [e]; exact ha)
          simpa using this.2
        rw [fl] at this
        have h3 : (((y :: l).length : Nat) : Int) - 1 ≤ (xs.length - 1 - o) / gapI sl b o u := by
          rw [Int.le_ediv_iff_mul_le (by omega)]
          omega
        omega
theorem window_le (k : Ok lo hi sl p b o u) (S : Sg lo hi sl xs) (w : Int) (hw : 1 ≤ w) (j : Nat) (hj : j < (ringsL p b o u xs).length) : ((((ringsL p b o u xs).drop j).filter fun x => decide (x < (ringsL p b o u xs)[j] + w)).length : Int) ≤ windowI lo hi sl p b o u w := by
  have hd : (ringsL p b o u xs).drop j = (ringsL p b o u xs)[j] :: (ringsL p b o u xs).drop (j + 1) := List.drop_eq_getElem_cons hj
  unfold windowI
  split
  · rename_i h
    have := silent_none k S h
    rw [this] at hj; cases hj
  · split
    · rename_i h2
      have := one_ring k S h2
      have h3 := List.length_filter_le (fun x => decide (x < (ringsL p b o u xs)[j] + w)) ((ringsL p b o u xs).drop j)
      rw [List.length_drop] at h3
      omega
    · rename_i h2
      have hl : kindS lo hi sl p b = N_lively := Classical.byContradiction h2
      have sp := lively_sl k hl
      obtain ⟨g1, g2⟩ := gapI_pos sp k
      have G := (gaps k S hl).drop j
      rw [hd] at G ⊢
      have := (Gp.cnt (show 0 < gapI sl b o u by omega) _ _ ((ringsL p b o u xs)[j] + w) G).2 (by omega)
      have h3 : ((((ringsL p b o u xs)[j] :: (ringsL p b o u xs).drop (j + 1)).filter fun x => decide (x < (ringsL p b o u xs)[j] + w)).length - 1 : Int) ≤ (w - 1) / gapI sl b o u := by
        rw [Int.le_ediv_iff_mul_le (by omega)]
        omega
      omega
end
end Lw


set_option maxHeartbeats 1000000
namespace Lw
open PySem S2
section
variable {lo hi sl p b o u : Int}
theorem fall_hi (h : 0 < sl) : b < sl * fallI sl b := by
  have := Int.lt_ediv_add_one_mul_self (b + sl) h
  have e : ((b + sl) / sl + 1) * sl = sl * fallI sl b + sl := by unfold fallI; rw [Int.add_mul, Int.one_mul, Int.mul_comm]
  omega
theorem fall_lo (h : 0 < sl) : sl * (fallI sl b - 1) ≤ b := by
  have := Int.ediv_mul_le (b + sl) (show sl ≠ 0 by omega)
  have e : sl * (fallI sl b - 1) = (b + sl) / sl * sl - sl := by unfold fallI; rw [Int.mul_sub, Int.mul_one, Int.mul_comm]
  omega
theorem mul_le {a c : Int} (h : 0 < sl) (hac : a ≤ c) : sl * a ≤ sl * c := Int.mul_le_mul_of_nonneg_left hac (Int.le_of_lt h)
theorem wave1 (h : 0 < sl) (hu : 0 ≤ u) {φ : Int} (h0 : 0 ≤ φ) (h1 : φ < fallI sl b) : p - b ≤ waveI sl p b u φ := by
  have a := fall_lo (b := b) h
  have c := mul_le h (show φ ≤ fallI sl b - 1 by omega)
  unfold waveI
  rw [if_pos (by omega)]
  split <;> omega
theorem wave2 (h : 0 < sl) {φ : Int} (h1 : fallI sl b ≤ φ) (h2 : φ ≤ fallI sl b + u) : waveI sl p b u φ = p - b - 1 := by
  have a := fall_hi (b := b) h
  have c := mul_le h h1
  unfold waveI
  rw [if_pos h2, if_neg (by omega)]
theorem wave3 (h : 0 < sl) {φ : Int} (h1 : fallI sl b + u < φ) (h2 : φ < 2 * fallI sl b + u) : waveI sl p b u φ < p := by
  have a := fall_lo (b := b) h
  have c := mul_le h (show φ - (fallI sl b + u) ≤ fallI sl b - 1 by omega)
  unfold waveI
  rw [if_neg (by omega), if_pos (by omega)]
  omega
theorem wave4 (h : 0 < sl) (hb : 0 ≤ b) {φ : Int} (h1 : 2 * fallI sl b + u ≤ φ) : waveI sl p b u φ = p := by
  have a := fall_hi (b := b) h
  have f := fallI_pos h hb
  have c := mul_le h (show fallI sl b ≤ φ - (fallI sl b + u) by omega)
  unfold waveI
  rw [if_neg (by omega), if_neg (by omega)]
theorem wave5 (h : 0 < sl) (hb : 0 ≤ b) (hu : 0 ≤ u) : waveI sl p b u 0 = p := by
  have f := fallI_pos h hb
  unfold waveI
  rw [if_pos (by omega), Int.mul_zero, if_pos (by omega)]
  omega
theorem wave_rg (h : 0 < sl) (hb : 0 ≤ b) (φ : Int) (h0 : 0 ≤ φ) : p - b - 1 ≤ waveI sl p b u φ ∧ waveI sl p b u φ ≤ p := by
  have c := mul_le h h0
  rw [Int.mul_zero] at c
  unfold waveI
  split
  · split <;> omega
  · have c2 := mul_le h (show 0 ≤ φ - (fallI sl b + u) by omega)
    rw [Int.mul_zero] at c2
    split <;> omega
theorem wave6 (h : 0 < sl) (hb : 0 ≤ b) (hu : 0 ≤ u) {φ : Int} (h0 : 0 ≤ φ) : -sl ≤ waveI sl p b u (φ + 1) - waveI sl p b u φ ∧ waveI sl p b u (φ + 1) - waveI sl p b u φ ≤ sl := by
  have f := fallI_pos h hb
  have e : sl * (φ + 1) = sl * φ + sl := by rw [Int.mul_add, Int.mul_one]
  by_cases h1 : φ + 1 ≤ fallI sl b + u
  · unfold waveI
    rw [if_pos h1, if_pos (show φ ≤ fallI sl b + u by omega), e]
    split <;> split <;> omega
  · by_cases h2 : φ = fallI sl b + u
    · rw [wave2 h (show fallI sl b ≤ φ by omega) (show φ ≤ fallI sl b + u by omega)]
      unfold waveI
      rw [if_neg h1, show φ + 1 - (fallI sl b + u) = 1 by omega, Int.mul_one]
      split <;> omega
    · have e2 : sl * (φ + 1 - (fallI sl b + u)) = sl * (φ - (fallI sl b + u)) + sl := by
        rw [show φ + 1 - (fallI sl b + u) = (φ - (fallI sl b + u)) + 1 by omega, Int.mul_add, Int.mul_one]
      unfold waveI
      rw [if_neg h1, if_neg (show ¬ φ ≤ fallI sl b + u by omega), e2]
      split <;> split <;> omega
theorem wave7 (h : 0 < sl) (hb : 0 ≤ b) (hu : 0 ≤ u) (ho : 0 ≤ o) : -sl ≤ waveI sl p b u 0 - waveI sl p b u (gapI sl b o u - 1) ∧ waveI sl p b u 0 - waveI sl p b u (gapI sl b o u - 1) ≤ sl := by
  have f := fallI_pos h hb
  have a := fall_hi (b := b) h
  rw [wave5 h hb hu]
  unfold gapI
  by_cases h1 : 1 ≤ o
  · rw [wave4 h hb (by omega)]; omega
  · by_cases h2 : fallI sl b = 1
    · rw [wave2 h (by omega) (by omega)]
      rw [h2, Int.mul_one] at a
      omega
    · have e2 : sl * fallI sl b = sl * (2 * fallI sl b + o + u - 1 - (fallI sl b + u)) + sl := by
        rw [show 2 * fallI sl b + o + u - 1 - (fallI sl b + u) = fallI sl b - 1 by omega, Int.mul_sub, Int.mul_one]; omega
      unfold waveI
      rw [if_neg (by omega)]
      split <;> omega
theorem mod_of {G q r : Int} (h0 : 0 ≤ r) (h1 : r < G) : (q * G + r) % G = r := by
  rw [Int.add_comm, Int.add_mul_emod_self_right]
  exact Int.emod_eq_of_lt h0 h1
theorem div_of {G q r : Int} (h0 : 0 ≤ r) (h1 : r < G) : (q * G + r) / G = q := by
  rw [Int.add_comm, Int.add_mul_ediv_right _ _ (by omega), Int.ediv_eq_zero_of_lt h0 h1]
  omega
theorem busy_len (ring : Int) (n : Nat) : (busyL lo hi sl p b o u ring n).length = n := by unfold busyL; rw [List.length_map, List.length_range']
theorem busy_at (ring : Int) (n j : Nat) (h : j < n) : X (busyL lo hi sl p b o u ring n) j = valI lo hi sl p b o u ring j := by
  unfold X busyL
  rw [List.getElem?_map, List.getElem?_range' h]
  simp
end
end Lw



set_option maxHeartbeats 1000000
namespace Lw
open PySem S2
section
variable {lo hi sl p b o u : Int} {r : Int}
theorem not_silent (h : kindS lo hi sl p b ≠ N_silent) : p ≤ hi := by
  unfold kindS at h
  split at h
  · exact absurd rfl h
  · omega
theorem single_of2 (h : kindS lo hi sl p b = N_single) : lo < p ∧ p ≤ hi ∧ sl ≠ 0 := by
  have h1 := not_silent (lo := lo) (hi := hi) (sl := sl) (p := p) (b := b) (by rw [h]; simp)
  unfold kindS at h
  split at h
  · simp at h
  · split at h
    · simp at h
    · rename_i h2
      exact ⟨by have : ¬ p ≤ lo := fun z => h2 (.inl z); omega, h1, fun z => h2 (.inr z)⟩
theorem val_flat (hk : kindS lo hi sl p b = N_silent ∨ kindS lo hi sl p b = N_fixed) (t : Int) : valI lo hi sl p b o u r t = hi := by
  unfold valI
  rw [if_pos hk]
theorem valp (hk : kindS lo hi sl p b = N_single ∨ kindS lo hi sl p b = N_lively) {t : Int} (h : t < r - o) : valI lo hi sl p b o u r t = p - 1 := by
  unfold valI
  rcases hk with hk | hk <;> rw [hk] <;> simp [h]
theorem valq (hk : kindS lo hi sl p b = N_single ∨ kindS lo hi sl p b = N_lively) {t : Int} (h : ¬ t < r - o) (h2 : t ≤ r) : valI lo hi sl p b o u r t = p := by
  unfold valI
  rcases hk with hk | hk <;> rw [hk] <;> simp [h, h2]
theorem vals_ (hk : kindS lo hi sl p b = N_single) {t : Int} (h : ¬ t < r - o) : valI lo hi sl p b o u r t = p := by
  unfold valI
  rw [hk]
  simp [h]
theorem valw (hk : kindS lo hi sl p b = N_lively) (hr : 0 ≤ o) {t : Int} (h : r < t) : valI lo hi sl p b o u r t = waveI sl p b u ((t - r) % gapI sl b o u) := by
  unfold valI
  have h1 : ¬ t < r - o := by omega
  have h2 : ¬ t ≤ r := by omega
  rw [hk]
  simp [h1, h2]
/-- up to the first ring -/
theorem pre_run (k0 : Ok lo hi sl p b o u) (hk : kindS lo hi sl p b = N_single ∨ kindS lo hi sl p b = N_lively) (hro : o ≤ r) (n : Nat) : ∀ k : Nat, k ≤ n → (k : Int) ≤ r → runL p b o u (busyL lo hi sl p b o u r n) k = (false, if (k : Int) < r - o then 0 else k - (r - o), [])
  | 0, _, _ => by
    have o1 := k0.o1
    by_cases h : (0 : Int) < r - o
    · simp [runL]; omega
    · simp [runL]; omega
  | k + 1, hn, hr => by
    have hx := busy_at (lo := lo) (hi := hi) (sl := sl) (p := p) (b := b) (o := o) (u := u) r n k (by omega)
    have e : runL p b o u (busyL lo hi sl p b o u r n) (k + 1) = stp p b o u k (X (busyL lo hi sl p b o u r n) k) (runL p b o u (busyL lo hi sl p b o u r n) k) := rfl
    rw [e, hx, pre_run k0 hk hro n k (by omega) (by omega)]
    have o1 := k0.o1
    have ho : ¬ o < 0 := by omega
    by_cases h : (k : Int) < r - o
    · rw [valp hk h, if_pos h]
      have ec : cnt p b false 0 (p - 1) = 0 := by simp [cnt]; omega
      simp only [stp, thr, ec, Bool.false_eq_true, if_false, ho]
      by_cases h2 : (k : Int) + 1 < r - o
      · rw [if_pos (by omega)]
      · rw [if_neg (by omega), show ((k + 1 : Nat) : Int) - (r - o) = 0 by omega]
    · rw [valq hk h (by omega), if_neg h]
      have ec : cnt p b false ((k : Int) - (r - o)) p = (k : Int) - (r - o) + 1 := by simp [cnt]
      have h' : ¬ o < (k : Int) - (r - o) + 1 := by omega
      simp only [stp, thr, ec, Bool.false_eq_true, if_false, h']
      rw [if_neg (by omega), show ((k + 1 : Nat) : Int) - (r - o) = (k : Int) - (r - o) + 1 by omega]
theorem first_ring (k0 : Ok lo hi sl p b o u) (hk : kindS lo hi sl p b = N_single ∨ kindS lo hi sl p b = N_lively) (hro : o ≤ r) (n k : Nat) (hn : k < n) (hr : (k : Int) = r) : runL p b o u (busyL lo hi sl p b o u r n) (k + 1) = (true, 0, [r]) := by
  have hx := busy_at (lo := lo) (hi := hi) (sl := sl) (p := p) (b := b) (o := o) (u := u) r n k hn
  have e : runL p b o u (busyL lo hi sl p b o u r n) (k + 1) = stp p b o u k (X (busyL lo hi sl p b o u r n) k) (runL p b o u (busyL lo hi sl p b o u r n) k) := rfl
  have o1 := k0.o1
  have h : ¬ (k : Int) < r - o := by omega
  rw [e, hx, pre_run k0 hk hro n k (by omega) (by omega), valq hk h (by omega), if_neg h]
  have ec : cnt p b false ((k : Int) - (r - o)) p = (k : Int) - (r - o) + 1 := by simp [cnt]
  have h' : o < (k : Int) - (r - o) + 1 := by omega
  simp only [stp, thr, ec, Bool.false_eq_true, if_false, if_pos h']
  rw [hr]
  rfl
/-- behind k ticks of the lively wave -/
theorem busy_run (k0 : Ok lo hi sl p b o u) (hk : kindS lo hi sl p b = N_lively) (hro : o ≤ r) (n : Nat) : ∀ k : Nat, k ≤ n → r < k →
    ∃ (q : Nat) (φ : Int), (k : Int) - 1 - r = q * gapI sl b o u + φ ∧ 0 ≤ φ ∧ φ < gapI sl b o u ∧
      runL p b o u (busyL lo hi sl p b o u r n) k = (decide (φ < fallI sl b + u), if φ < fallI sl b then 0 else if φ < fallI sl b + u then φ - fallI sl b + 1 else if φ < 2 * fallI sl b + u then 0 else φ - 2 * fallI sl b - u + 1,
        (List.range (q + 1)).map fun j : Nat => r + j * gapI sl b o u)
  | 0, _, h => absurd h (by have := k0.o1; omega)
  | k + 1, hn, hrk => by
    have sp := lively_sl k0 hk
    have f := fallI_pos sp k0.b1
    obtain ⟨g1, g2⟩ := gapI_pos sp k0
    have o1 := k0.o1
    have u1 := k0.u1
    have b1 := k0.b1
    by_cases hkr : (k : Int) = r
    · rw [first_ring k0 (.inr hk) hro n k (by omega) hkr]
      have e1 : (0 : Int) < fallI sl b + u := by omega
      have e2 : (0 : Int) < fallI sl b := by omega
      refine ⟨0, 0, by simp; omega, Int.le_refl _, by omega, ?_⟩
      simp [e1, e2]
    have hr : r < k := by omega
    have hr0 : (0 : Int) ≤ o := o1
    have hx := busy_at (lo := lo) (hi := hi) (sl := sl) (p := p) (b := b) (o := o) (u := u) r n k (by omega)
    have e : runL p b o u (busyL lo hi sl p b o u r n) (k + 1) = stp p b o u k (X (busyL lo hi sl p b o u r n) k) (runL p b o u (busyL lo hi sl p b o u r n) k) := rfl
    rw [e, hx]
    obtain ⟨q, φ, h1, h2, h3, h4⟩ := busy_run k0 hk hro n k (by omega) hr
    rw [h4, valw hk hr0 hr]
    by_cases hE : φ + 1 = gapI sl b o u
    · -- a ring
      have z : ((q + 1 : Nat) : Int) * gapI sl b o u = q * gapI sl b o u + gapI sl b o u := by rw [Int.natCast_add, Int.add_mul]; simp
      have em : ((k : Int) - r) % gapI sl b o u = 0 := by
        have : (k : Int) - r = ((q + 1 : Nat) : Int) * gapI sl b o u + 0 := by rw [z]; omega
        rw [this]
        exact mod_of (Int.le_refl _) (by omega)
      rw [em, wave5 sp b1 u1]
      refine ⟨q + 1, 0, by rw [z]; omega, Int.le_refl _, by omega, ?_⟩
      have s0 : ¬ φ < fallI sl b + u := by unfold gapI at hE; omega
      have s1 : ¬ φ < fallI sl b := by omega
      have e1 : (0 : Int) < fallI sl b + u := by omega
      have e2 : (0 : Int) < fallI sl b := by omega
      have ek : (k : Int) = r + ((q + 1 : Nat) : Int) * gapI sl b o u := by rw [z]; omega
      have ec : o < (if φ < 2 * fallI sl b + u then 0 else φ - 2 * fallI sl b - u + 1) + 1 := by unfold gapI at hE; split <;> omega
      rw [List.range_succ (n := q + 1), List.map_append, List.map_singleton, ← ek]
      simp [stp, thr, cnt, s0, s1, e1, e2, ec]
    · have em : ((k : Int) - r) % gapI sl b o u = φ + 1 := by
        rw [show (k : Int) - r = (q : Int) * gapI sl b o u + (φ + 1) by omega]
        exact mod_of (by omega) (by omega)
      rw [em]
      refine ⟨q, φ + 1, by omega, by omega, by omega, ?_⟩
      have hG : φ + 1 < 2 * fallI sl b + o + u := by unfold gapI at h3 hE; omega
      by_cases hA : φ + 1 < fallI sl b
      · have w := wave1 (p := p) (b := b) (u := u) sp u1 (show 0 ≤ φ + 1 by omega) hA
        have s0 : φ < fallI sl b + u := by omega
        have s1 : φ < fallI sl b := by omega
        have s2 : φ + 1 < fallI sl b + u := by omega
        have w' : ¬ waveI sl p b u (φ + 1) < p - b := by omega
        have u' : ¬ u < 0 := by omega
        simp [stp, thr, cnt, s0, s1, s2, hA, w', u']
      · by_cases hB : φ + 1 ≤ fallI sl b + u
        · have w := wave2 (p := p) (b := b) (u := u) sp (show fallI sl b ≤ φ + 1 by omega) hB
          have s0 : φ < fallI sl b + u := by omega
          have w' : waveI sl p b u (φ + 1) < p - b := by omega
          have ec : (if φ < fallI sl b then (0 : Int) else if φ < fallI sl b + u then φ - fallI sl b + 1 else if φ < 2 * fallI sl b + u then 0 else φ - 2 * fallI sl b - u + 1) + 1 = φ + 1 - fallI sl b + 1 := by
            rw [if_pos s0]; split <;> omega
          by_cases hC : φ + 1 < fallI sl b + u
          · have t1 : ¬ u < φ + 1 - fallI sl b + 1 := by omega
            rw [if_neg hA, if_pos hC]
            simp only [stp, thr, cnt, decide_eq_true s0, decide_eq_true hC, decide_eq_true w', if_true, ec, t1, if_false]
          · have t1 : u < φ + 1 - fallI sl b + 1 := by omega
            have s3 : φ + 1 < 2 * fallI sl b + u := by omega
            rw [if_neg hA, if_neg hC, if_pos s3]
            simp only [stp, thr, cnt, decide_eq_true s0, decide_eq_true w', if_true, ec, t1, decide_eq_false hC]
            rfl
        · have s0 : ¬ φ < fallI sl b + u := by omega
          have s1 : ¬ φ < fallI sl b := by omega
          have s2 : ¬ φ + 1 < fallI sl b + u := by omega
          by_cases hD : φ + 1 < 2 * fallI sl b + u
          · have w := wave3 (p := p) (b := b) (u := u) sp (show fallI sl b + u < φ + 1 by omega) hD
            have w' : ¬ p ≤ waveI sl p b u (φ + 1) := by omega
            have o' : ¬ o < 0 := by omega
            have s3 : φ < 2 * fallI sl b + u := by omega
            simp [stp, thr, cnt, s0, s1, s2, hA, hD, s3, w', o']
          · have w := wave4 (p := p) (b := b) (u := u) sp b1 (show 2 * fallI sl b + u ≤ φ + 1 by omega)
            have ec : (if φ < 2 * fallI sl b + u then (0 : Int) else φ - 2 * fallI sl b - u + 1) + 1 = φ + 1 - 2 * fallI sl b - u + 1 := by split <;> omega
            have t1 : ¬ o < φ + 1 - 2 * fallI sl b - u + 1 := by omega
            simp [stp, thr, cnt, s0, s1, s2, hA, hD, w, ec, t1]
end
end Lw


set_option maxHeartbeats 1000000
namespace Lw
open PySem S2
section
variable {lo hi sl p b o u : Int} {r : Int}
theorem val_rg (k0 : Ok lo hi sl p b o u) (hro : o ≤ r) {t : Int} (h0 : 0 ≤ t) : lo ≤ valI lo hi sl p b o u r t ∧ valI lo hi sl p b o u r t ≤ hi := by
  have := k0.f2
  have o1 := k0.o1
  rcases kind_cases lo hi sl p b with e | e | e | e
  · rw [val_flat (.inl e)]; omega
  · rw [val_flat (.inr e)]; omega
  · have := single_of2 e
    by_cases h : t < r - o
    · rw [valp (.inl e) h]; omega
    · rw [vals_ e h]; omega
  · obtain ⟨l1, l2, l3, l4⟩ := lively_of e
    have b1 := k0.b1
    by_cases h1 : t < r - o
    · rw [valp (.inr e) h1]; omega
    · by_cases h : t ≤ r
      · rw [valq (.inr e) h1 h]; omega
      · rw [valw e o1 (by omega)]
        have sp := lively_sl k0 e
        obtain ⟨g1, _⟩ := gapI_pos sp k0
        have := wave_rg (p := p) (u := u) sp k0.b1 ((t - r) % gapI sl b o u) (Int.emod_nonneg _ (by omega))
        omega
theorem val_st (k0 : Ok lo hi sl p b o u) (hro : o ≤ r) {t : Int} (h0 : 0 ≤ t) : -sl ≤ valI lo hi sl p b o u r (t + 1) - valI lo hi sl p b o u r t ∧ valI lo hi sl p b o u r (t + 1) - valI lo hi sl p b o u r t ≤ sl := by
  have f4 := k0.f4
  have o1 := k0.o1
  rcases kind_cases lo hi sl p b with e | e | e | e
  · rw [val_flat (.inl e), val_flat (.inl e)]; omega
  · rw [val_flat (.inr e), val_flat (.inr e)]; omega
  · obtain ⟨_, _, s3⟩ := single_of2 e
    by_cases h : t < r - o
    · rw [valp (.inl e) h]
      by_cases h' : t + 1 < r - o
      · rw [valp (.inl e) h']; omega
      · rw [vals_ e h']; omega
    · rw [vals_ e h, vals_ e (by omega)]; omega
  · have sp := lively_sl k0 e
    obtain ⟨g1, _⟩ := gapI_pos sp k0
    by_cases h1 : t < r - o
    · rw [valp (.inr e) h1]
      by_cases h' : t + 1 < r - o
      · rw [valp (.inr e) h']; omega
      · rw [valq (.inr e) h' (by omega)]; omega
    · by_cases h : t + 1 ≤ r
      · rw [valq (.inr e) h1 (by omega), valq (.inr e) (by omega) h]; omega
      · have w6 := fun φ h => wave6 (p := p) (u := u) sp k0.b1 k0.u1 (φ := φ) h
        by_cases h2 : t ≤ r
        · rw [valq (.inr e) h1 h2, valw e o1 (by omega)]
          have e1 : (t + 1 - r) % gapI sl b o u = 1 := by
            rw [show t + 1 - r = 1 by omega]
            exact Int.emod_eq_of_lt (by omega) (by omega)
          have := w6 0 (Int.le_refl _)
          rw [wave5 sp k0.b1 k0.u1, Int.zero_add] at this
          rw [e1]; exact this
        · rw [valw e o1 (by omega), valw e o1 (by omega)]
          have d := Int.emod_add_mul_ediv (t - r) (gapI sl b o u)
          have m0 := Int.emod_nonneg (t - r) (show gapI sl b o u ≠ 0 by omega)
          have m1 := Int.emod_lt_of_pos (t - r) (show 0 < gapI sl b o u by omega)
          generalize hφ : (t - r) % gapI sl b o u = φ at d m0 m1 ⊢
          generalize (t - r) / gapI sl b o u = q at d
          rw [Int.mul_comm] at d
          by_cases h3 : φ + 1 < gapI sl b o u
          · rw [show t + 1 - r = q * gapI sl b o u + (φ + 1) by omega, mod_of (by omega) h3]
            exact w6 φ m0
          · have z : (q + 1) * gapI sl b o u = q * gapI sl b o u + gapI sl b o u := by rw [Int.add_mul, Int.one_mul]
            rw [show t + 1 - r = (q + 1) * gapI sl b o u + 0 by omega, mod_of (Int.le_refl _) (by omega)]
            have := wave7 (p := p) (o := o) (u := u) sp k0.b1 k0.u1 k0.o1
            rw [show φ = gapI sl b o u - 1 by omega]
            exact this
theorem busy_sg (k0 : Ok lo hi sl p b o u) (hro : o ≤ r) (n : Nat) : Sg lo hi sl (busyL lo hi sl p b o u r n) := by
  refine ⟨fun x hx => ?_, fun k a c ha hc => ?_⟩
  · obtain ⟨t, _, rfl⟩ := List.mem_map.mp hx
    exact val_rg k0 hro (by omega)
  · have hl := (List.getElem?_eq_some_iff.mp hc).1
    rw [busy_len] at hl
    have e1 := busy_at (lo := lo) (hi := hi) (sl := sl) (p := p) (b := b) (o := o) (u := u) r n k (by omega)
    have e2 := busy_at (lo := lo) (hi := hi) (sl := sl) (p := p) (b := b) (o := o) (u := u) r n (k + 1) hl
    unfold X at e1 e2
    rw [ha] at e1
    rw [hc] at e2
    have e1 : a = valI lo hi sl p b o u r k := e1
    have e2 : c = valI lo hi sl p b o u r ((k + 1 : Nat) : Int) := e2
    rw [e1, e2, Int.natCast_add]
    exact val_st k0 hro (by omega)
def mxI (t o : Int) : Int := if t < o then o else t
def fromI (lo hi sl p b o u w t : Int) : Int := if kindS lo hi sl p b = N_silent ∨ t + w - 1 < o then 0 else if kindS lo hi sl p b = N_fixed then (if t ≤ o then 1 else 0) else if kindS lo hi sl p b = N_single then 1 else 1 + (t + w - 1 - mxI t o) / gapI sl b o u
def geN (t : Int) (l : List Int) : Nat := (l.filter fun x => decide (t ≤ x)).length
theorem geN_le (t : Int) (l : List Int) : geN t l ≤ l.length := List.length_filter_le _ _
theorem geN_none {t : Int} {l : List Int} (h : ∀ x ∈ l, x < t) : geN t l = 0 := by
  unfold geN
  rw [List.filter_eq_nil_iff.mpr fun x hx => by have := h x hx; simp; omega]
  rfl
theorem geN_all {t : Int} {l : List Int} (h : ∀ x ∈ l, t ≤ x) : geN t l = l.length := by
  unfold geN
  rw [List.filter_eq_self.mpr fun x hx => by simpa using h x hx]
theorem Gp.le_all {g : Int} (hg : 0 < g) : ∀ (l : List Int) (y : Int), Gp g (y :: l) → ∀ x ∈ l, y ≤ x
  | [], y, _ => fun x h => absurd h List.not_mem_nil
  | z :: l, y, h => fun x hx => by
    have hz := h 0 y z rfl rfl
    rcases List.mem_cons.mp hx with rfl | hx
    · omega
    · have := Gp.le_all hg l z h.tail x hx
      omega
theorem Gp.fil {g t : Int} (hg : 0 < g) : ∀ l : List Int, Gp g l → Gp g (l.filter fun x => decide (t ≤ x))
  | [], h => h
  | y :: l, h => by
    by_cases hy : t ≤ y
    · rw [List.filter_eq_self.mpr fun x hx => ?_]
      · exact h
      · rcases List.mem_cons.mp hx with rfl | hx
        · simpa using hy
        · have := Gp.le_all hg l y h x hx
          simp; omega
    · rw [List.filter_cons_of_neg (by simpa using hy)]
      exact Gp.fil hg l h.tail
theorem from_le (k0 : Ok lo hi sl p b o u) {xs : List Int} (S : Sg lo hi sl xs) {t w : Int} (hn : (xs.length : Int) = t + w) (ht : 0 ≤ t) (hw : 1 ≤ w) : (geN t (ringsL p b o u xs) : Int) ≤ fromI lo hi sl p b o u w t := by
  unfold fromI
  have rg := rg_all k0 S
  by_cases h1 : kindS lo hi sl p b = N_silent
  · rw [silent_none k0 S h1, if_pos (.inl h1)]; exact Int.le_refl _
  · by_cases h2 : t + w - 1 < o
    · rw [if_pos (.inr h2)]
      cases e : ringsL p b o u xs with
      | nil => exact Int.le_refl _
      | cons y l =>
        have := rg y (by rw [e]; exact List.mem_cons_self)
        omega
    · rw [if_neg (by rintro (z | z); exact h1 z; exact h2 z)]
      have le := geN_le t (ringsL p b o u xs)
      by_cases h3 : kindS lo hi sl p b = N_lively
      · rw [if_neg (by rw [h3]; simp), if_neg (by rw [h3]; simp)]
        have sp := lively_sl k0 h3
        obtain ⟨g1, _⟩ := gapI_pos sp k0
        have gp := (gaps k0 S h3).fil (t := t) (by omega)
        have mx : ∀ x ∈ (ringsL p b o u xs).filter (fun x => decide (t ≤ x)), mxI t o ≤ x ∧ x < t + w := fun x hx => by
          obtain ⟨hx1, hx2⟩ := List.mem_filter.mp hx
          have hx2 : t ≤ x := by simpa using hx2
          have := rg x hx1
          unfold mxI
          split <;> omega
        unfold geN
        generalize (ringsL p b o u xs).filter (fun x => decide (t ≤ x)) = F at gp mx ⊢
        cases F with
        | nil =>
          have : 0 ≤ (t + w - 1 - mxI t o) / gapI sl b o u := Int.ediv_nonneg (by unfold mxI; split <;> omega) (by omega)
          simp; omega
        | cons y l =>
          have hy := mx y List.mem_cons_self
          have c := (Gp.cnt (show 0 < gapI sl b o u by omega) l y (t + w) gp).2 hy.2
          rw [List.filter_eq_self.mpr fun x hx => by simpa using (mx x hx).2] at c
          have := Int.le_ediv_of_mul_le (show 0 < gapI sl b o u by omega) (Int.le_trans c (show t + w - 1 - y ≤ t + w - 1 - mxI t o by omega))
          omega
      · have one := one_ring k0 S h3
        rcases kind_cases lo hi sl p b with e | e | e | e
        · exact absurd e h1
        · rw [if_pos e]
          by_cases h4 : t ≤ o
          · rw [if_pos h4]; omega
          · rw [if_neg h4, geN_none fun x hx => by rw [fixed_o k0 S e x hx]; omega]
            exact Int.le_refl _
        · rw [if_neg (by rw [e]; simp), if_pos e]; omega
        · exact absurd e h3
theorem runL_pre (xs : List Int) (k : Nat) : ∀ d : Nat, ∃ s, (runL p b o u xs (k + d)).2.2 = (runL p b o u xs k).2.2 ++ s
  | 0 => ⟨[], by simp⟩
  | d + 1 => by
    obtain ⟨s, e⟩ := runL_pre xs k d
    show ∃ s, (stp p b o u _ _ (runL p b o u xs (k + d))).2.2 = _
    unfold stp
    split
    · split
      · exact ⟨s, e⟩
      · exact ⟨s ++ [_], by rw [← List.append_assoc, ← e]⟩
    · exact ⟨s, e⟩
theorem mxI_o (t o : Int) : o ≤ mxI t o ∧ t ≤ mxI t o := by unfold mxI; split <;> omega
theorem busy_from (k0 : Ok lo hi sl p b o u) {t w : Int} (n : Nat) (hn : (n : Int) = t + w) (ht : 0 ≤ t) (hw : 1 ≤ w) : (geN t (ringsL p b o u (busyL lo hi sl p b o u (mxI t o) n)) : Int) = fromI lo hi sl p b o u w t := by
  obtain ⟨m1, m2⟩ := mxI_o t o
  have S := busy_sg k0 m1 n
  have hl : (busyL lo hi sl p b o u (mxI t o) n).length = n := busy_len _ n
  have rg := rg_all k0 S
  rw [hl] at rg
  unfold fromI
  by_cases h1 : kindS lo hi sl p b = N_silent
  · rw [silent_none k0 S h1, if_pos (.inl h1)]; rfl
  · by_cases h2 : t + w - 1 < o
    · rw [if_pos (.inr h2)]
      cases e : ringsL p b o u (busyL lo hi sl p b o u (mxI t o) n) with
      | nil => rfl
      | cons y l =>
        have := rg y (by rw [e]; exact List.mem_cons_self)
        omega
    · rw [if_neg (by rintro (z | z); exact h1 z; exact h2 z)]
      have hm : mxI t o < n := by unfold mxI; split <;> omega
      have o1 := k0.o1
      rcases kind_cases lo hi sl p b with e | e | e | e
      · exact absurd e h1
      · rw [if_pos e]
        have hp := not_silent h1
        have ge : ∀ j : Nat, j < (busyL lo hi sl p b o u (mxI t o) n).length → p ≤ X (busyL lo hi sl p b o u (mxI t o) n) j := fun j hj => by
          rw [hl] at hj
          rw [busy_at _ n j hj, val_flat (.inr e)]; exact hp
        have R := ri_all k0 S
        have fx := R.fx ge
        cases q : (runL p b o u (busyL lo hi sl p b o u (mxI t o) n) (busyL lo hi sl p b o u (mxI t o) n).length).1 with
        | true =>
          rw [fx.2 q]
          by_cases h4 : t ≤ o
          · rw [if_pos h4, geN_all fun x hx => by rw [List.mem_singleton.mp hx]; exact h4]; rfl
          · rw [if_neg h4, geN_none fun x hx => by rw [List.mem_singleton.mp hx]; omega]; rfl
        | false =>
          obtain ⟨_, z⟩ := fx.1 q
          have := R.co q
          rw [z, hl] at this
          omega
      · rw [if_neg (by rw [e]; simp), if_pos e]
        have one := one_ring k0 S (by rw [e]; simp)
        obtain ⟨k, hk⟩ : ∃ k : Nat, (k : Int) = mxI t o := ⟨(mxI t o).toNat, by omega⟩
        have fr := first_ring k0 (.inl e) m1 n k (by omega) hk
        obtain ⟨s, hs⟩ := runL_pre (p := p) (b := b) (o := o) (u := u) (busyL lo hi sl p b o u (mxI t o) n) (k + 1) (n - (k + 1))
        rw [show k + 1 + (n - (k + 1)) = n by omega, fr] at hs
        have hs : ringsL p b o u (busyL lo hi sl p b o u (mxI t o) n) = [mxI t o] ++ s := by unfold ringsL; rw [hl]; exact hs
        rw [hs] at one ⊢
        cases s with
        | cons y s => simp at one
        | nil => rw [geN_all fun x hx => by rw [show x = mxI t o from List.mem_singleton.mp hx]; exact m2]; rfl
      · rw [if_neg (by rw [e]; simp), if_neg (by rw [e]; simp)]
        have sp := lively_sl k0 e
        obtain ⟨g1, _⟩ := gapI_pos sp k0
        obtain ⟨q, φ, e1, e2, e3, e4⟩ := busy_run k0 e m1 n n (Nat.le_refl _) hm
        have hs : ringsL p b o u (busyL lo hi sl p b o u (mxI t o) n) = (List.range (q + 1)).map fun j : Nat => mxI t o + j * gapI sl b o u := by unfold ringsL; rw [hl, e4]
        rw [hs, geN_all fun x hx => by
          obtain ⟨j, _, rfl⟩ := List.mem_map.mp hx
          have := Int.mul_nonneg (show (0 : Int) ≤ j by omega) (show 0 ≤ gapI sl b o u by omega)
          omega, List.length_map, List.length_range, show t + w - 1 - mxI t o = q * gapI sl b o u + φ by omega, div_of e2 e3]
        omega
theorem from_nonneg (k0 : Ok lo hi sl p b o u) {t w : Int} (ht : 0 ≤ t) (hw : 1 ≤ w) : 0 ≤ fromI lo hi sl p b o u w t := by
  have := busy_from k0 (t + w).toNat (by omega) ht hw
  omega
theorem from_late (k0 : Ok lo hi sl p b o u) {t T w : Int} (hT : o ≤ T) (h : T ≤ t) (hw : 1 ≤ w) : fromI lo hi sl p b o u w t ≤ fromI lo hi sl p b o u w T := by
  unfold fromI mxI
  by_cases h1 : kindS lo hi sl p b = N_silent
  · rw [if_pos (.inl h1), if_pos (.inl h1)]; exact Int.le_refl _
  · have a : ¬ (kindS lo hi sl p b = N_silent ∨ t + w - 1 < o) := by rintro (z | z); exact h1 z; omega
    have c : ¬ (kindS lo hi sl p b = N_silent ∨ T + w - 1 < o) := by rintro (z | z); exact h1 z; omega
    rw [if_neg a, if_neg c]
    split
    · split <;> split <;> omega
    · split
      · exact Int.le_refl _
      · rw [if_neg (show ¬ t < o by omega), if_neg (show ¬ T < o by omega), show t + w - 1 - t = w - 1 by omega, show T + w - 1 - T = w - 1 by omega]
        exact Int.le_refl _
end
end Lw


set_option maxHeartbeats 1000000
namespace Lw
open PySem S2
section
variable {lo hi sl p b o u : Int}
theorem lkind_ok (n : Nat) : callD tab.g (n + 1) N__law_kind [fld lo hi sl, stg p b o u] = .ok (.sh, .str (kindS lo hi sl p b)) := by
  rw [c__law_kind, b__law_kind]
  unfold kindS
  by_cases h1 : hi < p
  · simp [fld0, fld1, fld2, stg0, h1]
  · by_cases h2 : p ≤ lo
    · simp [fld0, fld1, fld2, stg0, h1, h2]
    · by_cases h3 : sl = 0
      · subst h3
        simp [fld0, fld1, fld2, stg0, h1, h2]
      · by_cases h4 : p - b ≤ lo <;> simp [fld0, fld1, fld2, stg0, stg1, h1, h2, h3, h4]
theorem neg_fall (h : 0 < sl) : -((-1 - b) / sl) = fallI sl b := by
  unfold fallI
  have e1 := Int.add_mul_ediv_right b 1 (show sl ≠ 0 by omega)
  rw [Int.one_mul] at e1
  rw [e1]
  have r0 := Int.emod_nonneg b (show sl ≠ 0 by omega)
  have r1 := Int.emod_lt_of_pos b h
  have r2 := Int.mul_ediv_add_emod b sl
  have e2 : -1 - b = (-(b / sl) - 1) * sl + (sl - 1 - b % sl) := by
    have : (-(b / sl) - 1) * sl = -(sl * (b / sl)) - sl := by rw [Int.sub_mul, Int.one_mul, Int.neg_mul, Int.mul_comm]
    omega
  rw [e2, div_of (by omega) (by omega)]
  omega
theorem lgap_ok (n : Nat) (h : 0 < sl) (h2 : sl ≤ 1000) : callD tab.g (n + 1) N__law_gap [fld lo hi sl, stg p b o u] = .ok (.sh, .int (gapI sl b o u)) := by
  rw [c__law_gap, b__law_gap]
  have e := neg_fall (b := b) h
  have e2 : gapI sl b o u = fallI sl b + u + fallI sl b + o := by unfold gapI; omega
  rw [e2, ← e]
  simp [fld2, stg1, stg2, stg3, div_ii _ sl h (by omega)]
/-- the gap as the law has it -/
def gapD (lo hi sl p b o u : Int) : D := if kindS lo hi sl p b = N_lively then .int (gapI sl b o u) else .non
end
end Lw



set_option maxHeartbeats 2000000
namespace Lw
open PySem S2
theorem case_ok (n : Nat) (c s : Int) : ∃ lo hi sl p b o u, callD tab.g (n + 2) N__law_case [.int c, .int s] = .ok (.sh, .tup [fld lo hi sl, stg p b o u]) ∧ Ok lo hi sl p b o u := by
  rw [c__law_case, b__law_case]
  obtain ⟨l, hl, hn, hx⟩ := row_ok n c 2003001 7 (by decide) (by decide) (by decide)
  match l, hn, hx, hl with
  | [x, y, z, q, r, t, w], _, hx, hl =>
    have hl : callD tab.g (n + 1) N__law_row [.int c, .int 7, .int 2003001] = .ok (.o1, .lst [.int x, .int y, .int z, .int q, .int r, .int t, .int w]) := hl
    have j0 : L2.atI [D.int x, .int y, .int z, .int q, .int r, .int t, .int w] 0 = some (.int x) := rfl
    have j1 : L2.atI [D.int x, .int y, .int z, .int q, .int r, .int t, .int w] 1 = some (.int y) := rfl
    have j2 : L2.atI [D.int x, .int y, .int z, .int q, .int r, .int t, .int w] 2 = some (.int z) := rfl
    have j3 : L2.atI [D.int x, .int y, .int z, .int q, .int r, .int t, .int w] 3 = some (.int q) := rfl
    have j4 : L2.atI [D.int x, .int y, .int z, .int q, .int r, .int t, .int w] 4 = some (.int r) := rfl
    have j5 : L2.atI [D.int x, .int y, .int z, .int q, .int r, .int t, .int w] 5 = some (.int t) := rfl
    have j6 : L2.atI [D.int x, .int y, .int z, .int q, .int r, .int t, .int w] 6 = some (.int w) := rfl
    obtain ⟨lo, elo⟩ : ∃ a, a = x % 2001 - 1000 := ⟨_, rfl⟩
    have lo0 : -1000 ≤ lo ∧ lo ≤ 1000 := by omega
    have p1 : 0 < 1001 - lo := by omega
    obtain ⟨hi, ehi⟩ : ∃ a, a = lo + y % (1001 - lo) := ⟨_, rfl⟩
    have u1 := Int.emod_nonneg y (show (1001 - lo : Int) ≠ 0 by omega)
    have u2 := Int.emod_lt_of_pos y p1
    have p2 : 0 < hi - lo + 2 := by omega
    have u3 := Int.emod_nonneg q (show (hi - lo + 2 : Int) ≠ 0 by omega)
    have u4 := Int.emod_lt_of_pos q p2
    have m1 := mod_ii x 2001 (by decide)
    have m2 := mod_ii y _ p1
    have m3 := mod_ii z 1001 (by decide)
    have m4 := mod_ii q 2001 (by decide)
    have m5 := mod_ii r 1001 (by decide)
    have m6 := mod_ii t 101 (by decide)
    have m7 := mod_ii w 101 (by decide)
    have m8 := mod_ii q _ p2
    have m9 := mod_ii r 40 (by decide)
    have n1 := mod_ii w 10 (by decide)
    by_cases s1 : s = 1
    · have s2 : ¬ 1 < s := by omega
      refine ⟨lo, hi, z % 1001, if lo + q % (hi - lo + 2) < 1000 then lo + q % (hi - lo + 2) else 1000, r % 40, t % 101, w % 10, by simp [hl, j0, j1, j2, j3, j4, j5, j6, m1, ← elo, m2, ← ehi, m3, m4, m5, m6, m7, m8, m9, n1, s1, s2, szL_of (show 4 ≤ 1000000 by decide), szL_of (show 3 ≤ 1000000 by decide), szL_of (show 2 ≤ 1000000 by decide)], ?_⟩
      constructor <;> first | omega | (split <;> omega)
    · by_cases s2 : 1 < s
      · obtain ⟨lo', elo'⟩ : ∃ a, a = x % 31 - 20 := ⟨_, rfl⟩
        obtain ⟨hi', ehi'⟩ : ∃ a, a = lo' + y % 30 := ⟨_, rfl⟩
        have p3 : 0 < hi' - lo' + 2 := by omega
        obtain ⟨p, ep⟩ : ∃ a, a = lo' + q % (hi' - lo' + 2) := ⟨_, rfl⟩
        have u5 := Int.emod_nonneg q (show (hi' - lo' + 2 : Int) ≠ 0 by omega)
        have u6 := Int.emod_lt_of_pos q p3
        have p4 : 0 < p - lo' + 2 := by omega
        have u7 := Int.emod_nonneg r (show (p - lo' + 2 : Int) ≠ 0 by omega)
        have u8 := Int.emod_lt_of_pos r p4
        have k1 := mod_ii x 31 (by decide)
        have k2 := mod_ii y 30 (by decide)
        have k3 := mod_ii z 12 (by decide)
        have k4 := mod_ii q _ p3
        have k5 := mod_ii r _ p4
        have k6 := mod_ii t 7 (by decide)
        have k7 := mod_ii w 7 (by decide)
        refine ⟨lo', hi', z % 12, p, r % (p - lo' + 2), t % 7, w % 7, by simp [hl, j0, j1, j2, j3, j4, j5, j6, m1, ← elo, m2, ← ehi, m3, m4, m5, m6, m7, k1, ← elo', k2, ← ehi', k3, k4, ← ep, k5, k6, k7, s1, s2, szL_of (show 4 ≤ 1000000 by decide), szL_of (show 3 ≤ 1000000 by decide), szL_of (show 2 ≤ 1000000 by decide)], ?_⟩
        constructor <;> omega
      · refine ⟨lo, hi, z % 1001, q % 2001 - 1000, r % 1001, t % 101, w % 101, by simp [hl, j0, j1, j2, j3, j4, j5, j6, m1, ← elo, m2, ← ehi, m3, m4, m5, m6, m7, s1, s2, szL_of (show 4 ≤ 1000000 by decide), szL_of (show 3 ≤ 1000000 by decide), szL_of (show 2 ≤ 1000000 by decide)], ?_⟩
        constructor <;> omega
end Lw


set_option maxHeartbeats 1000000
namespace Lw
open PySem S2
section
variable {lo hi sl p b o u : Int} {xs : List Int}
theorem all_ints (l : List Int) : (l.map D.int).all okV = true := by
  rw [List.all_eq_true]
  intro x hx
  obtain ⟨i, _, rfl⟩ := List.mem_map.mp hx
  rfl
theorem in_int {a z m : Int} (h0 : a ≤ m) (h1 : m ≤ z) : inB (.int m) a z = true := by rw [inB_int]; simp [h0, h1]
/-! the same -/
theorem sm_two (x : Str) (d : D) (h : Sm 1 d) : Sm 2 (.tup [.str x, d]) := sm_tup _ 1 (by simp) fun y hy => by
  rcases List.mem_cons.mp hy with rfl | hy
  · exact sm_str _
  · rw [List.mem_singleton.mp hy]; exact h
theorem sm_one (x : Str) : Sm 2 (.tup [.str x]) := sm_tup _ 1 (by simp) fun y hx => by
  rw [List.mem_singleton.mp hx]; exact sm_str _
theorem sm_gap : Sm 1 (gapD lo hi sl p b o u) := by
  unfold gapD
  split
  · exact sm_int _
  · exact sm_non
theorem sm_ints (l : List Int) (h : l.length ≤ 1000) : Sm 2 (.tup (l.map .int)) := sm_tup _ 1 (by rw [List.length_map]; omega) fun x hx => by
  obtain ⟨i, _, rfl⟩ := List.mem_map.mp hx
  exact sm_int i
/-! rings of a signal of the field -/
theorem sg_fault (S : Sg lo hi sl xs) (hx : xs.length ≤ 400) : faultD lo hi sl (.tup (xs.map .int)) = .non := by
  have e : (List.range (xs.map D.int).length).find? (badAt lo hi sl (xs.map .int)) = none := find_none fun k hk => by
    rw [List.length_map] at hk
    obtain ⟨r1, r2⟩ := S.at_ hk
    unfold badAt
    rw [List.getElem?_map, X_at hk]
    cases k with
    | zero => simp [r1, r2]
    | succ k =>
      have hk2 : k < xs.length := by omega
      obtain ⟨d1, d2⟩ := S.st k _ _ (X_at hk2) (X_at hk)
      have e1 := X_at hk2
      generalize X xs (k + 1) = A at r1 r2 d1 d2 ⊢
      generalize X xs k = B at d1 d2 e1
      have e2 : (xs.map D.int)[k + 1 - 1]? = some (.int B) := by
        show (xs.map D.int)[k]? = _
        rw [List.getElem?_map, e1]; rfl
      have e3 : (some A).map D.int = some (D.int A) := rfl
      rw [e2, e3]
      have z : ¬ sl < (if A - B < 0 then -(A - B) else A - B) := by split <;> omega
      simp [r1, r2]
      split <;> omega
  show (if 400 < (xs.map D.int).length then _ else _) = _
  rw [if_neg (by rw [List.length_map]; omega), e]
theorem rings_len : (ringsL p b o u xs).length ≤ xs.length := run_len xs xs.length
end
end Lw



set_option maxHeartbeats 1000000
namespace Lw
open PySem S2
@[simp] theorem int_bl (b : Bool) : biD .int [.bl b] = .ok (.int (if b = true then 1 else 0)) := by cases b <;> rfl
@[simp] theorem ints_map : ∀ l : List Int, intsOf (l.map D.int) = some l
  | [] => rfl
  | i :: l => by rw [List.map_cons, intsOf, ints_map l]; rfl
@[simp] theorem sum_map (l : List Int) : biD .sum [.lst (l.map D.int)] = .ok (.int l.sum) := by
  show (match intsOf (l.map D.int) with | some is => R.ok (D.int is.sum) | none => .no) = _
  rw [ints_map]
/-- a pair -/
structure Pr where
  lo : Int
  hi : Int
  sl : Int
  p : Int
  b : Int
  o : Int
  u : Int
abbrev Pr.f (q : Pr) : D := fld q.lo q.hi q.sl
abbrev Pr.s (q : Pr) : D := stg q.p q.b q.o q.u
abbrev Pr.d (q : Pr) : D := .tup [q.f, q.s]
def Pr.ok (q : Pr) : Prop := Ok q.lo q.hi q.sl q.p q.b q.o q.u
def Pr.frm (q : Pr) (w t : Int) : Int := fromI q.lo q.hi q.sl q.p q.b q.o q.u w t
def Pr.rng (q : Pr) (xs : List Int) : List Int := ringsL q.p q.b q.o q.u xs
def Pr.bsy (q : Pr) (t : Int) (n : Nat) : List Int := busyL q.lo q.hi q.sl q.p q.b q.o q.u (mxI t q.o) n
def Pr.sg (q : Pr) (xs : List Int) : Prop := Sg q.lo q.hi q.sl xs
theorem prf (q : Pr) : L2.atI [q.f, q.s] 0 = some q.f := rfl
theorem prs (q : Pr) : L2.atI [q.f, q.s] 1 = some q.s := rfl
theorem from_ok (n : Nat) (q : Pr) (k : q.ok) (w t : Int) : callD tab.g (n + 6) N_most_from [q.f, q.s, .int w, .int t] = .ok (.sh, .int (q.frm w t)) := by
  obtain ⟨lo, hi, sl, p, b, o, u⟩ := q
  have k : Ok lo hi sl p b o u := k
  rw [c_most_from, b_most_from]
  show _ = R.ok (Own.sh, D.int (fromI lo hi sl p b o u w t))
  unfold fromI mxI
  have hk := kind_of_ok n k
  rcases kind_cases lo hi sl p b with e | e | e | e <;> rw [e] at hk
  · simp [hk, e, stg2]
  · by_cases h : t + w - 1 < o
    · simp [hk, e, stg2, h]
    · by_cases h2 : t ≤ o <;> simp [hk, e, stg2, h, h2]
  · by_cases h : t + w - 1 < o <;> simp [hk, e, stg2, h]
  · by_cases h : t + w - 1 < o
    · simp [hk, e, stg2, h]
    · have sp := lively_sl k e
      obtain ⟨g1, g2⟩ := gapI_pos sp k
      simp [hk, e, stg2, h, gap_ok (n + 3) sp k.f5, div_ii _ (gapI sl b o u) (by omega) (by omega)]
theorem mapC_gen {α : Type} {f : D → R (Option OD)} {d y : α → D} : ∀ l : List α, (∀ x ∈ l, f (d x) = .ok (some (.sh, y x))) → mapC f (l.map d) = .ok (l.map fun x => (Own.sh, y x))
  | [], _ => rfl
  | x :: l, h => by
    rw [List.map_cons]
    show (f (d x)).bind (fun o => (mapC f (l.map d)).bind fun ys => .ok (consO o ys)) = _
    rw [h x List.mem_cons_self, mapC_gen l fun z hz => h z (List.mem_cons_of_mem _ hz)]
    rfl
theorem lc_gen {α : Type} {g : G} {C : Cal} {elt e : E} {tg : Tg} {env : S2.Env} {o : Own} {s : D} (l : List α) (d y : α → D) (hi : ev g C e env = .ok (o, s)) (hs : itD s = some (l.map d)) (hn : l.length ≤ 1000000)
    (h : ∀ x ∈ l, ∃ env', bindT tg (d x) env = some env' ∧ ev g C elt env' = .ok (.sh, y x)) : ev g C (.lc elt tg (.it e) .none) env = .ok (.o1, .lst (l.map y)) := by
  rw [ev_lc, items_it, hi]
  show (match itD s with | some l => R.ok ((o, s), l) | none => .no).bind _ = _
  rw [hs]
  show (mapC _ (l.map d)).tame.bind _ = _
  rw [mapC_gen (y := y) l fun x hx => ?_]
  · show (if (l.map d).length ≤ szL then R.ok (listOwn _, D.lst _) else R.no) = _
    rw [if_pos (by rw [List.length_map]; exact szL_of hn), own_shs, List.map_map]
    rfl
  · obtain ⟨env', h1, h2⟩ := h x hx
    rw [h1]
    show ((tsto g C .none env').tame.bind fun k => if k = true then (ev g C elt env').tame.bind fun y => .ok (some y) else .ok none) = _
    rw [tsto_none, h2]
    rfl
def totI (qs : List Pr) (w t : Int) : Int := (qs.map fun q => q.frm w t).sum
theorem total_ok (n : Nat) (qs : List Pr) (hq : ∀ q ∈ qs, q.ok) (hl : qs.length ≤ 1000) (w t : Int) : callD tab.g (n + 7) N_total_from [.tup (qs.map Pr.d), .int w, .int t] = .ok (.sh, .int (totI qs w t)) := by
  rw [c_total_from, b_total_from]
  have e : ev tab.g (cal tab.g (n + 6)) (.lc (.call N_most_from (.cons (.var 3) (.cons (.var 4) (.cons (.var 1) (.cons (.var 2) .nil))))) (.tp [3, 4]) (.it (.var 0)) .none) [some (.sh, .tup (qs.map Pr.d)), some (.sh, .int w), some (.sh, .int t), none, none] = .ok (.o1, .lst (qs.map fun q => D.int (q.frm w t))) := by
    refine lc_gen (o := .sh) (s := .tup (qs.map Pr.d)) qs Pr.d _ (by simp) rfl (by omega) fun q hm => ?_
    have h := from_ok n q (hq q hm) w t
    exact ⟨[some (.sh, .tup (qs.map Pr.d)), some (.sh, .int w), some (.sh, .int t), some (.sh, q.f), some (.sh, q.s)], by simp, by simp [h]⟩
  have s : biD .sum [.lst (qs.map fun q => D.int (q.frm w t))] = .ok (.int (totI qs w t)) := by
    have := sum_map (qs.map fun q => q.frm w t)
    rwa [List.map_map] at this
  simp [-ev_lc, e, s]
theorem tot_nonneg : ∀ {qs : List Pr}, (∀ q ∈ qs, q.ok) → ∀ {w t : Int}, 0 ≤ t → 1 ≤ w → 0 ≤ totI qs w t
  | [], _, _, _, _, _ => Int.le_refl _
  | q :: qs, h, w, t, ht, hw => by
    have h1 := from_nonneg (h q List.mem_cons_self) ht hw
    have h2 := tot_nonneg (fun x hx => h x (List.mem_cons_of_mem _ hx)) ht hw
    have h1 : 0 ≤ q.frm w t := h1
    unfold totI at h2 ⊢
    rw [List.map_cons, List.sum_cons]
    omega
theorem tot_late : ∀ {qs : List Pr}, (∀ q ∈ qs, q.ok) → ∀ {T t w : Int}, (∀ q ∈ qs, q.o ≤ T) → T ≤ t → 1 ≤ w → totI qs w t ≤ totI qs w T
  | [], _, _, _, _, _, _, _ => Int.le_refl _
  | q :: qs, h, T, t, w, hT, ht, hw => by
    have h1 := from_late (h q List.mem_cons_self) (hT q List.mem_cons_self) ht hw
    have h2 := tot_late (fun x hx => h x (List.mem_cons_of_mem _ hx)) (fun x hx => hT x (List.mem_cons_of_mem _ hx)) ht hw
    have h1 : q.frm w t ≤ q.frm w T := h1
    unfold totI at h2 ⊢
    rw [List.map_cons, List.sum_cons, List.map_cons, List.sum_cons]
    omega
/-! rows of pairs -/
/-- an item that is no pair -/
inductive BadP : D → Prop
  | nt {x : D} (h : isiD .tuple x = .ok false) : BadP x
  | ln {l : List D} (h : l.length ≠ 2) : BadP (.tup l)
  | fs {a c : D} (h1 : sv a = true) (h2 : sv c = true) (h : fieldB a = false ∨ settingB c = false) : BadP (.tup [a, c])
theorem cp_good (n : Nat) (q : Pr) (k0 : q.ok) (l : List D) (k : Nat) (hk : L2.atI l (k : Int) = some q.d) (s : S2.Slot) :
    exs tab.g (cal tab.g (n + 3)) L_check_pairs_0 [some (.sh, .tup l), some (.sh, .int k), s] = .nx [some (.sh, .tup l), some (.sh, .int k), some (.sh, q.d)] := by
  have f := is_field_ok n q.f rfl
  have g := is_setting_ok n q.s rfl
  rw [k0.f] at f
  rw [k0.s] at g
  simp [L_check_pairs_0, hk, prf, prs, f, g]
theorem cp_bad (n : Nat) (x : D) (hx : BadP x) (l : List D) (k : Nat) (hk : L2.atI l (k : Int) = some x) (s : S2.Slot) :
    ∃ env, exs tab.g (cal tab.g (n + 3)) L_check_pairs_0 [some (.sh, .tup l), some (.sh, .int k), s] = .exc env (.ob N_InvalidPair [N_position] [.int k]) := by
  cases hx with
  | nt h => cases hh : hasL x <;> simp [L_check_pairs_0, hk, h, hh]
  | @ln m h =>
    have h' : ¬ (m.length : Int) = 2 := by omega
    cases hh : hasL (.tup m) <;> simp only [hasL_tup] at hh <;> simp [L_check_pairs_0, hk, h', hh]
  | @fs a c h1 h2 h =>
    have f := is_field_ok n a h1
    have g := is_setting_ok n c h2
    have i0 : L2.atI [a, c] 0 = some a := rfl
    have i1 : L2.atI [a, c] 1 = some c := rfl
    cases hh : hasL a <;> cases hh2 : hasL c <;> cases e1 : fieldB a with
    | false => rw [e1] at f; simp [L_check_pairs_0, hk, i0, i1, f, hh, hh2]
    | true =>
      rw [e1] at f h
      have e2 : settingB c = false := h.resolve_left (by simp)
      rw [e2] at g
      simp [L_check_pairs_0, hk, i0, i1, f, g, hh, hh2]
theorem check_pairs_ok (n : Nat) (qs : List Pr) (hq : ∀ q ∈ qs, q.ok) (hl : qs.length ≤ 8) : callD tab.g (n + 4) N_check_pairs [.tup (qs.map Pr.d)] = .ok (.sh, .non) := by
  rw [c_check_pairs, b_check_pairs]
  have h8 : ¬ (8 : Int) < qs.length := by omega
  simp [h8, rng_nat (show qs.length ≤ 1000000 by omega)]
  refine forL_up (Post := fun o => endR (o.seq _) = .ok (.sh, .non)) (fun k env => ∃ s1 s2, env = [some (.sh, .tup (qs.map Pr.d)), s1, s2]) ⟨_, _, rfl⟩ (fun k env hk ⟨s1, s2, e⟩ => ?_) (fun env ⟨s1, s2, e⟩ => ?_)
  · subst e
    have a : L2.atI (qs.map Pr.d) (k : Int) = some qs[k].d := by rw [atI_nat (by rw [List.length_map]; exact hk), List.getElem_map]
    exact .inl ⟨_, .inl (cp_good n qs[k] (hq _ (List.getElem_mem hk)) _ k a s2), _, _, rfl⟩
  · subst e
    simp
theorem check_pairs_bad (n : Nat) (l : List D) (hl : l.length ≤ 8) (at_ : Nat) (x : D) (h1 : ∀ j < at_, ∃ q : Pr, q.ok ∧ l[j]? = some q.d) (h2 : l[at_]? = some x) (hx : BadP x) : callD tab.g (n + 4) N_check_pairs [.tup l] = .exc (.ob N_InvalidPair [N_position] [.int at_]) := by
  rw [c_check_pairs, b_check_pairs]
  have h8 : ¬ (8 : Int) < l.length := by omega
  have hat := (List.getElem?_eq_some_iff.mp h2).1
  simp [h8, rng_nat (show l.length ≤ 1000000 by omega)]
  have toI : ∀ {j : Nat} {y : D}, l[j]? = some y → L2.atI l (j : Int) = some y := fun {j y} h => by
    obtain ⟨hj, e⟩ := List.getElem?_eq_some_iff.mp h
    rw [atI_nat hj, e]
  refine forL_up (Post := fun o => endR (o.seq _) = .exc (.ob N_InvalidPair [N_position] [.int at_])) (fun k env => k ≤ at_ ∧ ∃ s1 s2, env = [some (.sh, .tup l), s1, s2]) ⟨Nat.zero_le _, _, _, rfl⟩ (fun k env hk ⟨hka, s1, s2, e⟩ => ?_) (fun env ⟨hka, s1, s2, e⟩ => ?_)
  · subst e
    by_cases hk2 : k = at_
    · subst hk2
      obtain ⟨env, e⟩ := cp_bad n x hx l k (toI h2) s2
      have e' : exs tab.g (cal tab.g (n + 3)) L_check_pairs_0 (List.set [some (.sh, .tup l), s1, s2] 1 (some (.sh, .int k))) = .exc env (.ob N_InvalidPair [N_position] [.int k]) := e
      refine .inr (.inr ⟨by show Out.stop (exs tab.g (cal tab.g (n + 3)) L_check_pairs_0 _) = true; exact (congrArg Out.stop e'), ?_⟩)
      show endR ((exs tab.g (cal tab.g (n + 3)) L_check_pairs_0 (List.set [some (.sh, .tup l), s1, s2] 1 (some (.sh, .int k)))).seq _) = _
      rw [e']
      rfl
    · obtain ⟨q, k0, e⟩ := h1 k (by omega)
      exact .inl ⟨_, .inl (cp_good n q k0 l k (toI e) s2), by omega, _, _, rfl⟩
  · omega
end Lw


set_option maxHeartbeats 1000000
namespace Lw
open PySem S2
theorem hasLs_all {α : Type} (f : α → D) (h : ∀ x, hasL (f x) = false) : ∀ l : List α, hasLs (l.map f) = false
  | [] => by simp
  | x :: l => by rw [List.map_cons, hasLs_cons, h x, hasLs_all f h l]; rfl
@[simp] theorem hasLs_tups {α : Type} (l : List α) (f : α → List Int) : hasLs (l.map fun q => D.tup ((f q).map .int)) = false := hasLs_all _ (fun x => by simp) l
@[simp] theorem hasLs_prs (l : List Pr) : hasLs (l.map Pr.d) = false := hasLs_all _ (fun x => by simp) l
/-! the search -/
def srch (f : Int → Int) : Nat → Int × Int
  | 0 => (f 0, 0)
  | k + 1 => if (srch f k).1 < f (k + 1) then (f (k + 1), (k : Int) + 1) else srch f k
theorem srch_ok (f : Int → Int) : ∀ k : Nat, (srch f k).1 = f (srch f k).2 ∧ 0 ≤ (srch f k).2 ∧ (srch f k).2 ≤ k ∧ ∀ j : Nat, j ≤ k → f j ≤ (srch f k).1
  | 0 => ⟨rfl, Int.le_refl _, Int.le_refl _, fun j hj => by
    have : j = 0 := by omega
    subst this
    exact Int.le_refl _⟩
  | k + 1 => by
    obtain ⟨h1, h2, h3, h4⟩ := srch_ok f k
    unfold srch
    split
    · rename_i h
      refine ⟨rfl, by simp; omega, by simp, fun j hj => ?_⟩
      by_cases e : j = k + 1
      · subst e; exact Int.le_refl _
      · have := h4 j (by omega)
        simp; omega
    · rename_i h
      refine ⟨h1, h2, by omega, fun j hj => ?_⟩
      by_cases e : j = k + 1
      · subst e
        rw [Int.natCast_add]
        have : f (k + 1) ≤ (srch f k).1 := by omega
        exact this
      · exact h4 j (by omega)
theorem upto_one (n : Nat) : upto 1 n = (List.range' 0 n).map fun k : Nat => D.int ((k : Int) + 1) := by
  unfold upto
  rw [List.range_eq_range']
  exact List.map_congr_left fun a _ => by rw [Int.add_comm]
theorem forL_up1 {f : D → S2.Env → Out} {Post : Out → Prop} {n : Nat} {env : S2.Env} (Inv : Nat → S2.Env → Prop) (h0 : Inv 0 env) (step : ∀ k env, k < n → Inv k env → ∃ env', f (.int ((k : Int) + 1)) env = .nx env' ∧ Inv (k + 1) env')
    (hend : ∀ env, Inv n env → Post (.nx env)) : Post (forL f (upto 1 n) env) := by
  refine forL_ind (fun r env => ∃ k m, r = (List.range' k m).map (fun k : Nat => D.int ((k : Int) + 1)) ∧ k + m = n ∧ Inv k env) (fun x r env ⟨k, m, e, hm, i⟩ => ?_) (fun env ⟨k, m, e, hm, i⟩ => ?_) _ _ ⟨0, n, upto_one n, by omega, h0⟩
  · cases m with
    | zero => cases e
    | succ m =>
      rw [List.range'_succ, List.map_cons] at e
      injection e with e1 e2
      subst e1
      obtain ⟨env', e, i'⟩ := step k env (by omega) i
      exact .inl ⟨env', .inl e, k + 1, m, e2, by omega, i'⟩
  · cases m with
    | zero =>
      have : k = n := by omega
      subst this
      exact hend env i
    | succ m => rw [List.range'_succ, List.map_cons] at e; cases e
/-- the greatest on delay -/
def lastI (qs : List Pr) : Int := (qs.map Pr.o).foldl max 0
theorem foldl_max : ∀ (l : List Int) (a : Int), a ≤ l.foldl max a ∧ (∀ x ∈ l, x ≤ l.foldl max a) ∧ ∀ B, a ≤ B → (∀ x ∈ l, x ≤ B) → l.foldl max a ≤ B
  | [], a => ⟨Int.le_refl _, fun x h => absurd h List.not_mem_nil, fun B h _ => h⟩
  | y :: l, a => by
    obtain ⟨h1, h2, h3⟩ := foldl_max l (max a y)
    rw [List.foldl_cons]
    refine ⟨by omega, fun x hx => ?_, fun B h h' => h3 B ?_ fun x hx => h' x (List.mem_cons_of_mem _ hx)⟩
    · rcases List.mem_cons.mp hx with rfl | hx
      · omega
      · exact h2 x hx
    · have := h' y List.mem_cons_self
      omega
theorem last_ok {qs : List Pr} (hq : ∀ q ∈ qs, q.ok) : 0 ≤ lastI qs ∧ lastI qs ≤ 100 ∧ ∀ q ∈ qs, q.o ≤ lastI qs := by
  obtain ⟨h1, h2, h3⟩ := foldl_max (qs.map Pr.o) 0
  refine ⟨h1, h3 100 (by decide) fun x hx => ?_, fun q hm => h2 _ (List.mem_map.mpr ⟨q, hm, rfl⟩)⟩
  obtain ⟨q, hm, rfl⟩ := List.mem_map.mp hx
  exact (show Ok _ _ _ _ _ _ _ from hq q hm).o2
theorem maxd_ons {qs : List Pr} (hq : ∀ q ∈ qs, q.ok) : biD .maxd [.lst (qs.map fun q => D.int q.o), .int 0] = .ok (.int (lastI qs)) := by
  have e : (qs.map fun q => D.int q.o) = (qs.map Pr.o).map D.int := by rw [List.map_map]; rfl
  rw [e, maxd_i, ints_map]
  cases qs with
  | nil => rfl
  | cons q qs =>
    have h := (show Ok _ _ _ _ _ _ _ from hq q List.mem_cons_self).o1
    show R.ok (D.int ((qs.map Pr.o).foldl max q.o)) = R.ok (D.int ((q.o :: qs.map Pr.o).foldl max 0))
    rw [List.foldl_cons, show max 0 q.o = q.o by omega]
theorem max_ons {qs : List Pr} : biD .max [.lst (D.int 0 :: qs.map fun q => D.int q.o)] = .ok (.int (lastI qs)) := by
  have e : (D.int 0 :: qs.map fun q => D.int q.o) = (0 :: qs.map Pr.o).map D.int := by rw [List.map_cons, List.map_map]; rfl
  rw [e, max_l, ints_map]
  rfl
def bestI (qs : List Pr) (w : Int) : Int × Int := srch (fun t => totI qs w t) (lastI qs).toNat
theorem best_ok {qs : List Pr} (hq : ∀ q ∈ qs, q.ok) {w : Int} (hw : 1 ≤ w) : (bestI qs w).1 = totI qs w (bestI qs w).2 ∧ 0 ≤ (bestI qs w).2 ∧ (bestI qs w).2 ≤ lastI qs ∧ ∀ t, 0 ≤ t → totI qs w t ≤ (bestI qs w).1 := by
  obtain ⟨l1, l2, l3⟩ := last_ok hq
  obtain ⟨h1, h2, h3, h4⟩ := srch_ok (fun t => totI qs w t) (lastI qs).toNat
  refine ⟨h1, h2, by unfold bestI; omega, fun t ht => ?_⟩
  by_cases h : t ≤ lastI qs
  · have := h4 t.toNat (by omega)
    rw [Int.toNat_of_nonneg ht] at this
    exact this
  · have a := tot_late hq (T := lastI qs) (t := t) (w := w) l3 (by omega) hw
    have b := h4 (lastI qs).toNat (Nat.le_refl _)
    rw [Int.toNat_of_nonneg l1] at b
    exact Int.le_trans a b
theorem crowded_ok (n : Nat) (q : Pr) (k : q.ok) (w t : Int) (m : Nat) (hm : t + w = m) (h : m ≤ 1000) : callD tab.g (n + 7) N_crowded_signal [q.f, q.s, .int w, .int t] = .ok (.sh, .tup ((q.bsy t m).map .int)) := by
  obtain ⟨lo, hi, sl, p, b, o, u⟩ := q
  have k : Ok lo hi sl p b o u := k
  rw [c_crowded_signal, b_crowded_signal]
  have := signal_from_ok n k (mxI t o) m (by omega)
  unfold mxI at this
  show _ = R.ok (Own.sh, D.tup ((busyL lo hi sl p b o u (mxI t o) m).map .int))
  unfold mxI
  simp [stg2, hm, this]
/-- the pairs and their signals -/
abbrev Zr := List (Pr × List Int)
def zS (Z : Zr) : D := .tup (Z.map fun z => D.tup (z.2.map .int))
def bZ (qs : List Pr) (t : Int) (m : Nat) : Zr := qs.map fun q => (q, q.bsy t m)
theorem most_total_ok (n : Nat) (qs : List Pr) (hq : ∀ q ∈ qs, q.ok) (hl : qs.length ≤ 8) (w : Int) (w0 : 1 ≤ w) (w1 : w ≤ 100) (m : Nat) (hm : (bestI qs w).2 + w = m) :
    callD tab.g (n + 8) N_most_total [.tup (qs.map Pr.d), .int w] = .ok (.sh, .tup [.int (bestI qs w).1, .int (bestI qs w).2, zS (bZ qs (bestI qs w).2 m)]) := by
  rw [c_most_total, b_most_total]
  obtain ⟨l1, l2, l3⟩ := last_ok hq
  obtain ⟨b1, b2, b3, b4⟩ := best_ok hq w0
  have cp := check_pairs_ok (n + 3) qs hq hl
  have cn := check_number_ok (n + 4) (.int w) 1 100 N_width rfl
  rw [in_int w0 w1, if_pos rfl] at cn
  have tot := fun t => total_ok n qs hq (by omega) w t
  have e1 : ev tab.g (cal tab.g (n + 7)) (.lc (.ix (.var 4) (.int 2)) (.tp [3, 4]) (.it (.var 0)) .none) [some (.sh, .tup (qs.map Pr.d)), some (.sh, .int w), none, none, none, none, none, none, none, none] = .ok (.o1, .lst (qs.map fun q => D.int q.o)) := by
    refine lc_gen (o := .sh) (s := .tup (qs.map Pr.d)) qs Pr.d _ (by simp) rfl (by omega) fun q hm => ?_
    exact ⟨[some (.sh, .tup (qs.map Pr.d)), some (.sh, .int w), none, some (.sh, q.f), some (.sh, q.s), none, none, none, none, none], by simp, by simp [stg2]⟩
  have e2 := maxd_ons hq
  have r1 : rngD 1 (lastI qs + 1) = .ok (upto 1 (lastI qs).toNat) := by
    have a1 : small62 (lastI qs + 1) = true := absLe_of (by omega) (by omega)
    have a2 : small62 1 = true := rfl
    unfold rngD
    rw [a1, a2, show lastI qs + 1 - 1 = lastI qs by omega]
    rfl
  simp [-ev_lc, cp, cn, e1, e2, tot, r1]
  refine forL_up1 (Post := fun q => endR (q.seq _) = .ok (.sh, .tup [.int (bestI qs w).1, .int (bestI qs w).2, zS (bZ qs (bestI qs w).2 m)])) (fun k env => ∃ s7 s8, env = [some (.sh, .tup (qs.map Pr.d)), some (.sh, .int w), some (.sh, .int (lastI qs)), none, none, some (.sh, .int (srch (fun t => totI qs w t) k).1), some (.sh, .int (srch (fun t => totI qs w t) k).2), s7, s8, none]) ⟨_, _, rfl⟩ (fun k env hk ⟨s7, s8, e⟩ => ?_) (fun env ⟨s7, s8, e⟩ => ?_)
  · subst e
    have t1 := tot ((k : Int) + 1)
    by_cases h : (srch (fun t => totI qs w t) k).1 < totI qs w ((k : Int) + 1)
    · exact ⟨_, by simp [L_most_total_0, t1, h]; rfl, some (.sh, .int ((k : Int) + 1)), some (.sh, .int (totI qs w ((k : Int) + 1))), by rw [srch, if_pos h]⟩
    · exact ⟨_, by simp [L_most_total_0, t1, h]; rfl, some (.sh, .int ((k : Int) + 1)), some (.sh, .int (totI qs w ((k : Int) + 1))), by rw [srch, if_neg h]⟩
  · subst e
    have e3 : ev tab.g (cal tab.g (n + 7)) (.lc (.call N_crowded_signal (.cons (.var 3) (.cons (.var 4) (.cons (.var 1) (.cons (.var 6) .nil))))) (.tp [3, 4]) (.it (.var 0)) .none) [some (.sh, .tup (qs.map Pr.d)), some (.sh, .int w), some (.sh, .int (lastI qs)), none, none, some (.sh, .int (bestI qs w).1), some (.sh, .int (bestI qs w).2), s7, s8, none] = .ok (.o1, .lst (qs.map fun q => D.tup ((q.bsy (bestI qs w).2 m).map .int))) := by
      refine lc_gen (o := .sh) (s := .tup (qs.map Pr.d)) qs Pr.d _ (by simp) rfl (by omega) fun q hmem => ?_
      have c := crowded_ok n q (hq q hmem) w (bestI qs w).2 m hm (by omega)
      exact ⟨[some (.sh, .tup (qs.map Pr.d)), some (.sh, .int w), some (.sh, .int (lastI qs)), some (.sh, q.f), some (.sh, q.s), some (.sh, .int (bestI qs w).1), some (.sh, .int (bestI qs w).2), s7, s8, none], by simp, by simp [c]⟩
    have e4 : zS (bZ qs (bestI qs w).2 m) = .tup (qs.map fun q => D.tup ((q.bsy (bestI qs w).2 m).map .int)) := by unfold zS bZ; rw [List.map_map]; rfl
    have z3 := szL_of (show 3 ≤ 1000000 by decide)
    rw [e4]
    have hb : srch (fun t => totI qs w t) (lastI qs).toNat = bestI qs w := rfl
    rw [hb]
    simp [-ev_lc, e3, z3]
end Lw


set_option maxHeartbeats 1000000
namespace Lw
open PySem S2
section
variable {Z : Zr} {m : Nat} {w t : Int}
theorem check_pairs_nt (n : Nat) (x : D) (h : isiD .tuple x = .ok false) : callD tab.g (n + 4) N_check_pairs [x] = .exc (.ob N_InvalidPair [N_position] [.int (-1)]) := by
  rw [c_check_pairs, b_check_pairs]
  simp [h]
theorem check_pairs_many (n : Nat) (l : List D) (h : 8 < l.length) : callD tab.g (n + 4) N_check_pairs [.tup l] = .exc (.ob N_TooMany [N_bound] [.int 8]) := by
  rw [c_check_pairs, b_check_pairs]
  have : (8 : Int) < l.length := by omega
  simp [this]
theorem total_exc (n : Nat) (x w e : D) (h : callD tab.g (n + 7) N_check_pairs [x] = .exc e) : callD tab.g (n + 8) N_most_total [x, w] = .exc e := by
  rw [c_most_total, b_most_total]
  simp [h]
theorem total_w (n : Nat) (x w : D) (hw : okV w = true) (hb : inB w 1 100 = false) (h : callD tab.g (n + 7) N_check_pairs [x] = .ok (.sh, .non)) : callD tab.g (n + 8) N_most_total [x, w] = .exc (.ob N_OutOfRange [N_word] [.str N_width]) := by
  rw [c_most_total, b_most_total]
  have cn := check_number_ok (n + 4) w 1 100 N_width hw
  rw [hb] at cn
  simp [h, cn]
end
abbrev told (d : D) : D := .tup [.str N_told, d]
/-- what the suite makes of the exception -/
inductive E3 : D → D → Prop
  | p (i : Int) : E3 (.ob N_InvalidPair [N_position] [.int i]) (.tup [.str N_pair, .int i])
  | m (i : Int) : E3 (.ob N_TooMany [N_bound] [.int i]) (.tup [.str N_many, .int i])
  | r (w : Str) : E3 (.ob N_OutOfRange [N_word] [.str w]) (.tup [.str N_range, .str w])
  | f : E3 (.ob N_InvalidField [] []) (.tup [.str N_field])
  | g : E3 (.ob N_InvalidSetting [] []) (.tup [.str N_setting])
end Lw


set_option maxHeartbeats 2000000
namespace Lw
open PySem S2
theorem fs1 {a c : D} (h1 : sv a = true) (h2 : sv c = true) (h : fieldB a = false) : BadP (.tup [a, c]) := .fs h1 h2 (.inl h)
theorem fs2 {a c : D} (h1 : sv a = true) (h2 : sv c = true) (h : settingB c = false) : BadP (.tup [a, c]) := .fs h1 h2 (.inr h)
theorem spoilt_ok (n : Nat) (q : Pr) (k0 : q.ok) (c : Int) (h0 : 0 ≤ c) (h1 : c < 18) : ∃ v, callD tab.g (n + 1) N__law_spoilt_pair [.int c, q.d] = .ok (.sh, v) ∧ BadP v := by
  obtain ⟨lo, hi, sl, p, b, o, u⟩ := q
  have k : Ok lo hi sl p b o u := k0
  have f1 := k.f2
  rw [c__law_spoilt_pair, b__law_spoilt_pair]
  obtain ⟨v, e, p1⟩ := atI_P (l := [.lst [fld lo hi sl, stg p b o u], .tup [fld lo hi sl], .tup [fld lo hi sl, stg p b o u, .int 0], .tup [stg p b o u, fld lo hi sl], .non, .str N_pair, .int 3, .tup [], .tup [fld lo hi sl, .non],
    .tup [.tup [.int (hi + 1), .int hi, .int sl], stg p b o u], .tup [.tup [.int lo, .int 1001, .int sl], stg p b o u], .tup [.tup [.int lo, .int hi, .int (-1)], stg p b o u], .tup [.lst [.int lo, .int hi, .int sl], stg p b o u], .tup [fld lo hi sl, .lst [.int p, .int b, .int o, .int u]],
    .tup [fld lo hi sl, .tup [.int p, .int 1001, .int o, .int u]], .tup [fld lo hi sl, .tup [.int p, .int b, .int 101, .int 0]], .tup [fld lo hi sl, .tup [.int p, .int b, .int o, .bl true]], .tup [.tup [.int lo, .int hi, .bl false], stg p b o u]]) (i := c) (P := BadP) (by
      refine List.forall_mem_cons.mpr ⟨.nt rfl, ?_⟩
      refine List.forall_mem_cons.mpr ⟨.ln (by simp), ?_⟩
      refine List.forall_mem_cons.mpr ⟨.ln (by simp), ?_⟩
      refine List.forall_mem_cons.mpr ⟨fs1 rfl rfl rfl, ?_⟩
      refine List.forall_mem_cons.mpr ⟨.nt rfl, ?_⟩
      refine List.forall_mem_cons.mpr ⟨.nt rfl, ?_⟩
      refine List.forall_mem_cons.mpr ⟨.nt rfl, ?_⟩
      refine List.forall_mem_cons.mpr ⟨.ln (by simp), ?_⟩
      refine List.forall_mem_cons.mpr ⟨fs2 rfl rfl rfl, ?_⟩
      refine List.forall_mem_cons.mpr ⟨fs1 rfl rfl (by simp [fieldB, inB] <;> omega), ?_⟩
      refine List.forall_mem_cons.mpr ⟨fs1 rfl rfl (by simp [fieldB, inB] <;> omega), ?_⟩
      refine List.forall_mem_cons.mpr ⟨fs1 rfl rfl (by simp [fieldB, inB] <;> omega), ?_⟩
      refine List.forall_mem_cons.mpr ⟨fs1 rfl rfl rfl, ?_⟩
      refine List.forall_mem_cons.mpr ⟨fs2 rfl rfl rfl, ?_⟩
      refine List.forall_mem_cons.mpr ⟨fs2 rfl rfl (by simp [settingB, inB] <;> omega), ?_⟩
      refine List.forall_mem_cons.mpr ⟨fs2 rfl rfl (by simp [settingB, inB] <;> omega), ?_⟩
      refine List.forall_mem_cons.mpr ⟨fs2 rfl rfl (by simp [settingB, inB] <;> omega), ?_⟩
      refine List.forall_mem_cons.mpr ⟨fs1 rfl rfl (by simp [fieldB, inB] <;> omega), ?_⟩
      exact fun _ h => absurd h List.not_mem_nil) h0 h1
  refine ⟨v, ?_, p1⟩
  have i0 : L2.atI [fld lo hi sl, stg p b o u] 0 = some (fld lo hi sl) := rfl
  have i1 : L2.atI [fld lo hi sl, stg p b o u] 1 = some (stg p b o u) := rfl
  simp [i0, i1, fld0, fld1, fld2, stg0, stg1, stg2, stg3, e, listOwn, szL_of (show 1 ≤ 1000000 by decide), szL_of (show 2 ≤ 1000000 by decide), szL_of (show 3 ≤ 1000000 by decide), szL_of (show 4 ≤ 1000000 by decide), szL_of (show 9 ≤ 1000000 by decide), szL_of (show 11 ≤ 1000000 by decide), szL_of (show 14 ≤ 1000000 by decide), szL_of (show 16 ≤ 1000000 by decide), szL_of (show 18 ≤ 1000000 by decide)]
end Lw


set_option maxHeartbeats 2000000
namespace Lw
open PySem S2
@[simp] theorem hasLs_app : ∀ a b : List D, hasLs (a ++ b) = (hasLs a || hasLs b)
  | [], b => by simp
  | x :: a, b => by rw [List.cons_append, hasLs_cons, hasLs_cons, hasLs_app a b, Bool.or_assoc]
theorem hasLs_rep {x : D} (h : hasL x = false) : ∀ k, hasLs (List.replicate k x) = false
  | 0 => by simp
  | k + 1 => by rw [List.replicate_succ, hasLs_cons, h, hasLs_rep h k]; rfl
/-- wrong pairs and what is due -/
def WP (x due : D) : Prop := ∃ e, (∀ k, callD tab.g (k + 4) N_check_pairs [x] = .exc e) ∧ E3 e due ∧ Sm 2 due ∧ hasL due = false
theorem wp_nt {x : D} (h : isiD .tuple x = .ok false) : WP x (.tup [.str N_pair, .int (-1)]) := ⟨_, fun k => check_pairs_nt k x h, .p _, sm_two _ _ (sm_int _), by simp⟩
theorem wp_many {l : List D} (h : 8 < l.length) : WP (.tup l) (.tup [.str N_many, .int 8]) := ⟨_, fun k => check_pairs_many k l h, .m _, sm_two _ _ (sm_int _), by simp⟩
theorem wp_at {l : List D} (hl : l.length ≤ 8) (at_ : Nat) (x : D) (h1 : ∀ j < at_, ∃ q : Pr, q.ok ∧ l[j]? = some q.d) (h2 : l[at_]? = some x) (hx : BadP x) : WP (.tup l) (.tup [.str N_pair, .int at_]) :=
  ⟨_, fun k => check_pairs_bad k l hl at_ x h1 h2 hx, .p _, sm_two _ _ (sm_int _), by simp⟩
def E0 : Pr := ⟨0, 5, 1, 3, 0, 0, 0⟩
theorem E0_ok : E0.ok := by
  show Ok 0 5 1 3 0 0 0
  constructor <;> decide
theorem slD_neg1 {l : List D} (h : 0 < l.length) : L2.ixN l.length (-1) = some (l.length - 1) := by
  unfold L2.ixN
  rw [if_neg (by decide), if_pos (by omega)]
  congr 1
  omega
theorem wp_row (n : Nat) (ns : List Int) (qs : List Pr) (hq : ∀ q ∈ qs, q.ok) (hl : qs.length ≤ 8) (h0 : 0 < qs.length) : ∃ a : Nat, ∃ v, callD tab.g (n + 2) N__law_pick [.scr ns, .int 23, .int qs.length] = .ok (.sh, .int a) ∧ a < qs.length ∧ (∃ c, callD tab.g (n + 2) N__law_pick [.scr ns, .int 24, .int 18] = .ok (.sh, .int c) ∧
      ∃ (h : a < qs.length), callD tab.g (n + 2) N__law_spoilt_pair [.int c, qs[a].d] = .ok (.sh, v)) ∧ BadP v ∧ L2.atI (qs.map Pr.d) (a : Int) = (qs[a]?).map Pr.d ∧
    WP (.tup ((qs.map Pr.d).set a v)) (.tup [.str N_pair, .int a]) ∧ WP (.tup (((qs.map Pr.d).set a v).set (qs.length - 1) .non)) (.tup [.str N_pair, .int a]) := by
  obtain ⟨a', ha, a0, a1⟩ := pick_ok n ns 23 qs.length (by decide) (by omega)
  obtain ⟨a, rfl⟩ : ∃ a : Nat, a' = a := ⟨a'.toNat, by omega⟩
  obtain ⟨c, hc, c0, c1⟩ := pick_ok n ns 24 18 (by decide) (by decide)
  have al : a < qs.length := by omega
  obtain ⟨v, hv, bv⟩ := spoilt_ok (n + 1) qs[a] (hq _ (List.getElem_mem al)) c c0 c1
  have g : ∀ j, j < a → ((qs.map Pr.d).set a v)[j]? = some (qs[j]?.getD E0).d ∧ (qs[j]?.getD E0).ok := fun j hj => by
    have jl : j < qs.length := by omega
    rw [List.getElem?_set_ne (by omega), List.getElem?_map, List.getElem?_eq_getElem jl]
    exact ⟨rfl, hq _ (List.getElem_mem jl)⟩
  have ga : ((qs.map Pr.d).set a v)[a]? = some v := by rw [List.getElem?_set_self (by rw [List.length_map]; exact al)]
  refine ⟨a, v, ha, al, ⟨c, hc, al, hv⟩, bv, ?_, ?_, ?_⟩
  · rw [atI_nat (by rw [List.length_map]; exact al), List.getElem_map, List.getElem?_eq_getElem al]; rfl
  · exact wp_at (by rw [List.length_set, List.length_map]; exact hl) a v (fun j hj => ⟨_, (g j hj).2, (g j hj).1⟩) ga bv
  · by_cases hb : a = qs.length - 1
    · refine wp_at (by rw [List.length_set, List.length_set, List.length_map]; exact hl) a .non (fun j hj => ⟨_, (g j hj).2, ?_⟩) ?_ (.nt rfl)
      · rw [List.getElem?_set_ne (by omega)]; exact (g j hj).1
      · rw [← hb, List.getElem?_set_self (by rw [List.length_set, List.length_map]; exact al)]
    · refine wp_at (by rw [List.length_set, List.length_set, List.length_map]; exact hl) a v (fun j hj => ⟨_, (g j hj).2, ?_⟩) ?_ bv
      · rw [List.getElem?_set_ne (by omega)]; exact (g j hj).1
      · rw [List.getElem?_set_ne (by omega)]; exact ga
theorem wrong_pairs_ok (n : Nat) (ns : List Int) (qs : List Pr) (hq : ∀ q ∈ qs, q.ok) (hl : qs.length ≤ 8) : ∃ x due, callD tab.g (n + 3) N__law_wrong_pairs [.scr ns, .tup (qs.map Pr.d)] = .ok (.o1, .lst [x, due]) ∧ WP x due := by
  rw [c__law_wrong_pairs, b__law_wrong_pairs]
  obtain ⟨c, hc, c0, c1⟩ := pick_ok n ns 22 6 (by decide) (by decide)
  obtain ⟨d4, h4, d40, d41⟩ := pick_ok n ns 23 4 (by decide) (by decide)
  obtain ⟨d2, h2, d20, d21⟩ := pick_ok n ns 23 2 (by decide) (by decide)
  obtain ⟨d7, h7, d70, d71⟩ := pick_ok n ns 25 2 (by decide) (by decide)
  have z4 := szL_of (show 4 ≤ 1000000 by decide)
  have z3 := szL_of (show 3 ≤ 1000000 by decide)
  have z2 := szL_of (show 2 ≤ 1000000 by decide)
  have z1 := szL_of (show 1 ≤ 1000000 by decide)
  have cs : c = 0 ∨ c = 1 ∨ c = 2 ∨ 2 < c := by omega
  rcases cs with rfl | rfl | rfl | c3
  · exact ⟨.lst (qs.map Pr.d), _, by simp [hc, z4, z3, z2, listOwn], wp_nt rfl⟩
  · obtain ⟨x, hx, px⟩ := atI_P (l := [.non, .str N_pairs, .int 5, .lst []]) (i := d4) (P := fun x => isiD .tuple x = .ok false) (by simp) d40 d41
    exact ⟨x, _, by simp [hc, h4, hx, z4, z3, z2, listOwn, szL_ne], wp_nt px⟩
  · have mul : binD .mul (.lst [D.tup [.tup [.int 0, .int 5, .int 1], .tup [.int 3, .int 0, .int 0, .int 0]]]) (.int (9 - (qs.length : Int))) = .ok (.lst (List.replicate (9 - qs.length) (D.tup [.tup [.int 0, .int 5, .int 1], .tup [.int 3, .int 0, .int 0, .int 0]]))) := by
      simp only [binD, mulD]
      have t : (9 - (qs.length : Int)).toNat = 9 - qs.length := by omega
      rw [t, if_pos, List.flatten_replicate_singleton]
      rw [Bool.and_eq_true]
      refine ⟨absLe_of (by omega) (by omega), decide_eq_true ?_⟩
      exact szL_of (by simp; omega)
    have len : qs.length + (9 - qs.length) = 9 := by omega
    have z9 := szL_of (show 9 ≤ 1000000 by decide)
    have ix : L2.ixN 9 4 = some 4 := rfl
    have hr := hasLs_rep (x := D.tup [.tup [.int 0, .int 5, .int 1], .tup [.int 3, .int 0, .int 0, .int 0]]) (by simp) (9 - qs.length)
    have hz : qs.length + (9 - qs.length) ≤ szL := by rw [len]; exact z9
    by_cases h : d2 = 1
    · exact ⟨.tup ((qs.map Pr.d ++ List.replicate (9 - qs.length) (D.tup [.tup [.int 0, .int 5, .int 1], .tup [.int 3, .int 0, .int 0, .int 0]])).set 4 .non), _, by simp [hc, h2, h, mul, z4, z3, z2, z1, listOwn, len, hz, ix, z9, hr], wp_many (by simp; omega)⟩
    · exact ⟨.tup (qs.map Pr.d ++ List.replicate (9 - qs.length) (D.tup [.tup [.int 0, .int 5, .int 1], .tup [.int 3, .int 0, .int 0, .int 0]])), _, by simp [hc, h2, h, mul, z4, z3, z2, z1, listOwn, len, hz, ix, z9, hr], wp_many (by simp; omega)⟩
  · have n0 : ¬ c = 0 := by omega
    have n1 : ¬ c = 1 := by omega
    have n2 : ¬ c = 2 := by omega
    by_cases e : qs = []
    · subst e
      obtain ⟨a, v, ha, al, ⟨c2, hc2, al2, hv⟩, bv, hat, w1, w2⟩ := wp_row n ns [E0] (fun q hm => by rw [List.mem_singleton.mp hm]; exact E0_ok) (by decide) (by decide)
      have a0 : a = 0 := by simp at al; omega
      subst a0
      have ha : callD tab.g (n + 2) N__law_pick [.scr ns, .int 23, .int 1] = .ok (.sh, .int 0) := ha
      have hv : callD tab.g (n + 2) N__law_spoilt_pair [.int c2, .tup [.tup [.int 0, .int 5, .int 1], .tup [.int 3, .int 0, .int 0, .int 0]]] = .ok (.sh, v) := hv
      have i0 : L2.atI [D.tup [.tup [.int 0, .int 5, .int 1], .tup [.int 3, .int 0, .int 0, .int 0]]] 0 = some (.tup [.tup [.int 0, .int 5, .int 1], .tup [.int 3, .int 0, .int 0, .int 0]]) := rfl
      have x0 : L2.ixN 1 0 = some 0 := rfl
      have x1 : L2.ixN 1 (-1) = some 0 := rfl
      have zz := szL_lt (show 0 ≤ 1000000 by decide)
      by_cases h : d7 = 1
      · exact ⟨_, _, by simp [hc, n0, n1, n2, ha, hc2, hv, h7, h, z4, z3, z2, z1, zz, listOwn, i0, x0, x1, szL_ne], w2⟩
      · exact ⟨_, _, by simp [hc, n0, n1, n2, ha, hc2, hv, h7, h, z4, z3, z2, z1, zz, listOwn, i0, x0, x1, szL_ne], w1⟩
    · have l0 : 0 < qs.length := List.length_pos_iff.mpr e
      obtain ⟨a, v, ha, al, ⟨c2, hc2, al2, hv⟩, bv, hat, w1, w2⟩ := wp_row n ns qs hq hl l0
      have l0' : ¬ (qs.length : Int) = 0 := by omega
      rw [List.getElem?_eq_getElem al] at hat
      have hat : L2.atI (qs.map Pr.d) (a : Int) = some qs[a].d := hat
      have x0 : L2.ixN qs.length (a : Int) = some a := by rw [ixN_int (by omega) (by omega)]; simp
      have x1 : L2.ixN qs.length (-1) = some (qs.length - 1) := slD_neg1 (l := qs.map Pr.d) (by rw [List.length_map]; exact l0) |> fun z => by rwa [List.length_map] at z
      by_cases h : d7 = 1
      · exact ⟨_, _, by simp [hc, n0, n1, n2, ha, hc2, hv, h7, h, z4, z3, z2, z1, listOwn, hat, x0, x1, e, l0'], w2⟩
      · exact ⟨_, _, by simp [hc, n0, n1, n2, ha, hc2, hv, h7, h, z4, z3, z2, z1, listOwn, hat, x0, x1, e, l0'], w1⟩
end Lw


set_option maxHeartbeats 2000000
namespace Lw
open PySem S2
theorem wrong_field_ok (n : Nat) (c lo hi sl : Int) (h0 : 0 ≤ c) (h1 : c < 19) (f : fieldB (fld lo hi sl) = true) : ∃ v, callD tab.g (n + 1) N__law_wrong_field [.int c, fld lo hi sl] = .ok (.sh, v) ∧ sv v = true ∧ fieldB v = false := by
  rw [c__law_wrong_field, b__law_wrong_field]
  simp [fieldB, inB] at f
  have i1 : L2.atI [D.int lo, .int hi, .int sl] 0 = some (.int lo) := rfl
  have i2 : L2.atI [D.int lo, .int hi, .int sl] 1 = some (.int hi) := rfl
  have i3 : L2.atI [D.int lo, .int hi, .int sl] 2 = some (.int sl) := rfl
  obtain ⟨v, e, p1, p2⟩ := atI_P (l := [.tup [.int (hi + 1), .int hi, .int sl], .tup [.int (-1001), .int hi, .int sl], .tup [.int lo, .int 1001, .int sl], .tup [.int lo, .int hi, .int (-1)],
    .tup [.int lo, .int hi, .int 1001], .tup [.bl true, .int 1000, .int sl], .tup [.int (-5), .bl false, .int sl], .tup [.int lo, .int hi, .bl true], .tup [.int lo, .int hi, .bl false],
    .lst [.int lo, .int hi, .int sl], .tup [.int lo, .int hi], .tup [.int lo, .int hi, .int sl, .int 0], .non, .str N_field, .int 7, .tup [.non, .int hi, .int sl], .tup [.int lo, .str N_9, .int sl],
    .tup [.int lo, .int hi, .tup [.int 1]], .tup []]) (i := c) (P := fun v => sv v = true ∧ fieldB v = false) (by
      repeat' (refine List.forall_mem_cons.mpr ⟨⟨rfl, ?_⟩, ?_⟩)
      all_goals first
        | (exact fun _ h => absurd h List.not_mem_nil)
        | rfl
        | (simp [fieldB, inB]; done)
        | (simp [fieldB, inB]; omega)) h0 h1
  refine ⟨v, ?_, p1, p2⟩
  simp [i1, i2, i3, slD_tup2, e, listOwn]
theorem wrong_setting_ok (n : Nat) (c p b o u : Int) (h0 : 0 ≤ c) (h1 : c < 22) (f : settingB (stg p b o u) = true) : ∃ v, callD tab.g (n + 1) N__law_wrong_setting [.int c, stg p b o u] = .ok (.sh, v) ∧ sv v = true ∧ settingB v = false := by
  rw [c__law_wrong_setting, b__law_wrong_setting]
  simp [settingB, inB] at f
  obtain ⟨v, e, p1, p2⟩ := atI_P (l := [.tup [.int 1001, .int b, .int o, .int u], .tup [.int (-1001), .int b, .int o, .int u], .tup [.int p, .int (-1), .int o, .int u], .tup [.int p, .int 1001, .int o, .int u],
    .tup [.int p, .int b, .int (-1), .int u], .tup [.int p, .int b, .int 101, .int u], .tup [.int p, .int b, .int o, .int (-1)], .tup [.int p, .int b, .int o, .int 101],
    .tup [.bl true, .int b, .int o, .int u], .tup [.int p, .bl false, .int o, .int u], .tup [.int p, .int b, .bl true, .int u], .tup [.int p, .int b, .int o, .bl true],
    .lst [.int p, .int b, .int o, .int u], .tup [.int p, .int b, .int o], .tup [.int p, .int b, .int o, .int u, .int 0], .non, .str N_setting, .int 0, .tup [.non, .int b, .int o, .int u],
    .tup [.int p, .int b, .int o, .non], .tup [.int p, .str N_2, .int o, .int u], .tup []]) (i := c) (P := fun v => sv v = true ∧ settingB v = false) (by
      repeat' (refine List.forall_mem_cons.mpr ⟨⟨rfl, ?_⟩, ?_⟩)
      all_goals first
        | (exact fun _ h => absurd h List.not_mem_nil)
        | rfl
        | (simp [settingB, inB]; done)
        | (simp [settingB, inB]; omega)) h0 h1
  refine ⟨v, ?_, p1, p2⟩
  simp [stg0, stg1, stg2, stg3, slD_tup3, e, listOwn]
end Lw



set_option maxHeartbeats 2000000
namespace Lw
open PySem S2
theorem bads (c : Int) (a z : Int) (h0 : 0 ≤ c) (h1 : c < 10) (f g : Int) (hf : f < a) (hg : z < g) (ha : 0 ≤ a) (hz : z ≤ 999999) : ∃ x, L2.atI [D.int f, .int g, .bl true, .non, .str N_5, .tup [.int 3], .int 1000000, .int (-1), .lst [.int 2], .bl false] c = some x ∧ okV x = true ∧ inB x a z = false := by
  refine atI_P (P := fun x => okV x = true ∧ inB x a z = false) ?_ h0 (by simpa using h1)
  repeat' (refine List.forall_mem_cons.mpr ⟨⟨rfl, ?_⟩, ?_⟩)
  all_goals first
    | (exact fun _ h => absurd h List.not_mem_nil)
    | rfl
    | (simp [inB]; omega)
theorem bads2 (c : Int) (a z : Int) (h0 : 0 ≤ c) (h1 : c < 9) (f g : Int) (hf : f < a) (hg : z < g) (ha : 0 ≤ a) (hz : z ≤ 999999) : ∃ x, L2.atI [D.int f, .int g, .bl true, .non, .str N_5, .tup [.int 3], .int 1000000, .lst [.int 2], .bl false] c = some x ∧ okV x = true ∧ inB x a z = false := by
  refine atI_P (P := fun x => okV x = true ∧ inB x a z = false) ?_ h0 (by simpa using h1)
  repeat' (refine List.forall_mem_cons.mpr ⟨⟨rfl, ?_⟩, ?_⟩)
  all_goals first
    | (exact fun _ h => absurd h List.not_mem_nil)
    | rfl
    | (simp [inB]; omega)
section
variable {Z : Zr} {m : Nat} {w t : Int}
end
end Lw


set_option maxHeartbeats 1000000
namespace Lw
open PySem S2
section
variable {lo hi sl p b o u : Int}
theorem kind_bad1 (n : Nat) (f s : D) (h : sv f = true) (hf : fieldB f = false) : callD tab.g (n + 5) N_kind_of [f, s] = .exc (.ob N_InvalidField [] []) := by
  rw [c_kind_of, b_kind_of]
  have cf := check_field_ok n f h
  rw [hf, if_neg Bool.false_ne_true] at cf
  simp [cf]
theorem kind_bad2 (n : Nat) (f s : D) (h : sv f = true) (hf : fieldB f = true) (h2 : sv s = true) (hs : settingB s = false) : callD tab.g (n + 5) N_kind_of [f, s] = .exc (.ob N_InvalidSetting [] []) := by
  rw [c_kind_of, b_kind_of]
  have cf := check_field_ok n f h
  rw [hf, if_pos rfl] at cf
  have cs := check_setting_ok n s h2
  rw [hs, if_neg Bool.false_ne_true] at cs
  simp [cf, cs]
theorem window_ok (n : Nat) (k : Ok lo hi sl p b o u) (v : D) (hv : okV v = true) : callD tab.g (n + 6) N_window_most [fld lo hi sl, stg p b o u, v] = if inB v 1 100 = true then .ok (.sh, .int (match v with | .int m => windowI lo hi sl p b o u m | _ => 0)) else .exc (.ob N_OutOfRange [N_word] [.str N_width]) := by
  rw [c_window_most, b_window_most]
  have cn := check_number_ok (n + 2) v 1 100 N_width hv
  cases e : inB v 1 100 with
  | false =>
    rw [e] at cn
    simp [kind_of_ok n k, cn]
  | true =>
    rw [e] at cn
    obtain ⟨m, rfl, m0, m1⟩ := inB_of e
    unfold windowI
    by_cases h1 : kindS lo hi sl p b = N_silent
    · simp [kind_of_ok n k, cn, h1]
    · by_cases h : kindS lo hi sl p b = N_lively
      · have := (lively_of h).2.2.1
        have := k.f4
        have sp : 0 < sl := by omega
        obtain ⟨g1, g2⟩ := gapI_pos sp k
        simp [kind_of_ok n k, cn, h, gap_ok (n + 3) sp k.f5, div_ii _ (gapI sl b o u) (by omega) (by omega)]
      · simp [kind_of_ok n k, cn, h1, h]
end
end Lw


set_option maxHeartbeats 1000000
namespace Lw
open PySem S2
/-! rows of whole numbers in their order -/
def lxl : List Int → List Int → Bool
  | [], [] => false
  | [], _ :: _ => true
  | _ :: _, [] => false
  | x :: a, y :: b => if x = y then lxl a b else decide (x < y)
theorem lx_cc (x y : Int) (a b : List Int) : lxl (x :: a) (y :: b) = if x = y then lxl a b else decide (x < y) := rfl
theorem lx_irr : ∀ a : List Int, lxl a a = false
  | [] => rfl
  | x :: a => by rw [lx_cc, if_pos rfl]; exact lx_irr a
theorem lx_trans : ∀ {a b c : List Int}, lxl a b = true → lxl b c = true → lxl a c = true
  | [], [], _, h, _ => absurd h (by simp [lxl])
  | [], _ :: _, [], _, h => absurd h (by simp [lxl])
  | [], _ :: _, _ :: _, _, _ => rfl
  | _ :: _, [], _, h, _ => absurd h (by simp [lxl])
  | _ :: _, _ :: _, [], _, h => absurd h (by simp [lxl])
  | x :: a, y :: b, z :: c, h1, h2 => by
    rw [lx_cc] at h1 h2 ⊢
    by_cases e1 : x = y
    · rw [if_pos e1] at h1
      by_cases e2 : y = z
      · rw [if_pos e2] at h2; rw [if_pos (by omega)]; exact lx_trans h1 h2
      · rw [if_neg e2] at h2; rw [if_neg (by omega)]; simpa [e1] using h2
    · rw [if_neg e1] at h1
      have h1 := of_decide_eq_true h1
      by_cases e2 : y = z
      · rw [if_neg (by omega)]; exact decide_eq_true (by omega)
      · rw [if_neg e2] at h2
        have h2 := of_decide_eq_true h2
        rw [if_neg (by omega)]; exact decide_eq_true (by omega)
theorem lx_tri : ∀ {a b : List Int}, lxl a b = false → lxl b a = false → a = b
  | [], [], _, _ => rfl
  | [], _ :: _, h, _ => absurd h (by simp [lxl])
  | _ :: _, [], _, h => absurd h (by simp [lxl])
  | x :: a, y :: b, h1, h2 => by
    rw [lx_cc] at h1 h2
    by_cases e : x = y
    · rw [if_pos e] at h1; rw [if_pos e.symm] at h2; rw [e, lx_tri h1 h2]
    · rw [if_neg e] at h1; rw [if_neg (Ne.symm e)] at h2
      have h1 := of_decide_eq_false h1
      have h2 := of_decide_eq_false h2
      omega
/-- the same last place -/
theorem lx_snoc : ∀ {a b : List Int} (z : Int), a.length = b.length → lxl (a ++ [z]) (b ++ [z]) = lxl a b
  | [], [], z, _ => by simp [lxl]
  | [], _ :: _, _, h => absurd h (by simp)
  | _ :: _, [], _, h => absurd h (by simp)
  | x :: a, y :: b, z, h => by
    rw [List.cons_append, List.cons_append, lx_cc, lx_cc, lx_snoc z (by simpa using h)]
/-- the least of a set of rows, none if there is none -/
def Best (S : List Int → Prop) : Option (List Int) → Prop
  | none => ∀ r, ¬ S r
  | some r => S r ∧ ∀ r', S r' → lxl r' r = false
theorem Best.uniq {S : List Int → Prop} {a b : Option (List Int)} (h1 : Best S a) (h2 : Best S b) : a = b := by
  cases a with
  | none => cases b with
    | none => rfl
    | some y => exact absurd h2.1 (h1 y)
  | some x => cases b with
    | none => exact absurd h1.1 (h2 x)
    | some y => rw [lx_tri (h2.2 _ h1.1) (h1.2 _ h2.1)]
theorem Best.congr {S T : List Int → Prop} {a : Option (List Int)} (h : Best S a) (e : ∀ r, S r ↔ T r) : Best T a := by
  cases a with
  | none => exact fun r hr => h r ((e r).2 hr)
  | some x => exact ⟨(e x).1 h.1, fun r hr => h.2 r ((e r).2 hr)⟩
/-- one more candidate -/
def bet (m : Option (List Int)) (r : List Int) : Option (List Int) := match m with
  | none => some r
  | some x => if lxl r x = true then some r else some x
theorem Best.bet {S : List Int → Prop} {m : Option (List Int)} (h : Best S m) (r : List Int) : Best (fun x => S x ∨ x = r) (bet m r) := by
  cases m with
  | none =>
    refine ⟨.inr rfl, fun r' hr => ?_⟩
    rcases hr with hr | rfl
    · exact absurd hr (h r')
    · exact lx_irr _
  | some x =>
    unfold Lw.bet
    by_cases e : lxl r x = true
    · simp only [e, if_true]
      refine ⟨.inr rfl, fun r' hr => ?_⟩
      rcases hr with hr | rfl
      · cases q : lxl r' r with
        | false => rfl
        | true => have := h.2 r' hr; rw [lx_trans q e] at this; cases this
      · exact lx_irr _
    · simp only [e, if_false]
      refine ⟨.inl h.1, fun r' hr => ?_⟩
      rcases hr with hr | rfl
      · exact h.2 r' hr
      · exact Bool.eq_false_iff.mpr e
/-! the off delays that the law looks at -/
/-- least off u, window mosts f -/
def opts (f : Int → Int) (u : Int) : Nat → List (Int × Int)
  | 0 => []
  | k + 1 => match (opts f u k).getLast? with
    | none => opts f u k ++ [(u + k, f (u + k))]
    | some x => if f (u + k) < x.2 then opts f u k ++ [(u + k, f (u + k))] else opts f u k
theorem opts_mem (f : Int → Int) (u : Int) : ∀ (k : Nat) (x : Int × Int), x ∈ opts f u k → u ≤ x.1 ∧ x.1 < u + k ∧ x.2 = f x.1
  | 0, x, h => absurd h (by simp [opts])
  | k + 1, x, h => by
    have ih := opts_mem f u k x
    have : x ∈ opts f u k ∨ x = (u + k, f (u + k)) := by
      rw [opts] at h
      split at h
      · simpa using h
      · split at h
        · simpa using h
        · exact .inl h
    rcases this with h | rfl
    · have := ih h; omega
    · refine ⟨?_, ?_, rfl⟩ <;> simp <;> omega
/-- the last one is the least so far -/
theorem opts_last (f : Int → Int) (u : Int) : ∀ (k : Nat), (k = 0 ∧ opts f u k = []) ∨ ∃ x, (opts f u k).getLast? = some x ∧ ∀ j : Nat, j < k → x.2 ≤ f (u + j)
  | 0 => .inl ⟨rfl, rfl⟩
  | k + 1 => by
    refine .inr ?_
    rcases opts_last f u k with ⟨e, h⟩ | ⟨x, h, hx⟩
    · subst e
      refine ⟨(u + (0 : Nat), f (u + (0 : Nat))), by simp [opts], fun j hj => ?_⟩
      have : j = 0 := by omega
      subst this
      exact Int.le_refl _
    · by_cases e : f (u + k) < x.2
      · refine ⟨(u + k, f (u + k)), by rw [opts, h]; simp [e], fun j hj => ?_⟩
        by_cases q : j = k
        · subst q; exact Int.le_refl _
        · have := hx j (by omega)
          show f (u + k) ≤ _
          omega
      · refine ⟨x, by rw [opts, h]; simp [e, h], fun j hj => ?_⟩
        by_cases q : j = k
        · subst q; omega
        · exact hx j (by omega)
/-- the first one that fits -/
theorem opts_find (f : Int → Int) (u c : Int) : ∀ (k : Nat), (opts f u k).find? (fun x => decide (x.2 ≤ c)) = ((List.range k).find? fun j => decide (f (u + (j : Nat)) ≤ c)).map fun j : Nat => (u + j, f (u + j))
  | 0 => rfl
  | k + 1 => by
    have ih := opts_find f u c k
    rw [List.range_succ, List.find?_append]
    cases e : (List.range k).find? (fun j => decide (f (u + (j : Nat)) ≤ c)) with
    | some j =>
      rw [e] at ih
      have : (opts f u (k + 1)).find? (fun x => decide (x.2 ≤ c)) = some (u + (j : Int), f (u + j)) := by
        rw [opts]
        split
        · rw [List.find?_append, ih]; rfl
        · split
          · rw [List.find?_append, ih]; rfl
          · rw [ih]; rfl
      rw [this]; rfl
    | none =>
      rw [e] at ih
      have no := List.find?_eq_none.mp e
      have hk : ∀ j : Nat, j < k → ¬ f (u + j) ≤ c := fun j hj => by
        have := no j (List.mem_range.mpr hj)
        simpa using this
      have ih' : (opts f u k).find? (fun x => decide (x.2 ≤ c)) = none := ih
      by_cases q : f (u + k) ≤ c
      · have ap : opts f u (k + 1) = opts f u k ++ [(u + k, f (u + k))] := by
          rw [opts]
          rcases opts_last f u k with ⟨z, h⟩ | ⟨x, h, hx⟩
          · rw [h]; rfl
          · rw [h]
            have xm : x ∈ opts f u k := List.mem_of_getLast? h
            have := List.find?_eq_none.mp ih' x xm
            have : ¬ x.2 ≤ c := by simpa using this
            simp [show f (u + k) < x.2 by omega]
        rw [ap, List.find?_append, ih']
        simp [q]
      · have : (opts f u (k + 1)).find? (fun x => decide (x.2 ≤ c)) = none := by
          rw [opts]
          split
          · rw [List.find?_append, ih']; simp [q]
          · split
            · rw [List.find?_append, ih']; simp [q]
            · exact ih'
        rw [this]; simp [q]
/-- each off delay has one that is as good -/
theorem opts_cover (f : Int → Int) (u : Int) (k : Nat) (j : Nat) (h : j < k) : ∃ x ∈ opts f u k, x.1 ≤ u + j ∧ x.2 ≤ f (u + j) := by
  have := opts_find f u (f (u + j)) k
  cases e : (List.range k).find? (fun i => decide (f (u + (i : Nat)) ≤ f (u + j))) with
  | none =>
    have := List.find?_eq_none.mp e j (List.mem_range.mpr h)
    exact absurd this (by simp)
  | some i =>
    rw [e] at this
    have ij : i ≤ j := by
      rcases Nat.lt_or_ge j i with hlt | hge
      · exfalso
        rw [List.find?_range_eq_some] at e
        have := e.2.2 j hlt
        simp at this
      · exact hge
    refine ⟨_, List.mem_of_find?_eq_some this, by show u + (i : Int) ≤ _; omega, ?_⟩
    have := List.find?_some this
    exact of_decide_eq_true this
end Lw

set_option maxHeartbeats 1000000
namespace Lw
open PySem S2
theorem lx_nn {a b c : List Int} (h1 : lxl a b = false) (h2 : lxl b c = false) : lxl a c = false := by
  cases q : lxl a c with
  | false => rfl
  | true =>
    cases q2 : lxl b a with
    | true => rw [lx_trans q2 q] at h2; cases h2
    | false => rw [lx_tri h1 q2, h2] at q; cases q
theorem best_fold (l : List (List Int)) : ∀ (S : List Int → Prop) (m : Option (List Int)), Best S m → Best (fun x => S x ∨ x ∈ l) (l.foldl bet m) := by
  induction l with
  | nil => exact fun S m h => h.congr fun r => by simp
  | cons x l ih =>
    exact fun S m h => (ih _ _ (h.bet x)).congr fun r => by simp [or_assoc]
theorem best_min (l : List (List Int)) : Best (fun x => x ∈ l) (l.foldl bet none) := (best_fold l (fun _ => False) none fun _ h => h).congr fun r => by simp
/-- a pair: its off delay, its window mosts, the program's choices -/
structure Im where
  u : Int
  f : Int → Int
  ch : List (Int × Int)
structure Im.ok (x : Im) : Prop where
  u0 : 0 ≤ x.u
  u1 : x.u ≤ 100
  nn : ∀ a, 0 ≤ a → 0 ≤ x.f a
  c0 : ∀ o ∈ x.ch, 0 ≤ o.2
  c1 : ∀ o ∈ x.ch, x.u ≤ o.1 ∧ o.1 ≤ 100 ∧ x.f o.1 ≤ o.2
  c2 : ∀ a, x.u ≤ a → a ≤ 100 → ∃ o, o ≤ a ∧ (o, x.f a) ∈ x.ch
inductive AllO (P : Im → Int → Prop) : List Im → List Int → Prop
  | nil : AllO P [] []
  | cons {x a xs as} (h : P x a) (t : AllO P xs as) : AllO P (x :: xs) (a :: as)
theorem AllO.len {P : Im → Int → Prop} {xs : List Im} {as : List Int} (h : AllO P xs as) : xs.length = as.length := by
  induction h with
  | nil => rfl
  | cons h t ih => simp [ih]
theorem AllO.snoc {P : Im → Int → Prop} {xs : List Im} {as : List Int} {x : Im} {a : Int} (h : AllO P xs as) (p : P x a) : AllO P (xs ++ [x]) (as ++ [a]) := by
  induction h with
  | nil => exact .cons p .nil
  | cons h t ih => exact .cons h ih
theorem AllO.snoc_inv {P : Im → Int → Prop} : ∀ {xs : List Im} {as : List Int} {x : Im}, AllO P (xs ++ [x]) as → ∃ bs a, as = bs ++ [a] ∧ AllO P xs bs ∧ P x a
  | [], _, x, .cons h .nil => ⟨[], _, rfl, .nil, h⟩
  | y :: xs, _, x, .cons h t => by
    obtain ⟨bs, a, e, h2, p⟩ := AllO.snoc_inv (xs := xs) t
    exact ⟨_ :: bs, a, by rw [e]; rfl, .cons h h2, p⟩
def cost (xs : List Im) (as : List Int) : Int := (List.zipWith (fun x a => x.f a) xs as).sum
theorem cost_cons (x : Im) (xs : List Im) (a : Int) (as : List Int) : cost (x :: xs) (a :: as) = x.f a + cost xs as := by unfold cost; rw [List.zipWith_cons_cons, List.sum_cons]
theorem cost_snoc {x : Im} {xs : List Im} {a : Int} {as : List Int} (h : xs.length = as.length) : cost (xs ++ [x]) (as ++ [a]) = cost xs as + x.f a := by
  unfold cost
  rw [List.zipWith_append h, List.sum_append]
  simp
def InI (x : Im) (a : Int) : Prop := x.u ≤ a ∧ a ≤ 100
/-- all rows of off delays that leave room -/
def SA (xs : List Im) (room : Int) (r : List Int) : Prop := ∃ as, AllO InI xs as ∧ cost xs as ≤ room ∧ r = as.sum :: as
/-! the program -/
def cands (ch : List (Int × Int)) (later : Int → Option Int) (room : Int) : List (List Int) := ch.filterMap fun oc => if oc.2 ≤ room then (later (room - oc.2)).map fun s => [oc.1 + s, oc.1, oc.2] else none
def bestC (ch : List (Int × Int)) (later : Int → Option Int) (room : Int) : Option (List Int) := (cands ch later room).foldl bet none
def hdO : Option (List Int) → Option Int
  | some (s :: _) => some s
  | _ => none
def sums : List Im → Int → Option Int
  | [], _ => some 0
  | x :: xs, room => hdO (bestC x.ch (sums xs) room)
def pickL : List Im → Int → List Int
  | [], _ => []
  | x :: xs, room => match bestC x.ch (sums xs) room with
    | some [_, o, c] => o :: pickL xs (room - c)
    | _ => []
theorem cands_mem {ch : List (Int × Int)} {later : Int → Option Int} {room : Int} {r : List Int} : r ∈ cands ch later room ↔ ∃ o c s, (o, c) ∈ ch ∧ c ≤ room ∧ later (room - c) = some s ∧ r = [o + s, o, c] := by
  unfold cands
  rw [List.mem_filterMap]
  constructor
  · rintro ⟨⟨o, c⟩, hm, h⟩
    by_cases e : c ≤ room
    · rw [if_pos e] at h
      cases q : later (room - c) with
      | none => rw [show later (room - (o, c).2) = none from q] at h; cases h
      | some s =>
        rw [show later (room - (o, c).2) = some s from q] at h
        exact ⟨o, c, s, hm, e, q, by simpa using h.symm⟩
    · rw [if_neg e] at h; cases h
  · rintro ⟨o, c, s, hm, e, q, rfl⟩
    exact ⟨(o, c), hm, by rw [if_pos e, show later (room - (o, c).2) = some s from q]; rfl⟩
theorem cost_nn : ∀ {xs : List Im} {as : List Int}, (∀ x ∈ xs, x.ok) → AllO InI xs as → 0 ≤ cost xs as
  | _, _, _, .nil => Int.le_refl _
  | x :: xs, _, hx, .cons h t => by
    rw [cost_cons]
    have k := hx x List.mem_cons_self
    have := k.nn _ (Int.le_trans k.u0 h.1)
    have := cost_nn (fun y hy => hx y (List.mem_cons_of_mem _ hy)) t
    omega
theorem lx_head {s t : Int} {a b : List Int} (h : lxl (s :: a) (t :: b) = false) : t ≤ s := by
  rw [lx_cc] at h
  by_cases e : s = t
  · omega
  · rw [if_neg e] at h; have := of_decide_eq_false h; omega
theorem lx_gt {s t : Int} {a b : List Int} (h : t < s) : lxl (s :: a) (t :: b) = false := by
  rw [lx_cc, if_neg (by omega)]; exact decide_eq_false (by omega)
theorem lx_tl {s : Int} {a b : List Int} : lxl (s :: a) (s :: b) = lxl a b := by rw [lx_cc, if_pos rfl]
theorem prog_best : ∀ (xs : List Im), (∀ x ∈ xs, x.ok) → ∀ (room : Int), 0 ≤ room → Best (SA xs room) ((sums xs room).map fun s => s :: pickL xs room)
  | [], _, room, h0 => by
    refine ⟨⟨[], .nil, h0, rfl⟩, fun r' hr => ?_⟩
    obtain ⟨as, ha, hc, rfl⟩ := hr
    cases ha
    exact lx_irr _
  | x :: xs, hx, room, h0 => by
    have kx := hx x List.mem_cons_self
    have hx' := fun y hy => hx y (List.mem_cons_of_mem _ hy)
    have ih := prog_best xs hx'
    have B := best_min (cands x.ch (sums xs) room)
    have B : Best (fun r => r ∈ cands x.ch (sums xs) room) (bestC x.ch (sums xs) room) := B
    -- each row has a candidate
    have cov : ∀ a as, InI x a → AllO InI xs as → x.f a + cost xs as ≤ room → ∃ o s, o ≤ a ∧ s ≤ as.sum ∧ sums xs (room - x.f a) = some s ∧ [o + s, o, x.f a] ∈ cands x.ch (sums xs) room := fun a as ia ha hc => by
      have cn := cost_nn hx' ha
      obtain ⟨o, oa, om⟩ := kx.c2 a ia.1 ia.2
      have b := ih (room - x.f a) (by omega)
      have sa : SA xs (room - x.f a) (as.sum :: as) := ⟨as, ha, by omega, rfl⟩
      cases e : sums xs (room - x.f a) with
      | none => rw [e] at b; exact absurd sa (b _)
      | some s =>
        rw [e] at b
        have := lx_head (b.2 _ sa)
        exact ⟨o, s, oa, this, rfl, cands_mem.2 ⟨o, x.f a, s, om, by omega, e, rfl⟩⟩
    rw [sums, pickL]
    cases e : bestC x.ch (sums xs) room with
    | none =>
      rw [e] at B
      rintro r ⟨as', ha', hc', rfl⟩
      cases ha' with
      | @cons _ a _ as ia ha =>
        rw [cost_cons] at hc'
        obtain ⟨o, s, _, _, _, m⟩ := cov a as ia ha hc'
        exact B _ m
    | some r =>
      rw [e] at B
      obtain ⟨o, c, s, hm, hc, hs, rfl⟩ := cands_mem.1 B.1
      have c0 := kx.c0 _ hm
      obtain ⟨k1, k2, k3⟩ := kx.c1 _ hm
      have b := ih (room - c) (by omega)
      rw [hs] at b
      obtain ⟨as, ha, hca, ea⟩ := b.1
      injection ea with e1 e2
      have c0 : 0 ≤ c := c0
      have k3 : x.f o ≤ c := k3
      show Best _ (some ((o + s) :: o :: pickL xs (room - c)))
      rw [e2, e1]
      refine ⟨⟨o :: as, .cons ⟨k1, k2⟩ ha, by rw [cost_cons]; omega, by rw [List.sum_cons]⟩, fun r' hr => ?_⟩
      obtain ⟨as', ha', hc', rfl⟩ := hr
      cases ha' with
      | @cons _ a _ bs ia hb =>
        rw [cost_cons] at hc'
        rw [List.sum_cons]
        obtain ⟨o', s', l1, l2, q, m⟩ := cov a bs ia hb hc'
        have mn := B.2 _ m
        have hd := lx_head mn
        by_cases z : o + as.sum = a + bs.sum
        · rw [z, lx_tl]
          have z1 : o' = a := by omega
          have z2 : s' = bs.sum := by omega
          have z3 : o' + s' = o + s := by omega
          rw [z3, lx_tl] at mn
          have hd2 := lx_head mn
          by_cases w : a = o
          · rw [w, lx_tl]
            rw [z1, w, lx_tl] at mn
            have hd3 := lx_head mn
            have w2 : x.f a = x.f o := by rw [w]
            have := b.2 _ (⟨bs, hb, by omega, rfl⟩ : SA xs (room - c) (bs.sum :: bs))
            rw [e1, e2, show bs.sum = as.sum by omega, lx_tl] at this
            exact this
          · exact lx_gt (by omega)
        · exact lx_gt (by omega)
/-! the law -/
def InO (x : Im) (a : Int) : Prop := ∃ c, (a, c) ∈ opts x.f x.u (101 - x.u).toNat
theorem ino_f {x : Im} {a c : Int} (h : (a, c) ∈ opts x.f x.u (101 - x.u).toNat) : c = x.f a := (opts_mem _ _ _ _ h).2.2
theorem ino_in {x : Im} (k : x.ok) {a : Int} (h : InO x a) : InI x a := by
  obtain ⟨c, h⟩ := h
  obtain ⟨m1, m2, _⟩ := opts_mem _ _ _ _ h
  have := k.u1
  exact ⟨m1, by have m2 : a < x.u + ((101 - x.u).toNat : Int) := m2; omega⟩
def SO (xs : List Im) (t : Int) (r : List Int) : Prop := ∃ as, AllO InO xs as ∧ cost xs as = t ∧ r = as.sum :: as
theorem AllO.mono {P Q : Im → Int → Prop} {xs : List Im} {as : List Int} (h : AllO P xs as) (pq : ∀ x ∈ xs, ∀ a, P x a → Q x a) : AllO Q xs as := by
  induction h with
  | nil => exact .nil
  | @cons x a xs as h t ih => exact .cons (pq x List.mem_cons_self a h) (ih fun y hy => pq y (List.mem_cons_of_mem _ hy))
/-- the candidates of one more pair -/
def stepC (x : Im) (B : Nat → Option (List Int)) (n : Nat) (t : Nat) (r : List Int) : Prop := ∃ (k : Nat) (s : Int) (as : List Int) (o c : Int), k < n ∧ B k = some (s :: as) ∧ (o, c) ∈ opts x.f x.u (101 - x.u).toNat ∧ (k : Int) + c = t ∧ r = (s + o) :: (as ++ [o])
theorem law_step {x : Im} {xs : List Im} (kx : x.ok) (hx : ∀ y ∈ xs, y.ok) {B B' : Nat → Option (List Int)} {n : Nat} (h : ∀ k < n, Best (SO xs k) (B k)) (h' : ∀ t < n, Best (stepC x B n t) (B' t)) : ∀ t < n, Best (SO (xs ++ [x]) t) (B' t) := fun t ht => by
  have b' := h' t ht
  have fw : ∀ r, stepC x B n t r → SO (xs ++ [x]) t r := fun r hr => by
    obtain ⟨k, s, as, o, c, hk, e, m, q, rfl⟩ := hr
    have b := h k hk
    rw [e] at b
    obtain ⟨bs, hb, hc, eb⟩ := b.1
    injection eb with e1 e2
    subst e2
    refine ⟨as ++ [o], hb.snoc ⟨c, m⟩, ?_, ?_⟩
    · rw [cost_snoc hb.len, hc, ← ino_f m, q]
    · rw [e1, List.sum_append]; simp
  have bw : ∀ as a, AllO InO xs as → InO x a → cost xs as + x.f a = t → ∃ r, stepC x B n t r ∧ lxl ((as ++ [a]).sum :: (as ++ [a])) r = false := fun as a ha ia hc => by
    obtain ⟨c, m⟩ := ia
    have ec := ino_f m
    have cn := cost_nn hx (ha.mono fun y hy b hb => ino_in (hx y hy) hb)
    have fn := kx.nn a (by have := (ino_in kx ⟨c, m⟩).1; have := kx.u0; omega)
    obtain ⟨k, hk⟩ : ∃ k : Nat, cost xs as = k := ⟨(cost xs as).toNat, by omega⟩
    have b := h k (by omega)
    have so : SO xs k (as.sum :: as) := ⟨as, ha, hk, rfl⟩
    cases e : B k with
    | none => rw [e] at b; exact absurd so (b _)
    | some r =>
      rw [e] at b
      obtain ⟨bs, hb, hcb, rfl⟩ := b.1
      refine ⟨(bs.sum + a) :: (bs ++ [a]), ⟨k, bs.sum, bs, a, c, by omega, e, m, by rw [ec, ← hc, hk], rfl⟩, ?_⟩
      have le := b.2 _ so
      have len : as.length = bs.length := ha.len.symm.trans hb.len
      rw [List.sum_append]
      simp only [List.sum_cons, List.sum_nil, Int.add_zero]
      by_cases z : as.sum = bs.sum
      · rw [z, lx_tl, lx_snoc a len]
        rw [z, lx_tl] at le
        exact le
      · have := lx_head le
        exact lx_gt (by omega)
  cases e : B' t with
  | none =>
    rw [e] at b'
    rintro r ⟨as', ha', hc', rfl⟩
    obtain ⟨as, a, rfl, ha, ia⟩ := ha'.snoc_inv
    rw [cost_snoc ha.len] at hc'
    obtain ⟨r, hr, _⟩ := bw as a ha ia hc'
    exact b' r hr
  | some r =>
    rw [e] at b'
    refine ⟨fw r b'.1, ?_⟩
    rintro r' ⟨as', ha', hc', rfl⟩
    obtain ⟨as, a, rfl, ha, ia⟩ := ha'.snoc_inv
    rw [cost_snoc ha.len] at hc'
    obtain ⟨r2, hr, l⟩ := bw as a ha ia hc'
    exact lx_nn l (b'.2 r2 hr)
/-- the law's rows are as good as all rows -/
theorem law_all {xs : List Im} (hx : ∀ y ∈ xs, y.ok) {n : Nat} {m : Option (List Int)} (h : Best (fun r => ∃ t : Nat, t < n + 1 ∧ SO xs t r) m) : Best (SA xs n) m := by
  have low : ∀ {ys : List Im} {as : List Int}, (∀ y ∈ ys, y.ok) → AllO InI ys as → ∃ bs, AllO InO ys bs ∧ cost ys bs ≤ cost ys as ∧ lxl (as.sum :: as) (bs.sum :: bs) = false := by
    intro ys as hy ha
    induction ha with
    | nil => exact ⟨[], .nil, Int.le_refl _, lx_irr _⟩
    | @cons y a ys as ia t ih =>
      obtain ⟨bs, h1, h2, h3⟩ := ih fun z hz => hy z (List.mem_cons_of_mem _ hz)
      have k := hy y List.mem_cons_self
      obtain ⟨q, hq, q1, q2⟩ := opts_cover y.f y.u (101 - y.u).toNat (a - y.u).toNat (by have := ia.1; have := ia.2; omega)
      rw [show y.u + ((a - y.u).toNat : Int) = a by have := ia.1; omega] at q1 q2
      obtain ⟨b, c⟩ := q
      have ec := ino_f hq
      have q1 : b ≤ a := q1
      have q2 : c ≤ y.f a := q2
      refine ⟨b :: bs, .cons ⟨c, hq⟩ h1, by rw [cost_cons, cost_cons]; omega, ?_⟩
      rw [List.sum_cons, List.sum_cons]
      have hd := lx_head h3
      by_cases z : a + as.sum = b + bs.sum
      · have : a = b := by omega
        have : as.sum = bs.sum := by omega
        rw [z, lx_tl, ‹a = b›, lx_tl]
        rw [this, lx_tl] at h3
        exact h3
      · exact lx_gt (by omega)
  have so : ∀ {bs : List Int}, AllO InO xs bs → cost xs bs ≤ n → ∃ t : Nat, t < n + 1 ∧ SO xs t (bs.sum :: bs) := fun {bs} hb hc => by
    have := cost_nn hx (hb.mono fun y hy b hb => ino_in (hx y hy) hb)
    exact ⟨(cost xs bs).toNat, by omega, bs, hb, by omega, rfl⟩
  cases m with
  | none =>
    rintro r ⟨as, ha, hc, rfl⟩
    obtain ⟨bs, h1, h2, _⟩ := low hx ha
    exact h _ (so h1 (by omega))
  | some r =>
    obtain ⟨⟨t, ht, as, ha, hc, e⟩, mn⟩ := h
    refine ⟨⟨as, ha.mono fun y hy b hb => ino_in (hx y hy) hb, by omega, e⟩, ?_⟩
    rintro r' ⟨cs, hcs, hcc, rfl⟩
    obtain ⟨bs, h1, h2, h3⟩ := low hx hcs
    exact lx_nn h3 (mn _ (so h1 (by omega)))
end Lw

set_option maxHeartbeats 1000000
namespace Lw
open PySem S2
def TR (r : List Int) : D := .tup (r.map .int)
def RR : List Int → D
  | [] => .non
  | s :: as => .tup [.int s, .tup (as.map .int)]
theorem eqv_ii (x y : Int) : PyData.eqv (.int x) (.int y) = decide (x = y) := by
  rw [PyData.eqv]
  by_cases h : x = y <;> simp [h]
theorem lex_ints : ∀ {a b : List Int}, a.length = b.length → PyProof.Rows.lexLt PyProof.Rows.itemOrd (W.keyToksAll (pys (a.map D.int))) (W.keyToksAll (pys (b.map D.int))) = lxl a b
  | [], [], _ => PyProof.Rows.lex_irrefl _
  | [], _ :: _, h => absurd h (by simp)
  | _ :: _, [], h => absurd h (by simp)
  | x :: a, y :: b, h => by
    rw [List.map_cons, List.map_cons, pys_cons, pys_cons, lx_cc]
    have al : W.alike (py (.int x)) (py (.int y)) = true := rfl
    by_cases e : x = y
    · rw [if_pos e, W.dataLt_all_yes al (by show PyData.eqv (.int x) (.int y) = true; rw [eqv_ii]; exact decide_eq_true e), lex_ints (by simpa using h)]
    · rw [if_neg e, W.dataLt_all_no al (by show PyData.eqv (.int x) (.int y) = false; rw [eqv_ii]; exact decide_eq_false e)]
      exact W.dataLt_int x y
theorem alike_ints : ∀ {a b : List Int}, a.length = b.length → W.alikeAll (pys (a.map D.int)) (pys (b.map D.int)) = true
  | [], [], _ => rfl
  | [], _ :: _, h => absurd h (by simp)
  | _ :: _, [], h => absurd h (by simp)
  | x :: a, y :: b, h => by
    rw [List.map_cons, List.map_cons, pys_cons, pys_cons, W.alikeAll, alike_ints (by simpa using h)]
    rfl
theorem tr_lt {a b : List Int} (h : a.length = b.length) : W.dataLt (py (TR a)) (py (TR b)) = lxl a b := by
  unfold TR
  rw [py_tup, py_tup, W.dataLt_tuple, lex_ints h]
theorem tr_alike {a b : List Int} (h : a.length = b.length) : W.alike (py (TR a)) (py (TR b)) = true := by
  unfold TR
  rw [py_tup, py_tup, W.alike, alike_ints h]
theorem pl_ints {l : List Int} (h : l.length ≤ 1000000) : pl 1 (.tup (l.map .int)) = true := pl_tup (by rw [List.length_map]; exact h) fun d hd => by
  obtain ⟨v, _, rfl⟩ := List.mem_map.mp hd
  rfl
theorem rr_lt {s t : Int} {a b : List Int} (h : a.length = b.length) : W.dataLt (py (RR (s :: a))) (py (RR (t :: b))) = lxl (s :: a) (t :: b) := by
  unfold RR
  rw [py_tup, py_tup, W.dataLt_tuple, pys_cons, pys_cons, pys_cons, pys_cons, lx_cc]
  have al : W.alike (py (.int s)) (py (.int t)) = true := rfl
  by_cases e : s = t
  · rw [if_pos e, W.dataLt_all_yes al (by show PyData.eqv (.int s) (.int t) = true; rw [eqv_ii]; exact decide_eq_true e)]
    have al2 : W.alike (py (.tup (a.map .int))) (py (.tup (b.map .int))) = true := tr_alike h
    have lt2 : W.dataLt (py (.tup (a.map .int))) (py (.tup (b.map .int))) = lxl a b := tr_lt h
    cases q : PyData.eqv (py (.tup (a.map .int))) (py (.tup (b.map .int))) with
    | true =>
      rw [W.dataLt_all_yes al2 q]
      have := (W.toks_eqv _ _ al2).1 q
      rw [← lt2]
      unfold W.dataLt
      rw [this, PyProof.Rows.lex_irrefl, PyProof.Rows.lex_irrefl]
    | false => rw [W.dataLt_all_no al2 q, lt2]
  · rw [if_neg e, W.dataLt_all_no al (by show PyData.eqv (.int s) (.int t) = false; rw [eqv_ii]; exact decide_eq_false e)]
    exact W.dataLt_int s t
theorem rr_alike {s t : Int} {a b : List Int} (h : a.length = b.length) : W.alike (py (RR (s :: a))) (py (RR (t :: b))) = true := by
  unfold RR
  rw [py_tup, py_tup, W.alike, pys_cons, pys_cons, pys_cons, pys_cons, W.alikeAll, W.alikeAll]
  have al2 : W.alike (py (.tup (a.map .int))) (py (.tup (b.map .int))) = true := tr_alike h
  rw [al2]
  rfl
theorem rr_pl {s : Int} {a : List Int} (h : a.length ≤ 1000000) : pl 2 (RR (s :: a)) = true := pl_tup (by simp) fun d hd => by
  simp at hd
  rcases hd with rfl | rfl
  · rfl
  · exact pl_ints h
def bt (a r : List Int) : List Int := if lxl r a = true then r else a
theorem fold_bt (l : List (List Int)) : ∀ x, l.foldl bet (some x) = some (l.foldl bt x) := by
  induction l with
  | nil => exact fun x => rfl
  | cons r l ih =>
    intro x
    rw [List.foldl_cons, List.foldl_cons]
    have : bet (some x) r = some (bt x r) := by unfold bet bt; by_cases h : lxl r x = true <;> simp [h]
    rw [this, ih]
theorem bt_mem (l : List (List Int)) : ∀ x, l.foldl bt x ∈ x :: l := by
  induction l with
  | nil => exact fun x => by simp
  | cons r l ih =>
    intro x
    rw [List.foldl_cons]
    have := ih (bt x r)
    unfold bt at this ⊢
    split at this
    · rename_i h; rw [if_pos h]; simp at this ⊢; exact .inr this
    · rename_i h; rw [if_neg h]; simp at this ⊢; rcases this with h | h
      · exact .inl h
      · exact .inr (.inr h)
/-- the least of rows that are alike -/
theorem min_rows {dR : List Int → D} (x : List Int) (l : List (List Int)) (h1 : ∀ a ∈ x :: l, plainB (dR a) = true ∧ isNonD (dR a) = false ∧ isLst (dR a) = false)
    (h2 : ∀ a ∈ x :: l, ∀ b ∈ x :: l, W.alike (py (dR a)) (py (dR b)) = true ∧ W.dataLt (py (dR a)) (py (dR b)) = lxl a b) : minR ((x :: l).map dR) = .ok (dR (l.foldl bt x)) := by
  have ok : alikeOk ((x :: l).map dR) = true := by
    unfold alikeOk
    rw [List.all_eq_true]
    intro d hd
    obtain ⟨a, ha, rfl⟩ := List.mem_map.mp hd
    obtain ⟨p1, p2, p3⟩ := h1 a ha
    rw [p1, p2, p3, Bool.and_eq_true]
    refine ⟨rfl, List.all_eq_true.mpr fun e he => ?_⟩
    obtain ⟨b, hb, rfl⟩ := List.mem_map.mp he
    exact (h2 a ha b hb).1
  have fold : ∀ (m : List (List Int)) (y : List Int), y ∈ x :: l → (∀ r ∈ m, r ∈ x :: l) → minF (dR y) (m.map dR) = dR (m.foldl bt y) := by
    intro m
    induction m with
    | nil => exact fun y _ _ => rfl
    | cons r m ih =>
      intro y hy hm
      have hr := hm r List.mem_cons_self
      have e := (h2 r hr y hy).2
      rw [List.foldl_cons, List.map_cons]
      unfold minF at ih ⊢
      rw [List.foldl_cons, e]
      have : (if lxl r y = true then dR r else dR y) = dR (bt y r) := by unfold bt; split <;> rfl
      rw [this]
      refine ih (bt y r) ?_ fun z hz => hm z (List.mem_cons_of_mem _ hz)
      unfold bt; split
      · exact hr
      · exact hy
  show (if alikeOk (dR x :: l.map dR) then R.ok (minF (dR x) (l.map dR)) else .no) = _
  rw [show dR x :: l.map dR = (x :: l).map dR from rfl, ok, if_pos rfl, fold l x List.mem_cons_self fun r hr => List.mem_cons_of_mem _ hr]
def oT : Option (List Int) → D
  | none => .non
  | some r => TR r
/-- min(found, default=None) -/
theorem mind_tr {m : Nat} (l : List (List Int)) (hm : m ≤ 1000000) (h : ∀ r ∈ l, r.length = m) : biD .mind [.lst (l.map TR), .non] = .ok (oT (l.foldl bet none)) := by
  cases l with
  | nil => rfl
  | cons x l =>
    rw [mind_n]
    have : intsOf ((x :: l).map TR) = none := rfl
    rw [this]
    show minR ((x :: l).map TR) = _
    rw [min_rows (dR := TR) x l (fun a ha => ⟨plainB_pl (pl_ints (by rw [h a ha]; exact hm)), rfl, rfl⟩) fun a ha b hb => ⟨tr_alike ((h a ha).trans (h b hb).symm), tr_lt ((h a ha).trans (h b hb).symm)⟩]
    rw [List.foldl_cons, show bet none x = some x from rfl, fold_bt]
    rfl
end Lw

set_option maxHeartbeats 1000000
namespace Lw
open PySem S2
def Pr.kind (q : Pr) : Str := kindS q.lo q.hi q.sl q.p q.b
def Pr.win (q : Pr) (w a : Int) : Int := windowI q.lo q.hi q.sl q.p q.b q.o a w
def Pr.need (q : Pr) (w c : Int) : Int := (w - 1) / c + 1 - 2 * fallI q.sl q.b - q.o
def Pr.offc (q : Pr) (w c : Int) : Int := if q.need w c > q.u then q.need w c else q.u
def Pr.chs (q : Pr) (w : Int) : List (Int × Int) := if q.kind = N_lively then (List.range' 0 (q.win w q.u).toNat).map fun k : Nat => (q.offc w ((k : Int) + 1), (k : Int) + 1) else [(q.u, q.win w q.u)]
def Pr.im (w : Int) (q : Pr) : Im := ⟨q.u, q.win w, q.chs w⟩
theorem div_lt_iff {a b c : Int} (hb : 0 < b) (hc : 0 < c) : a / b < c ↔ a / c < b := by
  rw [Int.ediv_lt_iff_lt_mul hb, Int.ediv_lt_iff_lt_mul hc, Int.mul_comm]
theorem win_lively {q : Pr} (h : q.kind = N_lively) (w a : Int) : q.win w a = 1 + (w - 1) / (2 * fallI q.sl q.b + q.o + a) := by
  unfold Pr.win windowI
  have h : kindS q.lo q.hi q.sl q.p q.b = N_lively := h
  rw [if_neg (by rw [h]; decide), if_neg (by rw [h]; decide)]
  rfl
theorem win_silent {q : Pr} (h : q.kind = N_silent) (w a : Int) : q.win w a = 0 := by
  unfold Pr.win windowI
  exact if_pos h
theorem win_other {q : Pr} (h : q.kind ≠ N_silent) (h2 : q.kind ≠ N_lively) (w a : Int) : q.win w a = 1 := by
  unfold Pr.win windowI
  have h : kindS q.lo q.hi q.sl q.p q.b ≠ N_silent := h
  have h2 : kindS q.lo q.hi q.sl q.p q.b ≠ N_lively := h2
  rw [if_neg h, if_pos h2]
/-- the off delay that a count asks for -/
theorem win_le {q : Pr} (k : q.ok) (h : q.kind = N_lively) {w a c : Int} (w0 : 1 ≤ w) (a0 : 0 ≤ a) (c1 : 1 ≤ c) : q.win w a ≤ c ↔ q.need w c ≤ a := by
  have k : Ok q.lo q.hi q.sl q.p q.b q.o q.u := k
  have sp : 0 < q.sl := lively_sl k h
  have f1 := fallI_pos (sl := q.sl) (b := q.b) sp k.b1
  have o0 := k.o1
  rw [win_lively h]
  have := div_lt_iff (a := w - 1) (b := 2 * fallI q.sl q.b + q.o + a) (c := c) (by omega) (by omega)
  unfold Pr.need
  omega
theorem win_pos {q : Pr} (k : q.ok) (h : q.kind ≠ N_silent) {w a : Int} (w0 : 1 ≤ w) (a0 : 0 ≤ a) : 1 ≤ q.win w a := by
  have k : Ok q.lo q.hi q.sl q.p q.b q.o q.u := k
  by_cases e : q.kind = N_lively
  · rw [win_lively e]
    have sp : 0 < q.sl := lively_sl k e
    have f1 := fallI_pos (sl := q.sl) (b := q.b) sp k.b1
    have o0 := k.o1
    have := Int.ediv_nonneg (show 0 ≤ w - 1 by omega) (show 0 ≤ 2 * fallI q.sl q.b + q.o + a by omega)
    omega
  · rw [win_other h e]; omega
theorem win_nn {q : Pr} (k : q.ok) {w a : Int} (w0 : 1 ≤ w) (a0 : 0 ≤ a) : 0 ≤ q.win w a := by
  by_cases h : q.kind = N_silent
  · rw [win_silent h]; omega
  · have := win_pos k h w0 a0; omega
theorem win_w {q : Pr} (k : q.ok) {w a : Int} (w0 : 1 ≤ w) (a0 : 0 ≤ a) : q.win w a ≤ w := by
  by_cases h : q.kind = N_silent
  · rw [win_silent h]; omega
  · by_cases e : q.kind = N_lively
    · rw [win_le k e w0 a0 (by omega)]
      have k : Ok q.lo q.hi q.sl q.p q.b q.o q.u := k
      have sp : 0 < q.sl := lively_sl k e
      have f1 := fallI_pos (sl := q.sl) (b := q.b) sp k.b1
      have o0 := k.o1
      have : (w - 1) / w = 0 := Int.ediv_eq_zero_of_lt (by omega) (by omega)
      unfold Pr.need
      omega
    · rw [win_other h e]; omega
theorem need_le {q : Pr} (k : q.ok) (h : q.kind = N_lively) {w c : Int} (w0 : 1 ≤ w) (c1 : 1 ≤ c) : q.need w c ≤ w - 2 := by
  have k : Ok q.lo q.hi q.sl q.p q.b q.o q.u := k
  have sp : 0 < q.sl := lively_sl k h
  have f1 := fallI_pos (sl := q.sl) (b := q.b) sp k.b1
  have o0 := k.o1
  have : (w - 1) / c ≤ w - 1 := Int.ediv_le_self _ (by omega)
  unfold Pr.need
  omega
theorem offc_u {q : Pr} {w c : Int} : q.u ≤ q.offc w c ∧ q.need w c ≤ q.offc w c ∧ (∀ a, q.u ≤ a → q.need w c ≤ a → q.offc w c ≤ a) := by
  unfold Pr.offc
  split
  · exact ⟨by omega, by omega, fun a h1 h2 => h2⟩
  · exact ⟨by omega, by omega, fun a h1 h2 => h1⟩
theorem im_ok {q : Pr} (k : q.ok) {w : Int} (w0 : 1 ≤ w) (w1 : w ≤ 100) : (q.im w).ok := by
  have k' : Ok q.lo q.hi q.sl q.p q.b q.o q.u := k
  have u0 := k'.u1
  have u1 := k'.u2
  refine ⟨u0, u1, fun a h => win_nn k w0 h, fun o ho => ?_, fun o ho => ?_, fun a h1 h2 => ?_⟩
  · have ho : o ∈ q.chs w := ho
    unfold Pr.chs at ho
    split at ho
    · obtain ⟨j, _, rfl⟩ := List.mem_map.mp ho
      show (0 : Int) ≤ (j : Int) + 1
      omega
    · rw [List.mem_singleton.mp ho]; exact win_nn k w0 u0
  · have ho : o ∈ q.chs w := ho
    unfold Pr.chs at ho
    split at ho
    · rename_i e
      obtain ⟨j, _, rfl⟩ := List.mem_map.mp ho
      obtain ⟨p1, p2, p3⟩ := offc_u (q := q) (w := w) (c := (j : Int) + 1)
      have nl := need_le k e (w := w) (c := (j : Int) + 1) w0 (by omega)
      refine ⟨p1, p3 100 u1 (by omega), (win_le k e w0 (by show (0 : Int) ≤ q.offc w _; omega) (by show (1 : Int) ≤ (j : Int) + 1; omega)).2 p2⟩
    · rw [List.mem_singleton.mp ho]; exact ⟨Int.le_refl _, u1, Int.le_refl _⟩
  · show ∃ o, o ≤ a ∧ (o, q.win w a) ∈ q.chs w
    have h1 : q.u ≤ a := h1
    unfold Pr.chs
    split
    · rename_i e
      have ns : q.kind ≠ N_silent := by rw [e]; decide
      have p := win_pos k ns w0 (show 0 ≤ a by omega)
      have le : q.win w a ≤ q.win w q.u := by
        rw [win_le k e w0 (by omega) (win_pos k ns w0 u0)]
        have := (win_le k e w0 u0 (win_pos k ns w0 u0)).1 (Int.le_refl _)
        omega
      refine ⟨q.offc w (q.win w a), offc_u.2.2 a h1 ((win_le k e w0 (by omega) p).1 (Int.le_refl _)), List.mem_map.mpr ⟨(q.win w a - 1).toNat, ?_, ?_⟩⟩
      · rw [List.mem_range'_1]; omega
      · rw [show (((q.win w a - 1).toNat : Nat) : Int) + 1 = q.win w a by omega]
    · rename_i e
      refine ⟨q.u, h1, List.mem_singleton.mpr ?_⟩
      by_cases s : q.kind = N_silent
      · rw [win_silent s, win_silent s]
      · rw [win_other s e, win_other s e]
/-! the program's small functions -/
def dC (x : Int × Int) : D := .tup [.int x.1, .int x.2]
theorem off_for_ok (n : Nat) (q : Pr) (k : q.ok) (h : q.kind = N_lively) (w c : Int) (c1 : 1 ≤ c) (c2 : c ≤ 1000) : callD tab.g (n + 2) N_off_for [q.f, q.s, .int w, .int c] = .ok (.sh, .int (q.offc w c)) := by
  rw [c_off_for, b_off_for]
  have k : Ok q.lo q.hi q.sl q.p q.b q.o q.u := k
  have sp : 0 < q.sl := lively_sl k h
  have f := fall_ok (lo := q.lo) (hi := q.hi) (p := q.p) (b := q.b) (o := q.o) (u := q.u) n sp k.f5
  unfold Pr.offc
  simp [f, stg2, stg3, div_ii _ c (by omega) (by omega), mul_ii 2 _ (mulOk_l (by decide) (by decide)), Pr.need]
theorem window_q (n : Nat) (q : Pr) (k : q.ok) {w : Int} (w0 : 1 ≤ w) (w1 : w ≤ 100) : callD tab.g (n + 6) N_window_most [q.f, q.s, .int w] = .ok (.sh, .int (q.win w q.u)) := by
  have := window_ok n (show Ok q.lo q.hi q.sl q.p q.b q.o q.u from k) (.int w) rfl
  rwa [in_int w0 w1, if_pos rfl] at this
theorem choices_ok (n : Nat) (q : Pr) (k : q.ok) {w : Int} (w0 : 1 ≤ w) (w1 : w ≤ 100) : callD tab.g (n + 7) N_choices_of [q.f, q.s, .int w] = .ok (.o1, .lst ((q.chs w).map dC)) := by
  rw [c_choices_of, b_choices_of]
  have wq := window_q n q k w0 w1
  have kq := kind_of_ok (n + 1) (show Ok q.lo q.hi q.sl q.p q.b q.o q.u from k)
  have kq : callD tab.g (n + 6) N_kind_of [q.f, q.s] = .ok (.sh, .str q.kind) := kq
  by_cases e : q.kind = N_lively
  · have ns : q.kind ≠ N_silent := by rw [e]; decide
    have k' : Ok q.lo q.hi q.sl q.p q.b q.o q.u := k
    have p := win_pos k ns w0 k'.u1
    have p2 := win_w k w0 k'.u1
    have r1 : rngD 1 (q.win w q.u + 1) = .ok (upto 1 (q.win w q.u).toNat) := by
      have a1 : small62 (q.win w q.u + 1) = true := absLe_of (by omega) (by omega)
      have a2 : small62 1 = true := rfl
      unfold rngD
      rw [a1, a2, show q.win w q.u + 1 - 1 = q.win w q.u by omega]
      rfl
    have it : items tab.g (cal tab.g (n + 6)) (.rng2 (.int 1) (.bin .add (.var 3) (.int 1))) [some (.sh, q.f), some (.sh, q.s), some (.sh, .int w), some (.sh, .int (q.win w q.u)), none] = .ok ((.sh, .non), (List.range' 0 (q.win w q.u).toNat).map fun k : Nat => D.int ((k : Int) + 1)) := by
      simp [r1, upto_one]
    have lc := lc_all (elt := .tup (.cons (.call N_off_for (.cons (.var 0) (.cons (.var 1) (.cons (.var 2) (.cons (.var 4) .nil))))) (.cons (.var 4) .nil))) (tg := .nm 4) (List.range' 0 (q.win w q.u).toNat) (fun k : Nat => D.int ((k : Int) + 1)) (fun k : Nat => dC (q.offc w ((k : Int) + 1), (k : Int) + 1)) it (by rw [List.length_range']; omega) fun j hj => by
      rw [List.mem_range'_1] at hj
      have of := off_for_ok (n + 4) q k e w ((j : Int) + 1) (by omega) (by omega)
      exact ⟨[some (.sh, q.f), some (.sh, q.s), some (.sh, .int w), some (.sh, .int (q.win w q.u)), some (.sh, .int ((j : Int) + 1))], rfl, by simp [of, dC]⟩
    have ch : (q.chs w).map dC = (List.range' 0 (q.win w q.u).toNat).map fun k : Nat => dC (q.offc w ((k : Int) + 1), (k : Int) + 1) := by
      unfold Pr.chs
      rw [if_pos e, List.map_map]
      rfl
    rw [ch]
    simp [-ev_lc, wq, kq, e, lc]
  · have ch : (q.chs w).map dC = [dC (q.u, q.win w q.u)] := by unfold Pr.chs; rw [if_neg e]; rfl
    rw [ch]
    simp [wq, kq, e, stg3, dC, listOwn]
end Lw

set_option maxHeartbeats 1000000
namespace Lw
open PySem S2
def oI : Option Int → D
  | none => .non
  | some s => .int s
/-- the least sums by room -/
def LT (lim : Nat) (later : Int → Option Int) : List D := (List.range' 0 (lim + 1)).map fun k : Nat => oI (later (k : Int))
theorem LT_at {lim : Nat} {later : Int → Option Int} {i : Int} (h0 : 0 ≤ i) (h1 : i ≤ lim) : L2.atI (LT lim later) i = some (oI (later i)) := by
  obtain ⟨k, rfl⟩ : ∃ k : Nat, i = k := ⟨i.toNat, by omega⟩
  unfold LT
  rw [atI_nat (by rw [List.length_map, List.length_range']; omega), List.getElem_map, List.getElem_range']
  simp
theorem cands_cons (o c : Int) (ch : List (Int × Int)) (later : Int → Option Int) (room : Int) : cands ((o, c) :: ch) later room = (if c ≤ room then (match later (room - c) with | none => [] | some s => [[o + s, o, c]]) else []) ++ cands ch later room := by
  unfold cands
  rw [List.filterMap_cons]
  by_cases h : c ≤ room
  · simp only [h, if_true]
    cases e : later (room - c) <;> simp
  · simp [h]
@[simp] theorem nn_int (s : Int) : isNonD (.int s) = false := rfl
@[simp] theorem nn_non : isNonD .non = true := rfl
@[simp] theorem nn_tup (l : List D) : isNonD (.tup l) = false := rfl
theorem bc_loop (n : Nat) {lim : Nat} {later : Int → Option Int} {room : Int} (r0 : 0 ≤ room) (r1 : room ≤ lim) (x0 : D) : ∀ (ch : List (Int × Int)) (acc : List (List Int)) (s4 s5 : S2.Slot), (∀ o ∈ ch, 0 ≤ o.2) → acc.length + ch.length ≤ 1000 →
    ∃ s4' s5', forL (fun x env' => match bindT (.tp [4, 5]) x env' with
      | some env2 => exs tab.g (cal tab.g n) L_best_choice_0 env2
      | none => .no) (ch.map dC) [some (.sh, x0), some (.sh, .lst (LT lim later)), some (.sh, .int room), some (.o1, .lst (acc.map TR)), s4, s5] = .nx [some (.sh, x0), some (.sh, .lst (LT lim later)), some (.sh, .int room), some (.o1, .lst ((acc ++ cands ch later room).map TR)), s4', s5']
  | [], acc, s4, s5, _, _ => ⟨s4, s5, by rw [show cands [] later room = [] from rfl, List.append_nil]; rfl⟩
  | (o, c) :: ch, acc, s4, s5, h, hl => by
    have c0 : 0 ≤ c := h (o, c) List.mem_cons_self
    have hl' : acc.length + (ch.length + 1) ≤ 1000 := hl
    have zl := szL_of (show acc.length ≤ 1000000 by omega)
    have zz := szL_lt (show acc.length ≤ 1000000 by omega)
    rw [cands_cons]
    by_cases hc : c ≤ room
    · have at_ := LT_at (lim := lim) (later := later) (i := room - c) (by omega) (by omega)
      cases e : later (room - c) with
      | none =>
        rw [e] at at_
        obtain ⟨s4', s5', ih⟩ := bc_loop n r0 r1 x0 ch acc (some (.sh, .int o)) (some (.sh, .int c)) (fun y hy => h y (List.mem_cons_of_mem _ hy)) (by omega)
        refine ⟨s4', s5', ?_⟩
        rw [if_pos hc, List.nil_append, ← ih, List.map_cons]
        refine forL_nx ?_
        simp [dC, L_best_choice_0, hc, at_, oI]
      | some s =>
        rw [e] at at_
        obtain ⟨s4', s5', ih⟩ := bc_loop n r0 r1 x0 ch (acc ++ [[o + s, o, c]]) (some (.sh, .int o)) (some (.sh, .int c)) (fun y hy => h y (List.mem_cons_of_mem _ hy)) (by simp; omega)
        refine ⟨s4', s5', ?_⟩
        rw [if_pos hc, ← List.append_assoc, ← ih, List.map_cons]
        refine forL_nx ?_
        simp [dC, L_best_choice_0, hc, at_, oI, zl, zz, TR]
    · obtain ⟨s4', s5', ih⟩ := bc_loop n r0 r1 x0 ch acc (some (.sh, .int o)) (some (.sh, .int c)) (fun y hy => h y (List.mem_cons_of_mem _ hy)) (by omega)
      refine ⟨s4', s5', ?_⟩
      rw [if_neg hc, List.nil_append, ← ih, List.map_cons]
      refine forL_nx ?_
      simp [dC, L_best_choice_0, hc]
theorem best_choice_ok (n : Nat) {lim : Nat} {later : Int → Option Int} {room : Int} (r0 : 0 ≤ room) (r1 : room ≤ lim) (ch : List (Int × Int)) (h : ∀ o ∈ ch, 0 ≤ o.2) (hl : ch.length ≤ 1000) :
    callD tab.g (n + 1) N_best_choice [.lst (ch.map dC), .lst (LT lim later), .int room] = .ok (.sh, oT (bestC ch later room)) := by
  rw [c_best_choice, b_best_choice]
  obtain ⟨s4, s5, e⟩ := bc_loop n r0 r1 (.lst (ch.map dC)) ch [] none none h (by simpa using hl)
  have m := mind_tr (m := 3) (cands ch later room) (by decide) fun r hr => by
    obtain ⟨o, c, s, _, _, _, rfl⟩ := cands_mem.1 hr
    rfl
  rw [List.nil_append] at e
  have e : forL (fun x env' => match bindT (.tp [4, 5]) x env' with
      | some env2 => exs tab.g (cal tab.g n) L_best_choice_0 env2
      | none => .no) (ch.map dC) [some (.sh, .lst (ch.map dC)), some (.sh, .lst (LT lim later)), some (.sh, .int room), some (.o1, .lst []), none, none] = _ := e
  refine st (env' := [some (.sh, .lst (ch.map dC)), some (.sh, .lst (LT lim later)), some (.sh, .int room), some (.o1, .lst []), none, none]) (by simp) ?_
  refine st (env' := [some (.sh, .lst (ch.map dC)), some (.sh, .lst (LT lim later)), some (.sh, .int room), some (.o1, .lst ((cands ch later room).map TR)), s4, s5]) (by rw [exS_for]; simp [-mind_n]; exact e) ?_
  simp [-mind_n, m, bestC]
  cases (cands ch later room).foldl bet none <;> rfl
end Lw

set_option maxHeartbeats 1000000
namespace Lw
open PySem S2
/-- [e for x in l], each item a new list -/
theorem lc_own {α : Type} {g : G} {C : Cal} {elt : E} {tg : Tg} {it : It} {env : S2.Env} {o : OD} (l : List α) (d y : α → D) (hi : items g C it env = .ok (o, l.map d)) (hn : l.length ≤ 1000000)
    (h : ∀ x ∈ l, ∃ env', bindT tg (d x) env = some env' ∧ ev g C elt env' = .ok (.o1, y x)) : ∃ o', (o' = Own.o1 ∨ o' = Own.o2) ∧ ev g C (.lc elt tg it .none) env = .ok (o', .lst (l.map y)) := by
  have key : ∀ m : List α, (∀ x ∈ m, ∃ env', bindT tg (d x) env = some env' ∧ ev g C elt env' = .ok (.o1, y x)) → mapC (lcFn g C elt tg .none env) (m.map d) = .ok (m.map fun x => (Own.o1, y x)) := fun m => by
    induction m with
    | nil => intro _; rfl
    | cons x m ih =>
      intro h
      obtain ⟨env', h1, h2⟩ := h x List.mem_cons_self
      rw [List.map_cons]
      show (lcFn g C elt tg .none env (d x)).bind (fun o => (mapC _ (m.map d)).bind fun ys => .ok (consO o ys)) = _
      rw [ih fun z hz => h z (List.mem_cons_of_mem _ hz), lcFn_at h1, tsto_none, h2]
      rfl
  refine ⟨listOwn (l.map fun x => (Own.o1, y x)), ?_, ?_⟩
  · unfold listOwn
    split
    · exact .inr rfl
    · exact .inl rfl
  · rw [ev_lcFn hi, key l h]
    show (if (l.map d).length ≤ szL then R.ok (listOwn (l.map fun x => (Own.o1, y x)), D.lst ((l.map fun x => (Own.o1, y x)).map (·.2))) else R.no) = _
    rw [if_pos (by rw [List.length_map]; exact szL_of hn), List.map_map]
    rfl
theorem LT_step (lim : Nat) (ch : List (Int × Int)) (later : Int → Option Int) : LT lim (fun room => hdO (bestC ch later room)) = (List.range' 0 (lim + 1)).map fun j : Nat => oI (hdO (bestC ch later (j : Int))) := rfl
theorem hasL_oT (m : Option (List Int)) : hasL (oT m) = false := by
  cases m with
  | none => rfl
  | some r => exact (hasLs_all (f := D.int) (fun _ => rfl) r)
section
variable {lim : Nat} {later : Int → Option Int}
theorem bestC_three {ch : List (Int × Int)} {room : Int} {r : List Int} (h : bestC ch later room = some r) : ∃ s o c, r = [s, o, c] ∧ (o, c) ∈ ch ∧ c ≤ room := by
  have B := best_min (cands ch later room)
  have h : (cands ch later room).foldl bet none = some r := h
  rw [h] at B
  obtain ⟨o, c, s, hm, hc, _, rfl⟩ := cands_mem.1 B.1
  exact ⟨_, _, _, rfl, hm, hc⟩
theorem sr_inner (n : Nat) (x0 : D) (ch : List (Int × Int)) (h : ∀ o ∈ ch, 0 ≤ o.2) (hl : ch.length ≤ 1000) (hlim : lim ≤ 10000) (o : Own) (ho : o = .o1 ∨ o = .o2) (R0 : List D) (s5 s6 : S2.Slot) :
    ∃ s5' s6', forL (fun x env' => exs tab.g (cal tab.g (n + 1)) L_sum_rows_0 (env'.set 5 (some (.sh, x)))) (upto 0 (lim + 1)) [some (.sh, x0), some (.sh, .int lim), some (o, .lst (R0 ++ [.lst (LT lim later)])), some (.sh, .lst (ch.map dC)), some (.o1, .lst []), s5, s6] =
      .nx [some (.sh, x0), some (.sh, .int lim), some (o, .lst (R0 ++ [.lst (LT lim later)])), some (.sh, .lst (ch.map dC)), some (.o1, .lst (LT lim fun room => hdO (bestC ch later room))), s5', s6'] := by
  refine forL_up (n := lim + 1) (Post := fun q => ∃ s5' s6', q = .nx [some (.sh, x0), some (.sh, .int lim), some (o, .lst (R0 ++ [.lst (LT lim later)])), some (.sh, .lst (ch.map dC)), some (.o1, .lst (LT lim fun room => hdO (bestC ch later room))), s5', s6'])
    (fun k env => ∃ s5' s6', env = [some (.sh, x0), some (.sh, .int lim), some (o, .lst (R0 ++ [.lst (LT lim later)])), some (.sh, .lst (ch.map dC)), some (.o1, .lst ((List.range' 0 k).map fun j : Nat => oI (hdO (bestC ch later (j : Int))))), s5', s6'])
    ⟨s5, s6, rfl⟩ (fun k env hk ⟨s5, s6, e⟩ => ?_) (fun env ⟨s5, s6, e⟩ => ⟨s5, s6, by rw [e, LT_step]⟩)
  subst e
  have bc := best_choice_ok (later := later) n (room := (k : Int)) (lim := lim) (by omega) (by omega) ch h hl
  have al := atI_last R0 (.lst (LT lim later))
  have snoc : (List.range' 0 (k + 1)).map (fun j : Nat => oI (hdO (bestC ch later (j : Int)))) = (List.range' 0 k).map (fun j : Nat => oI (hdO (bestC ch later (j : Int)))) ++ [oI (hdO (bestC ch later (k : Int)))] := by
    rw [List.range'_concat, List.map_append]
    simp
  have zl := szL_lt (show k ≤ 1000000 by omega)
  have hL := hasL_oT (bestC ch later (k : Int))
  refine .inl ⟨[some (.sh, x0), some (.sh, .int lim), some (o, .lst (R0 ++ [.lst (LT lim later)])), some (.sh, .lst (ch.map dC)), some (.o1, .lst ((List.range' 0 (k + 1)).map fun j : Nat => oI (hdO (bestC ch later (j : Int))))), some (.sh, .int k), some (.sh, oT (bestC ch later (k : Int)))], .inl ?_, _, _, rfl⟩
  rw [snoc]
  cases e : bestC ch later (k : Int) with
  | none =>
    rw [e] at bc
    have bc : callD tab.g (n + 1) N_best_choice [.lst (ch.map dC), .lst (LT lim later), .int k] = .ok (.sh, .non) := bc
    rcases ho with rfl | rfl <;> simp [L_sum_rows_0, al, bc, oT, hdO, oI, zl]
  | some r =>
    obtain ⟨s, o, c, rfl, _, _⟩ := bestC_three e
    rw [e] at bc
    have bc : callD tab.g (n + 1) N_best_choice [.lst (ch.map dC), .lst (LT lim later), .int k] = .ok (.sh, .tup [.int s, .int o, .int c]) := bc
    have a0 : L2.atI [D.int s, .int o, .int c] 0 = some (.int s) := rfl
    rcases ho with rfl | rfl <;> simp [L_sum_rows_0, al, bc, oT, hdO, oI, zl, TR, a0]
def cD (w : Int) (q : Pr) : D := .lst ((q.chs w).map dC)
def sD (lim : Nat) (w : Int) (qs : List Pr) : D := .lst (LT lim (sums (qs.map (Pr.im w))))
def rowsOf (lim : Nat) (w : Int) : List Pr → List D
  | [] => [sD lim w []]
  | q :: ys => rowsOf lim w ys ++ [sD lim w (q :: ys)]
theorem rowsOf_last (lim : Nat) (w : Int) (ys : List Pr) : ∃ R0, rowsOf lim w ys = R0 ++ [sD lim w ys] := by
  cases ys with
  | nil => exact ⟨[], rfl⟩
  | cons q ys => exact ⟨rowsOf lim w ys, rfl⟩
theorem rowsOf_len (lim : Nat) (w : Int) : ∀ ys : List Pr, (rowsOf lim w ys).length = ys.length + 1
  | [] => rfl
  | q :: ys => by rw [rowsOf, List.length_append, rowsOf_len lim w ys]; rfl
theorem chs_len {q : Pr} (k : q.ok) {w : Int} (w0 : 1 ≤ w) (w1 : w ≤ 100) : (q.chs w).length ≤ 1000 := by
  have k' : Ok q.lo q.hi q.sl q.p q.b q.o q.u := k
  have := win_w k w0 k'.u1
  unfold Pr.chs
  split
  · rw [List.length_map, List.length_range']; omega
  · show 1 ≤ 1000; omega
theorem sr_loop (n : Nat) {w : Int} (w0 : 1 ≤ w) (w1 : w ≤ 100) (x0 : D) (hlim : lim ≤ 10000) : ∀ (rs ys : List Pr) (o : Own) (s3 s4 s5 s6 : S2.Slot), (∀ q ∈ rs, q.ok) → ys.length + rs.length ≤ 1000 → (o = .o1 ∨ o = .o2) →
    ∃ o' s3' s4' s5' s6', (o' = Own.o1 ∨ o' = Own.o2) ∧ forL (fun x env' => exs tab.g (cal tab.g (n + 1)) L_sum_rows_1 (env'.set 3 (some (.sh, x)))) (rs.map (cD w)) [some (.sh, x0), some (.sh, .int lim), some (o, .lst (rowsOf lim w ys)), s3, s4, s5, s6] =
      .nx [some (.sh, x0), some (.sh, .int lim), some (o', .lst (rowsOf lim w (rs.reverse ++ ys))), s3', s4', s5', s6']
  | [], ys, o, s3, s4, s5, s6, _, _, ho => ⟨o, s3, s4, s5, s6, ho, rfl⟩
  | q :: rs, ys, o, s3, s4, s5, s6, hq, hl, ho => by
    have kq := hq q List.mem_cons_self
    have ki := im_ok kq w0 w1
    obtain ⟨R0, eR⟩ := rowsOf_last lim w ys
    have len := rowsOf_len lim w ys
    rw [eR] at len
    have hl' : ys.length + (rs.length + 1) ≤ 1000 := hl
    obtain ⟨s5', s6', e⟩ := sr_inner (lim := lim) (later := sums (ys.map (Pr.im w))) n x0 (q.chs w) (fun o h => ki.c0 o h) (chs_len kq w0 w1) hlim o ho R0 s5 s6
    have r1 : rngD 0 ((lim : Int) + 1) = .ok (upto 0 (lim + 1)) := rng_nat (j := lim + 1) (by omega)
    have zl := szL_lt (show (R0 ++ [sD lim w ys]).length ≤ 1000000 by rw [len]; omega)
    obtain ⟨o', t3, t4, t5, t6, ho', ih⟩ := sr_loop n w0 w1 x0 hlim rs (q :: ys) .o1 (some (.sh, cD w q)) (some (.sh, sD lim w (q :: ys))) s5' s6' (fun z hz => hq z (List.mem_cons_of_mem _ hz)) (by simp; omega) (.inl rfl)
    refine ⟨o', t3, t4, t5, t6, ho', ?_⟩
    rw [List.reverse_cons, List.append_assoc, List.singleton_append, ← ih, List.map_cons]
    refine forL_nx ?_
    have er : rowsOf lim w (q :: ys) = (R0 ++ [sD lim w ys]) ++ [sD lim w (q :: ys)] := by rw [rowsOf, eR]
    rw [er, eR]
    refine sx (env' := [some (.sh, x0), some (.sh, .int lim), some (o, .lst (R0 ++ [sD lim w ys])), some (.sh, cD w q), some (.o1, .lst []), s5, s6]) (by simp) ?_
    refine sx (env' := [some (.sh, x0), some (.sh, .int lim), some (o, .lst (R0 ++ [sD lim w ys])), some (.sh, cD w q), some (.o1, .lst (LT lim fun room => hdO (bestC (q.chs w) (sums (ys.map (Pr.im w))) room))), s5', s6']) ?_ ?_
    · rw [for_nm (o := (.sh, .non)) (l := upto 0 (lim + 1)) (by simp [r1])]
      exact e
    · rw [List.length_append] at zl
      have zl : R0.length + 1 < szL := zl
      have f5 : frzS [(2, false)] 5 (frzS [(4, true)] 5 s5') = s5' := by rw [frzS_no rfl rfl, frzS_no rfl rfl]
      have f6 : frzS [(2, false)] 6 (frzS [(4, true)] 6 s6') = s6' := by rw [frzS_no rfl rfl, frzS_no rfl rfl]
      rcases ho with rfl | rfl <;> simp [zl, f5, f6] <;> rfl
end
end Lw

set_option maxHeartbeats 1000000
namespace Lw
open PySem S2
section
variable {lim : Nat} {w : Int}
def tlD (lim : Nat) (w : Int) : List Pr → List D
  | [] => [sD lim w []]
  | q :: ys => sD lim w (q :: ys) :: tlD lim w ys
theorem rowsOf_rev : ∀ qs : List Pr, (rowsOf lim w qs).reverse = tlD lim w qs
  | [] => rfl
  | q :: ys => by rw [rowsOf, List.reverse_append, rowsOf_rev ys]; rfl
theorem tlD_len : ∀ qs : List Pr, (tlD lim w qs).length = qs.length + 1
  | [] => rfl
  | q :: ys => by rw [tlD, List.length_cons, tlD_len ys]; rfl
theorem tlD_get : ∀ (qs : List Pr) (k : Nat), k ≤ qs.length → (tlD lim w qs)[k]? = some (sD lim w (qs.drop k))
  | [], 0, _ => rfl
  | [], k + 1, h => absurd h (by simp)
  | q :: ys, 0, _ => rfl
  | q :: ys, k + 1, h => by
    rw [tlD, List.getElem?_cons_succ, List.drop_succ_cons]
    exact tlD_get ys k (by simpa using h)
theorem tlD_at (qs : List Pr) (k : Nat) (h : k ≤ qs.length) : L2.atI (tlD lim w qs) (k : Int) = some (sD lim w (qs.drop k)) := by
  have := tlD_get (lim := lim) (w := w) qs k h
  obtain ⟨hk, e⟩ := List.getElem?_eq_some_iff.mp this
  rw [atI_nat hk, e]
theorem sD_nil : LT lim (sums []) = List.replicate (lim + 1) (.int 0) := by
  unfold LT
  rw [List.eq_replicate_iff]
  refine ⟨by rw [List.length_map, List.length_range'], fun d hd => ?_⟩
  obtain ⟨k, _, rfl⟩ := List.mem_map.mp hd
  rfl
theorem sum_rows_ok (n : Nat) (w0 : 1 ≤ w) (w1 : w ≤ 100) (qs : List Pr) (hq : ∀ q ∈ qs, q.ok) (hl : qs.length ≤ 100) (hlim : lim ≤ 10000) :
    callD tab.g (n + 2) N_sum_rows [.lst (qs.map (cD w)), .int lim] = .ok (.o1, .lst (tlD lim w qs)) := by
  rw [c_sum_rows, b_sum_rows]
  have mul : binD .mul (.lst [D.int 0]) (.int ((lim : Int) + 1)) = .ok (.lst (LT lim (sums []))) := by
    rw [sD_nil]
    simp only [binD, mulD]
    have t : ((lim : Int) + 1).toNat = lim + 1 := by omega
    rw [t, if_pos, List.flatten_replicate_singleton]
    rw [Bool.and_eq_true]
    refine ⟨absLe_of (by omega) (by omega), decide_eq_true ?_⟩
    exact szL_of (by simp; omega)
  obtain ⟨o', s3, s4, s5, s6, ho, e⟩ := sr_loop (lim := lim) n w0 w1 (.lst (qs.map (cD w))) hlim qs.reverse [] .o2 none none none none (fun q h => hq q (List.mem_reverse.mp h)) (by simp; omega) (.inr rfl)
  rw [List.reverse_reverse, List.append_nil] at e
  refine st (env' := [some (.sh, .lst (qs.map (cD w))), some (.sh, .int lim), some (.o2, .lst (rowsOf lim w [])), none, none, none, none]) ?_ ?_
  · simp [mul, rowsOf, sD, listOwn]
  refine st (env' := [some (.sh, .lst (qs.map (cD w))), some (.sh, .int lim), some (o', .lst (rowsOf lim w qs)), s3, s4, s5, s6]) ?_ ?_
  · rw [for_nm (o := (.sh, .lst (qs.map (cD w)))) (l := (qs.reverse).map (cD w)) (by simp [show seqOf (.lst (qs.map (cD w))) = some (qs.map (cD w)) from rfl, List.map_reverse])]
    simpa using e
  have f3 : frzS [(2, false)] 3 s3 = s3 := frzS_no rfl rfl
  have f4 : frzS [(2, false)] 4 s4 = s4 := frzS_no rfl rfl
  have f5 : frzS [(2, false)] 5 s5 = s5 := frzS_no rfl rfl
  have f6 : frzS [(2, false)] 6 s6 = s6 := frzS_no rfl rfl
  rw [← rowsOf_rev]
  rcases ho with rfl | rfl <;> simp [f3, f4, f5, f6]
/-- the room that is left -/
def roomN (qs : List Pr) (w : Int) (lim : Int) : Int := if (qs.map fun q => q.win w q.u).sum < lim then (qs.map fun q => q.win w q.u).sum else lim
def ims (w : Int) (qs : List Pr) : List Im := qs.map (Pr.im w)
def ldD (qs : List Pr) (w lim : Int) : D := match sums (ims w qs) (roomN qs w lim) with
  | none => .non
  | some _ => .tup [.int ((pickL (ims w qs) (roomN qs w lim)).sum - (qs.map Pr.u).sum), .tup ((pickL (ims w qs) (roomN qs w lim)).map .int)]
theorem mosts_nn : ∀ {qs : List Pr}, (∀ q ∈ qs, q.ok) → 1 ≤ w → 0 ≤ (qs.map fun q => q.win w q.u).sum ∧ (qs.map fun q => q.win w q.u).sum ≤ qs.length * w
  | [], _, _ => by simp
  | q :: qs, h, w0 => by
    have k := h q List.mem_cons_self
    have k' : Ok q.lo q.hi q.sl q.p q.b q.o q.u := k
    have h1 := win_nn k w0 k'.u1
    have h2 := win_w k w0 k'.u1
    have := mosts_nn (fun x hx => h x (List.mem_cons_of_mem _ hx)) w0
    rw [List.map_cons, List.sum_cons, List.length_cons]
    have e : ((qs.length + 1 : Nat) : Int) * w = qs.length * w + w := by rw [Int.natCast_add, Int.add_mul]; simp
    rw [e]
    omega
theorem ld_step (n : Nat) (qs : List Pr) (hq : ∀ q ∈ qs, q.ok) (w0 : 1 ≤ w) (w1 : w ≤ 100) (x0 x1 x2 : D) (k : Nat) (hk : k < qs.length) (room : Int) (r0 : 0 ≤ room) (r1 : room ≤ lim) (pre : List Int) (hp : pre.length = k) (hl : qs.length ≤ 8)
    (s10 s11 s12 : S2.Slot) (ne : sums (ims w (qs.drop k)) room ≠ none) :
    ∃ (room' o : Int) (s9' s10' s11' s12' : S2.Slot), 0 ≤ room' ∧ room' ≤ lim ∧ pickL (ims w (qs.drop k)) room = o :: pickL (ims w (qs.drop (k + 1))) room' ∧ sums (ims w (qs.drop (k + 1))) room' ≠ none ∧
      exs tab.g (cal tab.g (n + 1)) L_least_delays_0 [some (.sh, x0), some (.sh, x1), some (.sh, x2), some (.sh, .lst (qs.map (cD w))), none, none, some (.sh, .int room), some (.o1, .lst (tlD lim w qs)), some (.o1, .lst (pre.map .int)), some (.sh, .int k), s10, s11, s12] =
      .nx [some (.sh, x0), some (.sh, x1), some (.sh, x2), some (.sh, .lst (qs.map (cD w))), none, none, some (.sh, .int room'), some (.o1, .lst (tlD lim w qs)), some (.o1, .lst ((pre ++ [o]).map .int)), s9', s10', s11', s12'] := by
  have kq := hq _ (List.getElem_mem hk)
  have ki := im_ok kq w0 w1
  have dr : qs.drop k = qs[k] :: qs.drop (k + 1) := List.drop_eq_getElem_cons hk
  have e1 : ims w (qs.drop k) = Pr.im w qs[k] :: ims w (qs.drop (k + 1)) := by rw [dr]; rfl
  rw [e1] at ne ⊢
  rw [sums] at ne
  cases e : bestC (Pr.im w qs[k]).ch (sums (ims w (qs.drop (k + 1)))) room with
  | none => rw [e] at ne; exact absurd rfl ne
  | some r =>
    have B := best_min (cands (Pr.im w qs[k]).ch (sums (ims w (qs.drop (k + 1)))) room)
    have B : Best _ (bestC (Pr.im w qs[k]).ch (sums (ims w (qs.drop (k + 1)))) room) := B
    rw [e] at B
    obtain ⟨o, c, s, hm, hc, hs, rfl⟩ := cands_mem.1 B.1
    have c0 : 0 ≤ c := ki.c0 _ hm
    have bc := best_choice_ok (later := sums (ims w (qs.drop (k + 1)))) n (lim := lim) r0 r1 (qs[k].chs w) (fun o h => ki.c0 o h) (chs_len kq w0 w1)
    have e : bestC (qs[k].chs w) (sums (ims w (qs.drop (k + 1)))) room = some [o + s, o, c] := e
    rw [e] at bc
    have bc : callD tab.g (n + 1) N_best_choice [cD w qs[k], sD lim w (qs.drop (k + 1)), .int room] = .ok (.sh, .tup [.int (o + s), .int o, .int c]) := bc
    have a3 : L2.atI (qs.map (cD w)) (k : Int) = some (cD w qs[k]) := by rw [atI_nat (by rw [List.length_map]; exact hk), List.getElem_map]
    have a7 := tlD_at (lim := lim) (w := w) qs (k + 1) (by omega)
    have a7 : L2.atI (tlD lim w qs) ((k : Int) + 1) = some (sD lim w (qs.drop (k + 1))) := a7
    have zl := szL_lt (show pre.length ≤ 1000000 by omega)
    refine ⟨room - c, o, some (.sh, .int k), some (.sh, .int (o + s)), some (.sh, .int o), some (.sh, .int c), by omega, by omega, ?_, by rw [hs]; simp, ?_⟩
    · have e : bestC (Pr.im w qs[k]).ch (sums (ims w (qs.drop (k + 1)))) room = some [o + s, o, c] := e
      rw [pickL, e]
    · simp [L_least_delays_0, a3, a7, bc, zl]
theorem windows_lc (n : Nat) (qs : List Pr) (hq : ∀ q ∈ qs, q.ok) (w0 : 1 ≤ w) (w1 : w ≤ 100) (hl : qs.length ≤ 8) (x2 : D) (s3 s6 s7 s8 s9 s10 s11 s12 : S2.Slot) :
    ev tab.g (cal tab.g (n + 6)) (.lc (.call N_window_most (.cons (.var 4) (.cons (.var 5) (.cons (.var 1) .nil)))) (.tp [4, 5]) (.it (.var 0)) .none) [some (.sh, .tup (qs.map Pr.d)), some (.sh, .int w), some (.sh, x2), s3, none, none, s6, s7, s8, s9, s10, s11, s12] = .ok (.o1, .lst (qs.map fun q => D.int (q.win w q.u))) := by
  refine lc_gen (o := .sh) (s := .tup (qs.map Pr.d)) qs Pr.d _ (by simp) rfl (by omega) fun q hm => ?_
  have h := window_q n q (hq q hm) w0 w1
  exact ⟨[some (.sh, .tup (qs.map Pr.d)), some (.sh, .int w), some (.sh, x2), s3, some (.sh, q.f), some (.sh, q.s), s6, s7, s8, s9, s10, s11, s12], by simp, by simp [h]⟩
theorem tlD_has (qs : List Pr) : hasLs (tlD lim w qs) = true := by
  cases qs <;> (unfold tlD; rw [hasLs_cons]; rfl)
theorem least_delays_ok (n : Nat) (qs : List Pr) (hq : ∀ q ∈ qs, q.ok) (hl : qs.length ≤ 8) (w0 : 1 ≤ w) (w1 : w ≤ 100) (lim : Int) (l0 : 0 ≤ lim) (l1 : lim ≤ 1000) :
    callD tab.g (n + 9) N_least_delays [.tup (qs.map Pr.d), .int w, .int lim] = .ok (.sh, ldD qs w lim) := by
  rw [c_least_delays, b_least_delays]
  have cp := check_pairs_ok (n + 4) qs hq hl
  have cn := check_number_ok (n + 5) (.int w) 1 100 N_width rfl
  rw [in_int w0 w1, if_pos rfl] at cn
  have cl := check_number_ok (n + 5) (.int lim) 0 1000 N_limit rfl
  rw [in_int l0 l1, if_pos rfl] at cl
  obtain ⟨m0, m1⟩ := mosts_nn (w := w) hq w0
  have m1 : (qs.map fun q => q.win w q.u).sum ≤ 800 := by
    have : (qs.length : Int) * w ≤ 8 * w := Int.mul_le_mul_of_nonneg_right (by omega) (by omega)
    omega
  have room0 : 0 ≤ roomN qs w lim ∧ roomN qs w lim ≤ 1000 := by unfold roomN; split <;> omega
  obtain ⟨R, hR⟩ : ∃ R : Nat, roomN qs w lim = R := ⟨(roomN qs w lim).toNat, by omega⟩
  obtain ⟨o', ho, e3⟩ := lc_own (g := tab.g) (C := cal tab.g (n + 8)) (elt := .call N_choices_of (.cons (.var 4) (.cons (.var 5) (.cons (.var 1) .nil)))) (tg := .tp [4, 5]) (it := .it (.var 0)) (env := [some (.sh, .tup (qs.map Pr.d)), some (.sh, .int w), some (.sh, .int lim), none, none, none, none, none, none, none, none, none, none]) (o := (.sh, .tup (qs.map Pr.d))) qs Pr.d (cD w) (by simp) (by omega) fun q hm => by
    have h := choices_ok (n + 1) q (hq q hm) w0 w1
    exact ⟨[some (.sh, .tup (qs.map Pr.d)), some (.sh, .int w), some (.sh, .int lim), none, some (.sh, q.f), some (.sh, q.s), none, none, none, none, none, none, none], by simp, by simp [h]; rfl⟩
  refine st (env' := [some (.sh, .tup (qs.map Pr.d)), some (.sh, .int w), some (.sh, .int lim), none, none, none, none, none, none, none, none, none, none]) (by simp [cp]) ?_
  refine st (env' := [some (.sh, .tup (qs.map Pr.d)), some (.sh, .int w), some (.sh, .int lim), none, none, none, none, none, none, none, none, none, none]) (by simp [cn]) ?_
  refine st (env' := [some (.sh, .tup (qs.map Pr.d)), some (.sh, .int w), some (.sh, .int lim), none, none, none, none, none, none, none, none, none, none]) (by simp [cl]) ?_
  refine st (env' := [some (.sh, .tup (qs.map Pr.d)), some (.sh, .int w), some (.sh, .int lim), some (o', .lst (qs.map (cD w))), none, none, none, none, none, none, none, none, none]) ?_ ?_
  · rcases ho with rfl | rfl <;> simp [-ev_lc, e3]
  have s : biD .sum [.lst (qs.map fun q => D.int (q.win w q.u))] = .ok (.int (qs.map fun q => q.win w q.u).sum) := by
    have := sum_map (qs.map fun q => q.win w q.u)
    rwa [List.map_map] at this
  refine st (env' := [some (.sh, .tup (qs.map Pr.d)), some (.sh, .int w), some (.sh, .int lim), some (o', .lst (qs.map (cD w))), none, none, some (.sh, .int R), none, none, none, none, none, none]) ?_ ?_
  · have e6 := windows_lc (n + 2) qs hq w0 w1 hl (.int lim) (some (o', .lst (qs.map (cD w)))) none none none none none none none
    have e6 := e6
    rw [← hR]
    unfold roomN
    rcases ho with rfl | rfl <;> simp [-ev_lc, e6, s]
  have sr := sum_rows_ok (lim := R) (w := w) (n + 6) w0 w1 qs hq (by omega) (by omega)
  refine st (env' := [some (.sh, .tup (qs.map Pr.d)), some (.sh, .int w), some (.sh, .int lim), some (.sh, .lst (qs.map (cD w))), none, none, some (.sh, .int R), some (.o1, .lst (tlD R w qs)), none, none, none, none, none]) ?_ ?_
  · have hL : hasLs (tlD R w qs) = true := tlD_has qs
    rcases ho with rfl | rfl <;> simp [sr, hL]
  have at0 := tlD_at (lim := R) (w := w) qs 0 (by omega)
  have at0 : L2.atI (tlD R w qs) 0 = some (sD R w qs) := at0
  have atR := LT_at (lim := R) (later := sums (ims w qs)) (i := (R : Int)) (by omega) (by omega)
  have sDe : sD R w qs = .lst (LT R (sums (ims w qs))) := rfl
  unfold ldD
  rw [hR]
  cases e : sums (ims w qs) (R : Int) with
  | none =>
    rw [e] at atR
    have atR : L2.atI (LT R (sums (ims w qs))) (R : Int) = some .non := atR
    simp [at0, sDe, atR]
  | some v =>
    rw [e] at atR
    have atR : L2.atI (LT R (sums (ims w qs))) (R : Int) = some (.int v) := atR
    refine st (env' := [some (.sh, .tup (qs.map Pr.d)), some (.sh, .int w), some (.sh, .int lim), some (.sh, .lst (qs.map (cD w))), none, none, some (.sh, .int R), some (.o1, .lst (tlD R w qs)), none, none, none, none, none]) (by simp [at0, sDe, atR]) ?_
    refine st (env' := [some (.sh, .tup (qs.map Pr.d)), some (.sh, .int w), some (.sh, .int lim), some (.sh, .lst (qs.map (cD w))), none, none, some (.sh, .int R), some (.o1, .lst (tlD R w qs)), some (.o1, .lst []), none, none, none, none]) (by simp) ?_
    have loop : ∃ (room' : Int) (s9 s10 s11 s12 : S2.Slot), forL (fun x env' => exs tab.g (cal tab.g (n + 8)) L_least_delays_0 (env'.set 9 (some (.sh, x)))) (upto 0 qs.length) [some (.sh, .tup (qs.map Pr.d)), some (.sh, .int w), some (.sh, .int lim), some (.sh, .lst (qs.map (cD w))), none, none, some (.sh, .int R), some (.o1, .lst (tlD R w qs)), some (.o1, .lst []), none, none, none, none] =
        .nx [some (.sh, .tup (qs.map Pr.d)), some (.sh, .int w), some (.sh, .int lim), some (.sh, .lst (qs.map (cD w))), none, none, some (.sh, .int room'), some (.o1, .lst (tlD R w qs)), some (.o1, .lst ((pickL (ims w qs) R).map .int)), s9, s10, s11, s12] := by
      refine forL_up (Post := fun q => ∃ (room' : Int) (s9 s10 s11 s12 : S2.Slot), q = .nx [some (.sh, .tup (qs.map Pr.d)), some (.sh, .int w), some (.sh, .int lim), some (.sh, .lst (qs.map (cD w))), none, none, some (.sh, .int room'), some (.o1, .lst (tlD R w qs)), some (.o1, .lst ((pickL (ims w qs) R).map .int)), s9, s10, s11, s12])
        (fun k env => ∃ (room' : Int) (pre : List Int) (s9 s10 s11 s12 : S2.Slot), 0 ≤ room' ∧ room' ≤ R ∧ pre.length = k ∧ pickL (ims w qs) R = pre ++ pickL (ims w (qs.drop k)) room' ∧ sums (ims w (qs.drop k)) room' ≠ none ∧
          env = [some (.sh, .tup (qs.map Pr.d)), some (.sh, .int w), some (.sh, .int lim), some (.sh, .lst (qs.map (cD w))), none, none, some (.sh, .int room'), some (.o1, .lst (tlD R w qs)), some (.o1, .lst (pre.map .int)), s9, s10, s11, s12])
        ⟨R, [], none, none, none, none, by omega, Int.le_refl _, rfl, rfl, by rw [List.drop_zero, e]; simp, rfl⟩ (fun k env hk ⟨room', pre, s9, s10, s11, s12, r0, r1, hp, hpk, ne, he⟩ => ?_) (fun env ⟨room', pre, s9, s10, s11, s12, r0, r1, hp, hpk, ne, he⟩ => ?_)
      · subst he
        obtain ⟨room2, o, t9, t10, t11, t12, q0, q1, q2, q3, q4⟩ := ld_step (lim := R) (n + 7) qs hq w0 w1 (.tup (qs.map Pr.d)) (.int w) (.int lim) k hk room' r0 r1 pre hp hl s10 s11 s12 ne
        exact .inl ⟨_, .inl q4, room2, pre ++ [o], t9, t10, t11, t12, q0, q1, by simp [hp], by rw [hpk, q2, List.append_assoc]; rfl, q3, rfl⟩
      · subst he
        rw [List.drop_length] at hpk
        refine ⟨room', s9, s10, s11, s12, ?_⟩
        rw [hpk, show pickL (ims w []) room' = [] from rfl, List.append_nil]
    obtain ⟨room', s9, s10, s11, s12, e9⟩ := loop
    have r9 : rngD 0 (qs.length : Int) = .ok (upto 0 qs.length) := rng_nat (by omega)
    refine st (env' := [some (.sh, .tup (qs.map Pr.d)), some (.sh, .int w), some (.sh, .int lim), some (.sh, .lst (qs.map (cD w))), none, none, some (.sh, .int room'), some (.o1, .lst (tlD R w qs)), some (.o1, .lst ((pickL (ims w qs) R).map .int)), s9, s10, s11, s12]) ?_ ?_
    · rw [for_nm (o := (.sh, .non)) (l := upto 0 qs.length) (by simp [r9])]
      simpa using e9
    have eu : ev tab.g (cal tab.g (n + 8)) (.lc (.ix (.var 5) (.int 3)) (.tp [4, 5]) (.it (.var 0)) .none) [some (.sh, .tup (qs.map Pr.d)), some (.sh, .int w), some (.sh, .int lim), some (.sh, .lst (qs.map (cD w))), none, none, some (.sh, .int room'), some (.o1, .lst (tlD R w qs)), some (.o1, .lst ((pickL (ims w qs) R).map .int)), s9, s10, s11, s12] = .ok (.o1, .lst (qs.map fun q => D.int q.u)) := by
      refine lc_gen (o := .sh) (s := .tup (qs.map Pr.d)) qs Pr.d _ (by simp) rfl (by omega) fun q hm => ?_
      exact ⟨[some (.sh, .tup (qs.map Pr.d)), some (.sh, .int w), some (.sh, .int lim), some (.sh, .lst (qs.map (cD w))), some (.sh, q.f), some (.sh, q.s), some (.sh, .int room'), some (.o1, .lst (tlD R w qs)), some (.o1, .lst ((pickL (ims w qs) R).map .int)), s9, s10, s11, s12], by simp, by simp [stg3]⟩
    have su : biD .sum [.lst (qs.map fun q => D.int q.u)] = .ok (.int (qs.map Pr.u).sum) := by
      have := sum_map (qs.map Pr.u)
      rwa [List.map_map] at this
    have z2 := szL_of (show 2 ≤ 1000000 by decide)
    simp [-ev_lc, eu, su, sum_map, z2]
end
end Lw

set_option maxHeartbeats 1000000
namespace Lw
open PySem S2
def Pr.offD (q : Pr) (w c : Int) : D := if q.kind = N_silent then .int q.u else if c = 0 then .non else if q.kind = N_lively then .int (q.offc w c) else .int q.u
theorem least_off_ok (n : Nat) (q : Pr) (k : q.ok) {w c : Int} (w0 : 1 ≤ w) (w1 : w ≤ 100) (c0 : 0 ≤ c) (c1 : c ≤ 100) : callD tab.g (n + 6) N_least_off [q.f, q.s, .int w, .int c] = .ok (.sh, q.offD w c) := by
  rw [c_least_off, b_least_off]
  have k' : Ok q.lo q.hi q.sl q.p q.b q.o q.u := k
  have kq := kind_of_ok n k'
  have kq : callD tab.g (n + 5) N_kind_of [q.f, q.s] = .ok (.sh, .str q.kind) := kq
  have cn := check_number_ok (n + 2) (.int w) 1 100 N_width rfl
  rw [in_int w0 w1, if_pos rfl] at cn
  have cc := check_number_ok (n + 2) (.int c) 0 100 N_count rfl
  rw [in_int c0 c1, if_pos rfl] at cc
  unfold Pr.offD
  by_cases s : q.kind = N_silent
  · simp [kq, cn, cc, s, stg3]
  · by_cases z : c = 0
    · subst z
      simp [kq, cn, cc, s]
    · by_cases e : q.kind = N_lively
      · simp [kq, cn, cc, z, e, off_for_ok (n + 3) q k e w c (by omega) (by omega)]
      · simp [kq, cn, cc, s, z, e, stg3]
theorem lo_bad1 (n : Nat) (f s v c : D) (h : sv f = true) (hf : fieldB f = false) : callD tab.g (n + 6) N_least_off [f, s, v, c] = .exc (.ob N_InvalidField [] []) := by
  rw [c_least_off, b_least_off]
  simp [kind_bad1 n f s h hf]
theorem lo_bad2 (n : Nat) (f s v c : D) (h : sv f = true) (hf : fieldB f = true) (h2 : sv s = true) (hs : settingB s = false) : callD tab.g (n + 6) N_least_off [f, s, v, c] = .exc (.ob N_InvalidSetting [] []) := by
  rw [c_least_off, b_least_off]
  simp [kind_bad2 n f s h hf h2 hs]
theorem lo_bad3 (n : Nat) (q : Pr) (k : q.ok) (v c : D) (hv : okV v = true) (b : inB v 1 100 = false) : callD tab.g (n + 6) N_least_off [q.f, q.s, v, c] = .exc (.ob N_OutOfRange [N_word] [.str N_width]) := by
  rw [c_least_off, b_least_off]
  have kq := kind_of_ok n (show Ok q.lo q.hi q.sl q.p q.b q.o q.u from k)
  have kq : callD tab.g (n + 5) N_kind_of [q.f, q.s] = .ok (.sh, .str q.kind) := kq
  have cn := check_number_ok (n + 2) v 1 100 N_width hv
  rw [b, if_neg Bool.false_ne_true] at cn
  simp [kq, cn]
theorem lo_bad4 (n : Nat) (q : Pr) (k : q.ok) {w : Int} (w0 : 1 ≤ w) (w1 : w ≤ 100) (c : D) (hv : okV c = true) (b : inB c 0 100 = false) : callD tab.g (n + 6) N_least_off [q.f, q.s, .int w, c] = .exc (.ob N_OutOfRange [N_word] [.str N_count]) := by
  rw [c_least_off, b_least_off]
  have kq := kind_of_ok n (show Ok q.lo q.hi q.sl q.p q.b q.o q.u from k)
  have kq : callD tab.g (n + 5) N_kind_of [q.f, q.s] = .ok (.sh, .str q.kind) := kq
  have cn := check_number_ok (n + 2) (.int w) 1 100 N_width rfl
  rw [in_int w0 w1, if_pos rfl] at cn
  have cc := check_number_ok (n + 2) c 0 100 N_count hv
  rw [b, if_neg Bool.false_ne_true] at cc
  simp [kq, cn, cc]
/-! the law's windows -/
theorem lwith_ok (n : Nat) (p b o u a : Int) : callD tab.g (n + 1) N__law_with_off [stg p b o u, .int a] = .ok (.sh, stg p b o a) := by
  rw [c__law_with_off, b__law_with_off]
  simp [stg0, stg1, stg2]
theorem lwin_ok (n : Nat) (q : Pr) (k : q.ok) (w a : Int) (a0 : 0 ≤ a) (a1 : a ≤ 1000) : callD tab.g (n + 2) N__law_window [q.f, stg q.p q.b q.o a, .int w] = .ok (.sh, .int (q.win w a)) := by
  rw [c__law_window, b__law_window]
  have k' : Ok q.lo q.hi q.sl q.p q.b q.o q.u := k
  have kq := lkind_ok (lo := q.lo) (hi := q.hi) (sl := q.sl) (p := q.p) (b := q.b) (o := q.o) (u := a) n
  have kq : callD tab.g (n + 1) N__law_kind [q.f, stg q.p q.b q.o a] = .ok (.sh, .str q.kind) := kq
  by_cases s : q.kind = N_silent
  · rw [win_silent s]; simp [kq, s]
  · by_cases e : q.kind = N_lively
    · rw [win_lively e]
      have sp : 0 < q.sl := lively_sl k' e
      have f1 := fallI_pos (sl := q.sl) (b := q.b) sp k'.b1
      have f2 := fallI_le (sl := q.sl) (b := q.b) sp k'.b1
      have o0 := k'.o1
      have o1 := k'.o2
      have b1 := k'.b2
      have lg := lgap_ok (lo := q.lo) (hi := q.hi) (p := q.p) (b := q.b) (o := q.o) (u := a) n sp k'.f5
      have d := div_ii (w - 1) (gapI q.sl q.b q.o a) (by unfold gapI; omega) (by unfold gapI; omega)
      have e2 : 2 * fallI q.sl q.b + q.o + a = gapI q.sl q.b q.o a := rfl
      rw [e2]
      simp [kq, e, lg, d]
    · rw [win_other s e]; simp [kq, s, e]
/-- for x in range(a, a + n) -/
theorem forL_from {f : D → S2.Env → Out} {Post : Out → Prop} {a : Int} {n : Nat} {env : S2.Env} (Inv : Nat → S2.Env → Prop) (h0 : Inv 0 env) (step : ∀ k env, k < n → Inv k env → ∃ env', f (.int (a + (k : Int))) env = .nx env' ∧ Inv (k + 1) env')
    (hend : ∀ env, Inv n env → Post (.nx env)) : Post (forL f (upto a n) env) := by
  have e : upto a n = (List.range' 0 n).map fun k : Nat => D.int (a + (k : Int)) := by
    unfold upto
    rw [List.range_eq_range']
  rw [e]
  refine forL_ind (fun r env => ∃ k m, r = (List.range' k m).map (fun k : Nat => D.int (a + (k : Int))) ∧ k + m = n ∧ Inv k env) (fun x r env ⟨k, m, e, hm, i⟩ => ?_) (fun env ⟨k, m, e, hm, i⟩ => ?_) _ _ ⟨0, n, rfl, by omega, h0⟩
  · cases m with
    | zero => cases e
    | succ m =>
      rw [List.range'_succ, List.map_cons] at e
      injection e with e1 e2
      subst e1
      obtain ⟨env', e, i'⟩ := step k env (by omega) i
      exact .inl ⟨env', .inl e, k + 1, m, e2, by omega, i'⟩
  · cases m with
    | zero =>
      have : k = n := by omega
      subst this
      exact hend env i
    | succ m => rw [List.range'_succ, List.map_cons] at e; cases e
def Pr.opts (q : Pr) (w : Int) : List (Int × Int) := Lw.opts (q.win w) q.u (101 - q.u).toNat
theorem opts_len (f : Int → Int) (u : Int) : ∀ k, (opts f u k).length ≤ k
  | 0 => Nat.le_refl _
  | k + 1 => by
    have := opts_len f u k
    rw [opts]
    split
    · simp; omega
    · split
      · simp; omega
      · omega
theorem loptions_ok (n : Nat) (q : Pr) (k : q.ok) (w : Int) : callD tab.g (n + 3) N__law_options [q.f, q.s, .int w] = .ok (.o1, .lst ((q.opts w).map dC)) := by
  rw [c__law_options, b__law_options]
  have k' : Ok q.lo q.hi q.sl q.p q.b q.o q.u := k
  have u0 := k'.u1
  have u1 := k'.u2
  have r : rngD q.u 101 = .ok (upto q.u (101 - q.u).toNat) := by
    have a1 : small62 q.u = true := absLe_of (by omega) (by omega)
    have a2 : small62 101 = true := rfl
    unfold rngD
    rw [a1, a2]
    rfl
  have loop : ∃ s4 s5, forL (fun x env' => exs tab.g (cal tab.g (n + 2)) L__law_options_0 (env'.set 4 (some (.sh, x)))) (upto q.u (101 - q.u).toNat) [some (.sh, q.f), some (.sh, q.s), some (.sh, .int w), some (.o1, .lst []), none, none] =
      .nx [some (.sh, q.f), some (.sh, q.s), some (.sh, .int w), some (.o1, .lst ((q.opts w).map dC)), s4, s5] := by
    refine forL_from (Post := fun o => ∃ s4 s5, o = .nx [some (.sh, q.f), some (.sh, q.s), some (.sh, .int w), some (.o1, .lst ((q.opts w).map dC)), s4, s5])
      (fun k env => ∃ s4 s5, env = [some (.sh, q.f), some (.sh, q.s), some (.sh, .int w), some (.o1, .lst ((opts (q.win w) q.u k).map dC)), s4, s5]) ⟨none, none, rfl⟩ (fun j env hj ⟨s4, s5, e⟩ => ?_) (fun env ⟨s4, s5, e⟩ => ⟨s4, s5, by rw [e]; rfl⟩)
    subst e
    have lw := lwith_ok (n + 1) q.p q.b q.o q.u (q.u + j)
    have ww := lwin_ok n q k w (q.u + j) (by omega) (by omega)
    have ol := opts_len (q.win w) q.u j
    rcases opts_last (q.win w) q.u j with ⟨z, h⟩ | ⟨x, h, _⟩
    · subst z
      have h1 : opts (q.win w) q.u (0 + 1) = [(q.u + (0 : Nat), q.win w (q.u + (0 : Nat)))] := by rw [opts]; rfl
      have lw : callD tab.g (n + 2) N__law_with_off [q.s, .int q.u] = .ok (.sh, q.s) := by simpa using lw
      have ww : callD tab.g (n + 2) N__law_window [q.f, q.s, .int w] = .ok (.sh, .int (q.win w q.u)) := by simpa using ww
      have zz := szL_lt (show 0 ≤ 1000000 by decide)
      exact ⟨_, by simp [L__law_options_0, lw, ww, opts, zz]; rfl, some (.sh, .int q.u), some (.sh, .int (q.win w q.u)), by rw [h1]; simp [dC]⟩
    · have ne : opts (q.win w) q.u j ≠ [] := by intro e; rw [e] at h; cases h
      have hc : (opts (q.win w) q.u j).map dC = ((opts (q.win w) q.u j).dropLast).map dC ++ [dC x] := by
        have := List.dropLast_concat_getLast ne
        rw [List.getLast?_eq_some_getLast ne] at h
        injection h with h
        rw [h] at this
        rw [← List.map_singleton (f := dC), ← List.map_append, this]
      have al : L2.atI ((opts (q.win w) q.u j).map dC) (-1) = some (dC x) := by rw [hc]; exact atI_last _ _
      have a1 : L2.atI [D.int x.1, .int x.2] 1 = some (.int x.2) := rfl
      have zl := szL_lt (show (opts (q.win w) q.u j).length ≤ 1000000 by omega)
      have zl2 := szL_of (show (opts (q.win w) q.u j).length ≤ 1000000 by omega)
      have n0 : ¬ ((opts (q.win w) q.u j).length : Int) = 0 := by have := List.length_pos_iff.mpr ne; omega
      by_cases c : q.win w (q.u + j) < x.2
      · have h1 : opts (q.win w) q.u (j + 1) = opts (q.win w) q.u j ++ [(q.u + (j : Int), q.win w (q.u + j))] := by rw [opts, h]; simp [c]
        exact ⟨[some (.sh, q.f), some (.sh, q.s), some (.sh, .int w), some (.o1, .lst ((opts (q.win w) q.u (j + 1)).map dC)), some (.sh, .int (q.u + j)), some (.sh, .int (q.win w (q.u + j)))], by rw [h1]; simp [L__law_options_0, lw, ww, al, dC, a1, c, zl, zl2, ne], _, _, rfl⟩
      · have h1 : opts (q.win w) q.u (j + 1) = opts (q.win w) q.u j := by rw [opts, h]; simp [c]
        exact ⟨[some (.sh, q.f), some (.sh, q.s), some (.sh, .int w), some (.o1, .lst ((opts (q.win w) q.u (j + 1)).map dC)), some (.sh, .int (q.u + j)), some (.sh, .int (q.win w (q.u + j)))], by rw [h1]; simp [L__law_options_0, lw, ww, al, dC, a1, c, zl, zl2, ne], _, _, rfl⟩
  obtain ⟨s4, s5, e⟩ := loop
  refine st (env' := [some (.sh, q.f), some (.sh, q.s), some (.sh, .int w), some (.o1, .lst []), none, none]) (by simp) ?_
  refine st (env' := [some (.sh, q.f), some (.sh, q.s), some (.sh, .int w), some (.o1, .lst ((q.opts w).map dC)), s4, s5]) ?_ (by simp)
  rw [for_nm (o := (.sh, .non)) (l := upto q.u (101 - q.u).toNat) (by simp [stg3, r])]
  simpa using e
end Lw

set_option maxHeartbeats 1000000
namespace Lw
open PySem S2
/-! the law's least off delay -/
theorem od_loop (C : Cal) (f s w : D) (c : Int) : ∀ (l : List (Int × Int)) (s4 : S2.Slot), ∃ s4', forL (fun x env' => exs tab.g C L__law_off_due_0 (env'.set 4 (some (.sh, x)))) (l.map dC) [some (.sh, f), some (.sh, s), some (.sh, w), some (.sh, .int c), s4] =
    match l.find? (fun x => decide (x.2 ≤ c)) with
    | some x => .ret .sh (.int x.1)
    | none => .nx [some (.sh, f), some (.sh, s), some (.sh, w), some (.sh, .int c), s4']
  | [], s4 => ⟨s4, rfl⟩
  | (a, b) :: l, s4 => by
    have a0 : L2.atI [D.int a, .int b] 0 = some (.int a) := rfl
    have a1 : L2.atI [D.int a, .int b] 1 = some (.int b) := rfl
    obtain ⟨s4', ih⟩ := od_loop C f s w c l (some (.sh, dC (a, b)))
    refine ⟨s4', ?_⟩
    rw [List.map_cons]
    by_cases h : b ≤ c
    · rw [List.find?_cons_of_pos (by simpa using h)]
      refine forL_ret ?_
      simp [L__law_off_due_0, dC, a0, a1, h]
    · rw [List.find?_cons_of_neg (by simpa using h), ← ih]
      refine forL_nx ?_
      simp [L__law_off_due_0, dC, a0, a1, h]
theorem off_due_eq (q : Pr) (k : q.ok) {w c : Int} (w0 : 1 ≤ w) (w1 : w ≤ 100) (c0 : 0 ≤ c) : (match (q.opts w).find? (fun x => decide (x.2 ≤ c)) with | some x => D.int x.1 | none => .non) = q.offD w c := by
  have k' : Ok q.lo q.hi q.sl q.p q.b q.o q.u := k
  have u0 := k'.u1
  have u1 := k'.u2
  unfold Pr.opts
  rw [opts_find]
  have some_ : ∀ j : Nat, j < (101 - q.u).toNat → q.win w (q.u + j) ≤ c → (∀ i : Nat, i < j → ¬ q.win w (q.u + i) ≤ c) → (List.range (101 - q.u).toNat).find? (fun j => decide (q.win w (q.u + (j : Nat)) ≤ c)) = some j := fun j hj h1 h2 => by
    rw [List.find?_range_eq_some]
    exact ⟨by simpa using h1, List.mem_range.mpr hj, fun i hi => by simpa using h2 i hi⟩
  have none_ : (∀ i : Nat, i < (101 - q.u).toNat → ¬ q.win w (q.u + i) ≤ c) → (List.range (101 - q.u).toNat).find? (fun j => decide (q.win w (q.u + (j : Nat)) ≤ c)) = none := fun h => by
    rw [List.find?_eq_none]
    intro x hx
    simpa using h x (List.mem_range.mp hx)
  unfold Pr.offD
  by_cases s : q.kind = N_silent
  · rw [if_pos s, some_ 0 (by omega) (by rw [win_silent s]; exact c0) (fun i hi => absurd hi (by omega))]
    show D.int (q.u + (0 : Nat)) = _
    simp
  · rw [if_neg s]
    by_cases z : c = 0
    · rw [if_pos z, none_ fun i hi => by have := win_pos k s w0 (show 0 ≤ q.u + (i : Int) by omega); omega]
      rfl
    · rw [if_neg z]
      by_cases e : q.kind = N_lively
      · rw [if_pos e]
        obtain ⟨p1, p2, p3⟩ := offc_u (q := q) (w := w) (c := c)
        have nl := need_le k e (w := w) (c := c) w0 (by omega)
        have le := p3 100 u1 (by omega)
        rw [some_ (q.offc w c - q.u).toNat (by omega) ((win_le k e w0 (by omega) (by omega)).2 (by omega)) fun i hi h => ?_]
        · show D.int (q.u + (((q.offc w c - q.u).toNat : Nat) : Int)) = _
          congr 1
          omega
        · have h2 := (win_le k e w0 (show 0 ≤ q.u + (i : Int) by omega) (show 1 ≤ c by omega)).1 h
          have h3 := p3 (q.u + (i : Int)) (by omega) h2
          omega
      · rw [if_neg e, some_ 0 (by omega) (by rw [win_other s e]; omega) (fun i hi => absurd hi (by omega))]
        show D.int (q.u + (0 : Nat)) = _
        simp
theorem loff_ok (n : Nat) (q : Pr) (k : q.ok) {w c : Int} (w0 : 1 ≤ w) (w1 : w ≤ 100) (c0 : 0 ≤ c) : callD tab.g (n + 4) N__law_off_due [q.f, q.s, .int w, .int c] = .ok (.sh, q.offD w c) := by
  rw [c__law_off_due, b__law_off_due, ← off_due_eq q k w0 w1 c0]
  have lo := loptions_ok n q k w
  obtain ⟨s4, e⟩ := od_loop (cal tab.g (n + 3)) q.f q.s (.int w) c (q.opts w) none
  rw [exs_seq, for_nm (o := (.o1, .lst ((q.opts w).map dC))) (l := (q.opts w).map dC) (by simp [lo])]
  have e' : forL (fun x env' => exs tab.g (cal tab.g (n + 3)) L__law_off_due_0 (env'.set 4 (some (.sh, x)))) ((q.opts w).map dC) (aftI (rdi (.it (.call N__law_options (.cons (.var 0) (.cons (.var 1) (.cons (.var 2) .nil)))))) (.o1, .lst ((q.opts w).map dC)) [some (.sh, q.f), some (.sh, q.s), some (.sh, .int w), some (.sh, .int c), none]) = _ := (by simpa using e)
  rw [e']
  cases (q.opts w).find? (fun x => decide (x.2 ≤ c)) <;> simp
/-! the rows of the law's search -/
def oR : Option (List Int) → D
  | none => .non
  | some r => RR r
def BL (R : Nat) (B : Nat → Option (List Int)) : List D := (List.range' 0 (R + 1)).map fun t : Nat => oR (B t)
theorem BL_len (R : Nat) (B : Nat → Option (List Int)) : (BL R B).length = R + 1 := by unfold BL; rw [List.length_map, List.length_range']
theorem BL_at {R : Nat} {B : Nat → Option (List Int)} {t : Nat} (h : t ≤ R) : L2.atI (BL R B) (t : Int) = some (oR (B t)) := by
  rw [atI_nat (by rw [BL_len]; omega)]
  unfold BL
  rw [List.getElem_map, List.getElem_range']
  simp
def upd (B : Nat → Option (List Int)) (t : Nat) (m : Option (List Int)) : Nat → Option (List Int) := fun i => if i = t then m else B i
theorem BL_set {R : Nat} {B : Nat → Option (List Int)} {t : Nat} {m : Option (List Int)} : (BL R B).set t (oR m) = BL R (upd B t m) := by
  apply List.ext_getElem
  · rw [List.length_set, BL_len, BL_len]
  · intro i h1 h2
    have g : ∀ (F : Nat → Option (List Int)) (h : i < (BL R F).length), (BL R F)[i] = oR (F i) := fun F h => by
      have hk : i < ((List.range' 0 (R + 1)).map fun t : Nat => oR (F t)).length := h
      show ((List.range' 0 (R + 1)).map fun t : Nat => oR (F t))[i] = _
      rw [List.getElem_map, List.getElem_range']
      simp
    rw [List.getElem_set, g (upd B t m) h2]
    unfold upd
    by_cases e : t = i
    · rw [if_pos e, if_pos e.symm]
    · rw [if_neg e, if_neg (Ne.symm e), g B]
theorem BL_same {B : Nat → Option (List Int)} {t : Nat} {m : Option (List Int)} (h : B t = m) : upd B t m = B := by
  funext i
  unfold upd
  by_cases e : i = t
  · rw [if_pos e, e, h]
  · rw [if_neg e]
theorem ixN_k {m k : Nat} (h : k < m) : L2.ixN m (k : Int) = some k := by rw [ixN_int (by omega) (by omega)]; simp
theorem hasL_RR (r : List Int) : hasL (RR r) = false := by
  cases r with
  | nil => rfl
  | cons s as => show hasLs [D.int s, .tup (as.map .int)] = false; rw [hasLs_cons, hasLs_cons]; simp [hasLs_all (f := D.int) (fun _ => rfl) as]
theorem rr_cmp {s t : Int} {a b : List Int} (h : a.length = b.length) (h2 : a.length ≤ 1000) : cmpD .lt (RR (s :: a)) (RR (t :: b)) = .ok (lxl (s :: a) (t :: b)) := by
  show ltD _ _ = _
  unfold ltD
  rw [rr_alike h, plainB_pl (rr_pl (s := s) (show a.length ≤ 1000000 by omega)), plainB_pl (rr_pl (s := t) (show b.length ≤ 1000000 by omega)), rr_lt h]
  rfl
section
variable {R : Nat} {w lim : Int}
/-- one option -/
theorem dd_inner (C : Cal) (x0 x1 x2 x4 : D) (x7 : S2.Slot) (o5 : Own) (h5 : o5 = .sh ∨ o5 = .o1) (hR : R ≤ 10000) (B : Nat → Option (List Int)) (k : Nat) (hk : k ≤ R) (s : Int) (as : List Int) (hB : B k = some (s :: as)) (hlen : as.length ≤ 100) : ∀ (ops : List (Int × Int)) (B' : Nat → Option (List Int)) (P : Nat → List Int → Prop) (s9 s10 s11 : S2.Slot),
    (∀ x ∈ ops, 0 ≤ x.2) → (∀ t ≤ R, Best (P t) (B' t)) → (∀ t ≤ R, ∀ r, P t r → ∃ v vs, r = v :: vs ∧ vs.length = as.length + 1) →
    ∃ (B'' : Nat → Option (List Int)) (s9' s10' s11' : S2.Slot), forL (fun x env' => exs tab.g C L__law_delays_due_0 (env'.set 9 (some (.sh, x)))) (ops.map dC) [some (.sh, x0), some (.sh, x1), some (.sh, x2), some (.sh, .int R), some (.sh, x4), some (o5, .lst (BL R B)), some (.o1, .lst (BL R B')), x7, some (.sh, .int k), s9, s10, s11, none] =
      .nx [some (.sh, x0), some (.sh, x1), some (.sh, x2), some (.sh, .int R), some (.sh, x4), some (o5, .lst (BL R B)), some (.o1, .lst (BL R B'')), x7, some (.sh, .int k), s9', s10', s11', none] ∧
      ∀ t ≤ R, Best (fun r => P t r ∨ ∃ o c, (o, c) ∈ ops ∧ (k : Int) + c = t ∧ r = (s + o) :: (as ++ [o])) (B'' t)
  | [], B', P, s9, s10, s11, _, hb, _ => ⟨B', s9, s10, s11, rfl, fun t ht => (hb t ht).congr fun r => by simp⟩
  | (o, c) :: ops, B', P, s9, s10, s11, h0, hb, hp => by
    have c0 : 0 ≤ c := h0 (o, c) List.mem_cons_self
    have a0 : L2.atI [D.int o, .int c] 0 = some (.int o) := rfl
    have a1 : L2.atI [D.int o, .int c] 1 = some (.int c) := rfl
    have b5 := BL_at (R := R) (B := B) hk
    rw [hB] at b5
    have b5 : L2.atI (BL R B) (k : Int) = some (.tup [.int s, .tup (as.map .int)]) := b5
    have r0 : L2.atI [D.int s, .tup (as.map .int)] 0 = some (.int s) := rfl
    have r1 : L2.atI [D.int s, .tup (as.map .int)] 1 = some (.tup (as.map .int)) := rfl
    by_cases le : (k : Int) + c ≤ R
    · obtain ⟨t, et⟩ : ∃ t : Nat, (k : Int) + c = t := ⟨((k : Int) + c).toNat, by omega⟩
      have tR : t ≤ R := by omega
      have b6 := BL_at (R := R) (B := B') tR
      have at_ : binD .add (.tup (as.map D.int)) (.tup [.int o]) = .ok (.tup ((as ++ [o]).map .int)) := by rw [add_tup (by simp; omega), List.map_append]; rfl
      have ix := ixN_k (m := R + 1) (k := t) (by omega)
      have z2 := szL_of (show 2 ≤ 1000000 by decide)
      have z1 := szL_of (show 1 ≤ 1000000 by decide)
      have zf : as.length + 1 ≤ szL := szL_of (by omega)
      have hLr : hasL (.tup [.int (s + o), .tup ((as ++ [o]).map .int)]) = false := hasL_RR ((s + o) :: (as ++ [o]))
      have fin : ∀ (env1 : S2.Env) (s11' : S2.Slot), exs tab.g C L__law_delays_due_0 [some (.sh, x0), some (.sh, x1), some (.sh, x2), some (.sh, .int R), some (.sh, x4), some (o5, .lst (BL R B)), some (.o1, .lst (BL R B')), x7, some (.sh, .int k), some (.sh, dC (o, c)), s10, s11, none] = .nx env1 → env1 = [some (.sh, x0), some (.sh, x1), some (.sh, x2), some (.sh, .int R), some (.sh, x4), some (o5, .lst (BL R B)), some (.o1, .lst (BL R (upd B' t (bet (B' t) ((s + o) :: (as ++ [o])))))), x7, some (.sh, .int k), some (.sh, dC (o, c)), some (.sh, .int t), s11', none] →
          ∃ (B'' : Nat → Option (List Int)) (s9' s10' s11' : S2.Slot), forL (fun x env' => exs tab.g C L__law_delays_due_0 (env'.set 9 (some (.sh, x)))) (((o, c) :: ops).map dC) [some (.sh, x0), some (.sh, x1), some (.sh, x2), some (.sh, .int R), some (.sh, x4), some (o5, .lst (BL R B)), some (.o1, .lst (BL R B')), x7, some (.sh, .int k), s9, s10, s11, none] =
            .nx [some (.sh, x0), some (.sh, x1), some (.sh, x2), some (.sh, .int R), some (.sh, x4), some (o5, .lst (BL R B)), some (.o1, .lst (BL R B'')), x7, some (.sh, .int k), s9', s10', s11', none] ∧
            ∀ t ≤ R, Best (fun r => P t r ∨ ∃ o' c', (o', c') ∈ (o, c) :: ops ∧ (k : Int) + c' = t ∧ r = (s + o') :: (as ++ [o'])) (B'' t) := fun env1 s11' e1 e2 => by
        subst e2
        obtain ⟨B'', t9, t10, t11, e, hb2⟩ := dd_inner C x0 x1 x2 x4 x7 o5 h5 hR B k hk s as hB hlen ops (upd B' t (bet (B' t) ((s + o) :: (as ++ [o])))) (fun i r => P i r ∨ (i = t ∧ r = (s + o) :: (as ++ [o]))) (some (.sh, dC (o, c))) (some (.sh, .int t)) s11' (fun x hx => h0 x (List.mem_cons_of_mem _ hx)) (fun i hi => by
          unfold upd
          by_cases ei : i = t
          · rw [if_pos ei, ei]
            exact ((hb t tR).bet _).congr fun r => by simp
          · rw [if_neg ei]
            exact (hb i hi).congr fun r => by simp [ei]) (fun i hi r hr => by
          rcases hr with hr | ⟨_, rfl⟩
          · exact hp i hi r hr
          · exact ⟨_, _, rfl, by simp⟩)
        refine ⟨B'', t9, t10, t11, ?_, fun i hi => (hb2 i hi).congr fun r => ?_⟩
        · rw [List.map_cons, ← e]
          exact forL_nx e1
        · constructor
          · rintro ((h | ⟨rfl, rfl⟩) | ⟨o', c', h1, h2, h3⟩)
            · exact .inl h
            · exact .inr ⟨o, c, List.mem_cons_self, et, rfl⟩
            · exact .inr ⟨o', c', List.mem_cons_of_mem _ h1, h2, h3⟩
          · rintro (h | ⟨o', c', h1, h2, h3⟩)
            · exact .inl (.inl h)
            · rcases List.mem_cons.mp h1 with h1 | h1
              · injection h1 with h4 h5
                subst h4 h5
                exact .inl (.inr ⟨by omega, h3⟩)
              · exact .inr ⟨o', c', h1, h2, h3⟩
      have hb' := hb t tR
      have f7 : frzS [(6, false)] 7 x7 = x7 := frzS_no rfl rfl
      have rowE : RR ((s + o) :: (as ++ [o])) = .tup [.int (s + o), .tup ((as ++ [o]).map .int)] := rfl
      cases eb : B' t with
      | none =>
        rw [eb] at b6
        have b6 : L2.atI (BL R B') (t : Int) = some .non := b6
        refine fin _ (some (.sh, RR ((s + o) :: (as ++ [o])))) ?_ rfl
        rw [eb, show bet none ((s + o) :: (as ++ [o])) = some ((s + o) :: (as ++ [o])) from rfl, ← BL_set]
        show _ = Out.nx [_, _, _, _, _, _, some (.o1, .lst ((BL R B').set t (RR ((s + o) :: (as ++ [o]))))), _, _, _, _, _, _]
        rw [rowE]
        rcases h5 with rfl | rfl <;> simp [L__law_delays_due_0, dC, a0, a1, b5, r0, r1, et, tR, at_, b6, ix, z2, z1, hLr, f7, BL_len]
      | some r =>
        rw [eb] at b6 hb'
        obtain ⟨v, vs, rfl, hvs⟩ := hp t tR r hb'.1
        have cmp := rr_cmp (s := s + o) (t := v) (a := as ++ [o]) (b := vs) (by simp [hvs]) (by simp; omega)
        have b6 : L2.atI (BL R B') (t : Int) = some (RR (v :: vs)) := b6
        have nn : isNonD (RR (v :: vs)) = false := rfl
        rw [rowE] at cmp
        simp only [List.map_append, List.map_cons, List.map_nil] at cmp
        by_cases q : lxl ((s + o) :: (as ++ [o])) (v :: vs) = true
        · refine fin _ (some (.sh, RR ((s + o) :: (as ++ [o])))) ?_ rfl
          rw [q] at cmp
          rw [eb, show bet (some (v :: vs)) ((s + o) :: (as ++ [o])) = some ((s + o) :: (as ++ [o])) from if_pos q, ← BL_set]
          show _ = Out.nx [_, _, _, _, _, _, some (.o1, .lst ((BL R B').set t (RR ((s + o) :: (as ++ [o]))))), _, _, _, _, _, _]
          rw [rowE]
          rcases h5 with rfl | rfl <;> simp [L__law_delays_due_0, dC, a0, a1, b5, r0, r1, et, tR, at_, b6, ix, z2, z1, hLr, f7, BL_len, nn, cmp]
        · refine fin _ (some (.sh, RR ((s + o) :: (as ++ [o])))) ?_ rfl
          rw [Bool.eq_false_iff.mpr q] at cmp
          rw [BL_same (by rw [eb]; exact (if_neg q).symm)]
          rw [rowE]
          rcases h5 with rfl | rfl <;> simp [L__law_delays_due_0, dC, a0, a1, b5, r0, r1, et, tR, at_, b6, ix, z2, z1, hLr, f7, BL_len, nn, cmp]
    · obtain ⟨B'', t9, t10, t11, e, hb2⟩ := dd_inner C x0 x1 x2 x4 x7 o5 h5 hR B k hk s as hB hlen ops B' P (some (.sh, dC (o, c))) (some (.sh, .int (k + c))) s11 (fun x hx => h0 x (List.mem_cons_of_mem _ hx)) hb hp
      refine ⟨B'', t9, t10, t11, ?_, fun i hi => (hb2 i hi).congr fun r => ?_⟩
      · rw [List.map_cons, ← e]
        refine forL_nx ?_
        rcases h5 with rfl | rfl <;> simp [L__law_delays_due_0, dC, a1, le]
      · constructor
        · rintro (h | ⟨o', c', h1, h2, h3⟩)
          · exact .inl h
          · exact .inr ⟨o', c', List.mem_cons_of_mem _ h1, h2, h3⟩
        · rintro (h | ⟨o', c', h1, h2, h3⟩)
          · exact .inl h
          · rcases List.mem_cons.mp h1 with h1 | h1
            · injection h1 with h4 h5
              subst h4 h5
              omega
            · exact .inr ⟨o', c', h1, h2, h3⟩
end
end Lw

set_option maxHeartbeats 1000000
namespace Lw
open PySem S2
section
variable {R : Nat} {w lim : Int}
theorem dd_mid (C : Cal) (x0 x1 x2 x4 : D) (q : Pr) (k0 : q.ok) (w0 : 1 ≤ w) (w1 : w ≤ 100) (o5 : Own) (h5 : o5 = .sh ∨ o5 = .o1) (hR : R ≤ 10000) (B : Nat → Option (List Int)) (m : Nat) (hm : m ≤ 100) (hB : ∀ k ≤ R, ∀ r, B k = some r → ∃ s as, r = s :: as ∧ as.length = m) (s8 s9 s10 s11 : S2.Slot) :
    ∃ (B' : Nat → Option (List Int)) (o7 : Own) (s8' s9' s10' s11' : S2.Slot), (o7 = .o1 ∨ o7 = .sh) ∧ forL (fun x env' => exs tab.g C L__law_delays_due_1 (env'.set 8 (some (.sh, x)))) (upto 0 (R + 1)) [some (.sh, x0), some (.sh, x1), some (.sh, x2), some (.sh, .int R), some (.sh, x4), some (o5, .lst (BL R B)), some (.o1, .lst (BL R fun _ => none)), some (.o1, .lst ((q.opts w).map dC)), s8, s9, s10, s11, none] =
      .nx [some (.sh, x0), some (.sh, x1), some (.sh, x2), some (.sh, .int R), some (.sh, x4), some (o5, .lst (BL R B)), some (.o1, .lst (BL R B')), some (o7, .lst ((q.opts w).map dC)), s8', s9', s10', s11', none] ∧
      ∀ t ≤ R, Best (stepC (q.im w) B (R + 1) t) (B' t) := by
  have ki := im_ok k0 w0 w1
  refine forL_up (Post := fun out => ∃ (B' : Nat → Option (List Int)) (o7 : Own) (s8' s9' s10' s11' : S2.Slot), (o7 = .o1 ∨ o7 = .sh) ∧ out = .nx [some (.sh, x0), some (.sh, x1), some (.sh, x2), some (.sh, .int R), some (.sh, x4), some (o5, .lst (BL R B)), some (.o1, .lst (BL R B')), some (o7, .lst ((q.opts w).map dC)), s8', s9', s10', s11', none] ∧ ∀ t ≤ R, Best (stepC (q.im w) B (R + 1) t) (B' t))
    (fun k env => ∃ (B' : Nat → Option (List Int)) (o7 : Own) (s8' s9' s10' s11' : S2.Slot), (o7 = .o1 ∨ o7 = .sh) ∧ env = [some (.sh, x0), some (.sh, x1), some (.sh, x2), some (.sh, .int R), some (.sh, x4), some (o5, .lst (BL R B)), some (.o1, .lst (BL R B')), some (o7, .lst ((q.opts w).map dC)), s8', s9', s10', s11', none] ∧ ∀ t ≤ R, Best (stepC (q.im w) B k t) (B' t))
    ⟨_, .o1, s8, s9, s10, s11, .inl rfl, rfl, fun t ht r ⟨k, s, as, o, c, hk, _⟩ => absurd hk (by omega)⟩ (fun k env hk ⟨B', o7, s8, s9, s10, s11, h7, e, hb⟩ => ?_) (fun env ⟨B', o7, s8, s9, s10, s11, h7, e, hb⟩ => ⟨B', o7, s8, s9, s10, s11, h7, by rw [e], hb⟩)
  subst e
  have b5 := BL_at (R := R) (B := B) (t := k) (by omega)
  cases eb : B k with
  | none =>
    rw [eb] at b5
    have b5 : L2.atI (BL R B) (k : Int) = some .non := b5
    refine .inl ⟨[some (.sh, x0), some (.sh, x1), some (.sh, x2), some (.sh, .int R), some (.sh, x4), some (o5, .lst (BL R B)), some (.o1, .lst (BL R B')), some (o7, .lst ((q.opts w).map dC)), some (.sh, .int k), s9, s10, s11, none], .inl ?_, B', o7, _, _, _, _, h7, rfl, fun t ht => (hb t ht).congr fun r => ?_⟩
    · rcases h5 with rfl | rfl <;> simp [L__law_delays_due_1, b5]
    · constructor
      · rintro ⟨j, s, as, o, c, hj, h⟩
        exact ⟨j, s, as, o, c, by omega, h⟩
      · rintro ⟨j, s, as, o, c, hj, h1, h⟩
        have : j ≠ k := fun z => by rw [z, eb] at h1; cases h1
        exact ⟨j, s, as, o, c, by omega, h1, h⟩
  | some r =>
    obtain ⟨s, as, rfl, hl⟩ := hB k (by omega) r eb
    rw [eb] at b5
    have b5 : L2.atI (BL R B) (k : Int) = some (.tup [.int s, .tup (as.map .int)]) := b5
    have shp : ∀ t ≤ R, ∀ r, stepC (q.im w) B k t r → ∃ v vs, r = v :: vs ∧ vs.length = as.length + 1 := fun t ht r ⟨j, s', as', o, c, hj, h1, h2, h3, h4⟩ => by
      obtain ⟨s2, as2, e2, l2⟩ := hB j (by omega) _ h1
      injection e2 with e3 e4
      subst e4
      exact ⟨_, _, h4, by simp; omega⟩
    have o0 : ∀ x ∈ q.opts w, 0 ≤ x.2 := fun x hx => by
      obtain ⟨m1, m2, m3⟩ := opts_mem _ _ _ x hx
      rw [m3]
      exact ki.nn _ (Int.le_trans ki.u0 m1)
    obtain ⟨B'', t9, t10, t11, e, hb2⟩ := dd_inner C x0 x1 x2 x4 (some (.sh, .lst ((q.opts w).map dC))) o5 h5 hR B k (by omega) s as eb (by omega) (q.opts w) B' (stepC (q.im w) B k) s9 s10 s11 o0 hb shp
    refine .inl ⟨_, .inl ?_, B'', .sh, some (.sh, .int k), t9, t10, t11, .inr rfl, rfl, fun t ht => (hb2 t ht).congr fun r => ?_⟩
    · show exs tab.g C L__law_delays_due_1 [some (.sh, x0), some (.sh, x1), some (.sh, x2), some (.sh, .int R), some (.sh, x4), some (o5, .lst (BL R B)), some (.o1, .lst (BL R B')), some (o7, .lst ((q.opts w).map dC)), some (.sh, .int k), s9, s10, s11, none] = _
      have f9 : frzS [(7, true)] 9 s9 = s9 := frzS_no rfl rfl
      have f10 : frzS [(7, true)] 10 s10 = s10 := frzS_no rfl rfl
      have f11 : frzS [(7, true)] 11 s11 = s11 := frzS_no rfl rfl
      have fr : exS tab.g C (.for_ (.nm 9) (.it (.var 7)) L__law_delays_due_0) [some (.sh, x0), some (.sh, x1), some (.sh, x2), some (.sh, .int R), some (.sh, x4), some (o5, .lst (BL R B)), some (.o1, .lst (BL R B')), some (o7, .lst ((q.opts w).map dC)), some (.sh, .int k), s9, s10, s11, none] =
          .nx [some (.sh, x0), some (.sh, x1), some (.sh, x2), some (.sh, .int R), some (.sh, x4), some (o5, .lst (BL R B)), some (.o1, .lst (BL R B'')), some (.sh, .lst ((q.opts w).map dC)), some (.sh, .int k), t9, t10, t11, none] := by
        rw [for_nm (o := (.sh, .lst ((q.opts w).map dC))) (l := (q.opts w).map dC) (by rcases h7 with rfl | rfl <;> simp), ← e]
        congr 1
        rcases h7 with rfl | rfl <;> rcases h5 with rfl | rfl <;> simp [f9, f10, f11]
      rcases h5 with rfl | rfl <;> simp [-exS_for, L__law_delays_due_1, b5, fr]
    · constructor
      · rintro (⟨j, s', as', o, c, hj, h⟩ | ⟨o, c, h1, h2, h3⟩)
        · exact ⟨j, s', as', o, c, by omega, h⟩
        · exact ⟨k, s, as, o, c, by omega, eb, h1, h2, h3⟩
      · rintro ⟨j, s', as', o, c, hj, h1, h2, h3, h4⟩
        by_cases z : j = k
        · subst z
          rw [eb] at h1
          injection h1 with h1
          injection h1 with h5 h6
          subst h5 h6
          exact .inr ⟨o, c, h2, h3, h4⟩
        · exact .inl ⟨j, s', as', o, c, by omega, h1, h2, h3, h4⟩
theorem nones (hR : R ≤ 10000) : binD .mul (.lst [D.non]) (.int ((R : Int) + 1)) = .ok (.lst (BL R fun _ => none)) := by
  have e : BL R (fun _ => none) = List.replicate (R + 1) .non := by
    unfold BL
    rw [List.eq_replicate_iff]
    refine ⟨by rw [List.length_map, List.length_range'], fun d hd => ?_⟩
    obtain ⟨k, _, rfl⟩ := List.mem_map.mp hd
    rfl
  rw [e]
  simp only [binD, mulD]
  have t : ((R : Int) + 1).toNat = R + 1 := by omega
  rw [t, if_pos, List.flatten_replicate_singleton]
  rw [Bool.and_eq_true]
  refine ⟨absLe_of (by omega) (by omega), decide_eq_true ?_⟩
  exact szL_of (by simp; omega)
theorem hasL_oR (m : Option (List Int)) : hasL (oR m) = false := by
  cases m with
  | none => rfl
  | some r => exact hasL_RR r
theorem has_BL (R : Nat) (B : Nat → Option (List Int)) : hasLs (BL R B) = false := hasLs_all (f := fun t : Nat => oR (B t)) (fun t => hasL_oR (B t)) _
theorem has_dC (l : List (Int × Int)) : hasLs (l.map dC) = false := hasLs_all (f := dC) (fun x => rfl) l
theorem so_len {ys : List Im} {t : Int} {r : List Int} (h : SO ys t r) : ∃ s as, r = s :: as ∧ as.length = ys.length := by
  obtain ⟨as, ha, _, e⟩ := h
  exact ⟨_, _, e, ha.len.symm⟩
theorem dd_outer (n : Nat) (x0 x2 : D) (w0 : 1 ≤ w) (w1 : w ≤ 100) (hR : R ≤ 10000) : ∀ (rs ds : List Pr) (B : Nat → Option (List Int)) (o5 : Own) (s4 s6 s7 s8 s9 s10 s11 : S2.Slot), (∀ q ∈ rs, q.ok) → (∀ q ∈ ds, q.ok) → ds.length + rs.length ≤ 100 → (o5 = .sh ∨ o5 = .o1) → (∀ t ≤ R, Best (SO (ims w ds) t) (B t)) →
    ∃ (B' : Nat → Option (List Int)) (o5' : Own) (s4' s6' s7' s8' s9' s10' s11' : S2.Slot), (o5' = .sh ∨ o5' = .o1) ∧ forL (fun x env' => exs tab.g (cal tab.g (n + 3)) L__law_delays_due_2 (env'.set 4 (some (.sh, x)))) (rs.map Pr.d) [some (.sh, x0), some (.sh, .int w), some (.sh, x2), some (.sh, .int R), s4, some (o5, .lst (BL R B)), s6, s7, s8, s9, s10, s11, none] =
      .nx [some (.sh, x0), some (.sh, .int w), some (.sh, x2), some (.sh, .int R), s4', some (o5', .lst (BL R B')), s6', s7', s8', s9', s10', s11', none] ∧ ∀ t ≤ R, Best (SO (ims w (ds ++ rs)) t) (B' t)
  | [], ds, B, o5, s4, s6, s7, s8, s9, s10, s11, _, _, _, h5, hb => ⟨B, o5, s4, s6, s7, s8, s9, s10, s11, h5, rfl, by rw [List.append_nil]; exact hb⟩
  | q :: rs, ds, B, o5, s4, s6, s7, s8, s9, s10, s11, hq, hd, hl, h5, hb => by
    have kq := hq q List.mem_cons_self
    have hl' : ds.length + (rs.length + 1) ≤ 100 := hl
    have shp : ∀ k ≤ R, ∀ r, B k = some r → ∃ s as, r = s :: as ∧ as.length = ds.length := fun k hk r e => by
      have b := hb k hk
      rw [e] at b
      obtain ⟨s, as, e1, e2⟩ := so_len b.1
      exact ⟨s, as, e1, by rw [e2]; exact List.length_map ..⟩
    have lo := loptions_ok n q kq w
    obtain ⟨B1, o7, t8, t9, t10, t11, h7, e1, hb1⟩ := dd_mid (cal tab.g (n + 3)) x0 (.int w) x2 q.d q kq w0 w1 o5 h5 hR B ds.length (by omega) shp s8 s9 s10 s11
    have hb2 : ∀ t < R + 1, Best (SO (ims w ds ++ [q.im w]) t) (B1 t) := law_step (n := R + 1) (im_ok kq w0 w1) (fun y hy => by
      obtain ⟨z, hz, rfl⟩ := List.mem_map.mp hy
      exact im_ok (hd z hz) w0 w1) (fun k hk => hb k (by omega)) (fun t ht => hb1 t (by omega))
    have ea : ims w (ds ++ [q]) = ims w ds ++ [q.im w] := by unfold ims; rw [List.map_append]; rfl
    obtain ⟨B2, o5', u4, u6, u7, u8, u9, u10, u11, h5', e2, hb3⟩ := dd_outer n x0 x2 w0 w1 hR rs (ds ++ [q]) B1 .sh (some (.sh, q.d)) (some (.sh, .lst (BL R B1))) (some (o7, .lst ((q.opts w).map dC))) t8 t9 t10 t11 (fun z hz => hq z (List.mem_cons_of_mem _ hz)) (fun z hz => by
      rcases List.mem_append.mp hz with h | h
      · exact hd z h
      · rw [List.mem_singleton.mp h]; exact kq) (by simp; omega) (.inl rfl) (by rw [ea]; exact fun t ht => hb2 t (by omega))
    refine ⟨B2, o5', u4, u6, u7, u8, u9, u10, u11, h5', ?_, by rw [List.append_assoc] at hb3; exact hb3⟩
    rw [List.map_cons, ← e2]
    refine forL_nx ?_
    have r1 : rngD 0 ((R : Int) + 1) = .ok (upto 0 (R + 1)) := rng_nat (j := R + 1) (by omega)
    have mu := nones hR
    have f : ∀ (i : Nat) (s : S2.Slot), i = 8 ∨ i = 9 ∨ i = 10 ∨ i = 11 → frzS [(6, true)] i s = s := fun i s h => by
      rcases h with rfl | rfl | rfl | rfl <;> exact frzS_no rfl rfl
    show exs tab.g (cal tab.g (n + 3)) L__law_delays_due_2 [some (.sh, x0), some (.sh, .int w), some (.sh, x2), some (.sh, .int R), some (.sh, q.d), some (o5, .lst (BL R B)), s6, s7, s8, s9, s10, s11, none] = _
    refine sx (env' := [some (.sh, x0), some (.sh, .int w), some (.sh, x2), some (.sh, .int R), some (.sh, q.d), some (o5, .lst (BL R B)), some (.o1, .lst (BL R fun _ => none)), s7, s8, s9, s10, s11, none]) (by simp [mu, has_BL]) ?_
    refine sx (env' := [some (.sh, x0), some (.sh, .int w), some (.sh, x2), some (.sh, .int R), some (.sh, q.d), some (o5, .lst (BL R B)), some (.o1, .lst (BL R fun _ => none)), some (.o1, .lst ((q.opts w).map dC)), s8, s9, s10, s11, none]) (by simp [prf, prs, lo, has_dC]) ?_
    refine sx (env' := [some (.sh, x0), some (.sh, .int w), some (.sh, x2), some (.sh, .int R), some (.sh, q.d), some (o5, .lst (BL R B)), some (.o1, .lst (BL R B1)), some (o7, .lst ((q.opts w).map dC)), t8, t9, t10, t11, none]) ?_ ?_
    · rw [for_nm (o := (.sh, .non)) (l := upto 0 (R + 1)) (by simp [r1])]
      exact e1
    · rcases h5 with rfl | rfl <;> rcases h7 with rfl | rfl <;> simp [f]
end
end Lw

set_option maxHeartbeats 1000000
namespace Lw
open PySem S2
section
variable {w lim : Int}
theorem filter_map_some (B : Nat → Option (List Int)) : ∀ l : List Nat, (l.filter fun t => (B t).isSome).map (fun t => oR (B t)) = (l.filterMap B).map RR
  | [] => rfl
  | t :: l => by
    cases e : B t with
    | none => rw [List.filter_cons_of_neg (by simp [e]), List.filterMap_cons_none e, filter_map_some B l]
    | some r => rw [List.filter_cons_of_pos (by simp [e]), List.filterMap_cons_some e, List.map_cons, List.map_cons, filter_map_some B l, e]; rfl
theorem best_all {R : Nat} {B : Nat → Option (List Int)} {S : Nat → List Int → Prop} (h : ∀ t ≤ R, Best (S t) (B t)) : Best (fun r => ∃ t : Nat, t < R + 1 ∧ S t r) (((List.range' 0 (R + 1)).filterMap B).foldl bet none) := by
  have bm := best_min ((List.range' 0 (R + 1)).filterMap B)
  have mem : ∀ r, r ∈ (List.range' 0 (R + 1)).filterMap B ↔ ∃ t : Nat, t < R + 1 ∧ B t = some r := fun r => by
    rw [List.mem_filterMap]
    constructor
    · rintro ⟨t, ht, e⟩
      rw [List.mem_range'_1] at ht
      exact ⟨t, by omega, e⟩
    · rintro ⟨t, ht, e⟩
      exact ⟨t, by rw [List.mem_range'_1]; omega, e⟩
  have low : ∀ t r, t < R + 1 → S t r → ∃ r2, r2 ∈ (List.range' 0 (R + 1)).filterMap B ∧ lxl r r2 = false := fun t r ht hr => by
    have b := h t (by omega)
    cases e : B t with
    | none => rw [e] at b; exact absurd hr (b r)
    | some x => rw [e] at b; exact ⟨x, (mem x).2 ⟨t, ht, e⟩, b.2 r hr⟩
  cases e : ((List.range' 0 (R + 1)).filterMap B).foldl bet none with
  | none =>
    rw [e] at bm
    rintro r ⟨t, ht, hr⟩
    obtain ⟨r2, m, _⟩ := low t r ht hr
    exact bm r2 m
  | some x =>
    rw [e] at bm
    obtain ⟨t, ht, ex⟩ := (mem x).1 bm.1
    have b := h t (by omega)
    rw [ex] at b
    refine ⟨⟨t, ht, b.1⟩, ?_⟩
    rintro r ⟨t', ht', hr⟩
    obtain ⟨r2, m, l⟩ := low t' r ht' hr
    exact lx_nn l (bm.2 r2 m)
theorem lwins_lc (n : Nat) (qs : List Pr) (hq : ∀ q ∈ qs, q.ok) (hl : qs.length ≤ 8) (x2 : D) (r : S2.Env) :
    ev tab.g (cal tab.g (n + 3)) (.lc (.call N__law_window (.cons (.ix (.var 4) (.int 0)) (.cons (.ix (.var 4) (.int 1)) (.cons (.var 1) .nil)))) (.nm 4) (.it (.var 0)) .none) (some (.sh, .tup (qs.map Pr.d)) :: some (.sh, .int w) :: some (.sh, x2) :: none :: none :: r) = .ok (.o1, .lst (qs.map fun q => D.int (q.win w q.u))) := by
  refine lc_gen (o := .sh) (s := .tup (qs.map Pr.d)) qs Pr.d _ (by simp) rfl (by omega) fun q hm => ?_
  have k' : Ok q.lo q.hi q.sl q.p q.b q.o q.u := hq q hm
  have h := lwin_ok (n + 1) q (hq q hm) w q.u k'.u1 (by have := k'.u2; omega)
  have h : callD tab.g (n + 3) N__law_window [q.f, q.s, .int w] = .ok (.sh, .int (q.win w q.u)) := h
  exact ⟨some (.sh, .tup (qs.map Pr.d)) :: some (.sh, .int w) :: some (.sh, x2) :: none :: some (.sh, q.d) :: r, by simp, by simp [prf, prs, h]⟩
theorem dd_ok (n : Nat) (qs : List Pr) (hq : ∀ q ∈ qs, q.ok) (hl : qs.length ≤ 8) (w0 : 1 ≤ w) (w1 : w ≤ 100) (l0 : 0 ≤ lim) (l1 : lim ≤ 1000) :
    callD tab.g (n + 4) N__law_delays_due [.tup (qs.map Pr.d), .int w, .int lim] = .ok (.sh, ldD qs w lim) := by
  rw [c__law_delays_due, b__law_delays_due]
  obtain ⟨m0, m1⟩ := mosts_nn (w := w) hq w0
  have m1 : (qs.map fun q => q.win w q.u).sum ≤ 800 := by
    have : (qs.length : Int) * w ≤ 8 * w := Int.mul_le_mul_of_nonneg_right (by omega) (by omega)
    omega
  have room0 : 0 ≤ roomN qs w lim ∧ roomN qs w lim ≤ 1000 := by unfold roomN; split <;> omega
  obtain ⟨R, hR⟩ : ∃ R : Nat, roomN qs w lim = R := ⟨(roomN qs w lim).toNat, by omega⟩
  have R1 : R ≤ 1000 := by omega
  have s : biD .sum [.lst (qs.map fun q => D.int (q.win w q.u))] = .ok (.int (qs.map fun q => q.win w q.u).sum) := by
    have := sum_map (qs.map fun q => q.win w q.u)
    rwa [List.map_map] at this
  have e3 := lwins_lc (w := w) n qs hq hl (.int lim) [none, none, none, none, none, none, none, none]
  refine st (env' := [some (.sh, .tup (qs.map Pr.d)), some (.sh, .int w), some (.sh, .int lim), some (.sh, .int R), none, none, none, none, none, none, none, none, none]) ?_ ?_
  · rw [← hR]
    unfold roomN
    simp [-ev_lc, e3, s]
  have mu := nones (R := R) (by omega)
  refine st (env' := [some (.sh, .tup (qs.map Pr.d)), some (.sh, .int w), some (.sh, .int lim), some (.sh, .int R), none, some (.o1, .lst (BL R fun _ => none)), none, none, none, none, none, none, none]) (by simp [mu, has_BL]) ?_
  have set0 : (BL R fun _ => none).set 0 (.tup [.int 0, .tup []]) = BL R (upd (fun _ => none) 0 (some [0])) := BL_set (m := some [0])
  have ix0 : L2.ixN (R + 1) 0 = some 0 := ixN_k (m := R + 1) (k := 0) (by omega)
  have z2 := szL_of (show 2 ≤ 1000000 by decide)
  have z0 := szL_of (show 0 ≤ 1000000 by decide)
  refine st (env' := [some (.sh, .tup (qs.map Pr.d)), some (.sh, .int w), some (.sh, .int lim), some (.sh, .int R), none, some (.o1, .lst (BL R (upd (fun _ => none) 0 (some [0])))), none, none, none, none, none, none, none]) ?_ ?_
  · rw [← set0]
    simp [z2, z0, BL_len, ix0]
  have b0 : ∀ t ≤ R, Best (SO (ims w []) t) (upd (fun _ => none) 0 (some [0]) t) := fun t ht => by
    unfold upd
    by_cases e : t = 0
    · subst e
      refine ⟨⟨[], .nil, rfl, rfl⟩, ?_⟩
      rintro r ⟨as, ha, _, rfl⟩
      cases ha
      exact lx_irr _
    · rw [if_neg e]
      rintro r ⟨as, ha, hc, rfl⟩
      cases ha
      have hc : (0 : Int) = t := hc
      omega
  obtain ⟨B, o5, s4, s6, s7, s8, s9, s10, s11, h5, eo, hb⟩ := dd_outer (R := R) n (.tup (qs.map Pr.d)) (.int lim) w0 w1 (by omega) qs [] _ .o1 none none none none none none none hq (fun q h => absurd h (by simp)) (by simp; omega) (.inr rfl) b0
  rw [List.nil_append] at hb
  refine st (env' := [some (.sh, .tup (qs.map Pr.d)), some (.sh, .int w), some (.sh, .int lim), some (.sh, .int R), s4, some (o5, .lst (BL R B)), s6, s7, s8, s9, s10, s11, none]) ?_ ?_
  · rw [for_nm (o := (.sh, .tup (qs.map Pr.d))) (l := qs.map Pr.d) (by simp)]
    simpa using eo
  have shp : ∀ t ≤ R, ∀ r, B t = some r → ∃ v vs, r = v :: vs ∧ vs.length = qs.length := fun t ht r e => by
    have b := hb t ht
    rw [e] at b
    obtain ⟨v, vs, e1, e2⟩ := so_len b.1
    exact ⟨v, vs, e1, by rw [e2]; exact List.length_map ..⟩
  -- what is found
  have best := best_all hb
  have best := law_all (n := R) (fun y hy => by
    obtain ⟨z, hz, rfl⟩ := List.mem_map.mp hy
    exact im_ok (hq z hz) w0 w1) best
  have pb := prog_best (ims w qs) (fun y hy => by
    obtain ⟨z, hz, rfl⟩ := List.mem_map.mp hy
    exact im_ok (hq z hz) w0 w1) (R : Int) (by omega)
  have same := best.uniq pb
  have e12 : ev tab.g (cal tab.g (n + 3)) (.lc (.var 11) (.nm 11) (.it (.var 5)) (.some (.cmp .isnot (.var 11) .non))) [some (.sh, .tup (qs.map Pr.d)), some (.sh, .int w), some (.sh, .int lim), some (.sh, .int R), s4, some (o5, .lst (BL R B)), s6, s7, s8, s9, s10, s11, none] = .ok (.o1, .lst (((List.range' 0 (R + 1)).filterMap B).map RR)) := by
    rw [← filter_map_some]
    refine lc_filter (o := (.sh, .lst (BL R B))) (List.range' 0 (R + 1)) (fun t : Nat => oR (B t)) (fun t : Nat => oR (B t)) (fun t => (B t).isSome) ?_ (by rw [List.length_range']; omega) fun t ht => ?_
    · rcases h5 with rfl | rfl <;> (simp; rfl)
    · refine ⟨[some (.sh, .tup (qs.map Pr.d)), some (.sh, .int w), some (.sh, .int lim), some (.sh, .int R), s4, some (o5, .lst (BL R B)), s6, s7, s8, s9, s10, some (.sh, oR (B t)), none], rfl, ?_, fun _ => by simp⟩
      cases eB : B t with
      | none => simp [oR]
      | some r => cases r with
        | nil => exact absurd (shp t (by rw [List.mem_range'_1] at ht; omega) [] eB) (by rintro ⟨v, vs, e, _⟩; cases e)
        | cons v vs => simp [oR, RR]
  have hasR : ∀ l : List (List Int), hasLs (l.map RR) = false := hasLs_all (f := RR) hasL_RR
  have mem : ∀ r ∈ (List.range' 0 (R + 1)).filterMap B, ∃ v vs, r = v :: vs ∧ vs.length = qs.length := fun r hr => by
    obtain ⟨t, ht, e⟩ := List.mem_filterMap.mp hr
    rw [List.mem_range'_1] at ht
    exact shp t (by omega) r e
  generalize fl : (List.range' 0 (R + 1)).filterMap B = L at e12 same mem
  have f4 : frzS [(5, true), (12, true)] 4 s4 = s4 := frzS_no rfl rfl
  refine st (env' := [some (.sh, .tup (qs.map Pr.d)), some (.sh, .int w), some (.sh, .int lim), some (.sh, .int R), s4, some (o5, .lst (BL R B)), s6, s7, s8, s9, s10, s11, some (.o1, .lst (L.map RR))]) ?_ ?_
  · rcases h5 with rfl | rfl <;> simp [-ev_lc, e12, hasR]
  unfold ldD
  rw [hR]
  cases L with
  | nil =>
    have same : (none : Option (List Int)) = (sums (ims w qs) (R : Int)).map fun s => s :: pickL (ims w qs) R := same
    cases e : sums (ims w qs) (R : Int) with
    | none => simp
    | some v => rw [e] at same; cases same
  | cons x L =>
    rw [List.foldl_cons, show bet none x = some x from rfl, fold_bt] at same
    cases e : sums (ims w qs) (R : Int) with
    | none => rw [e] at same; cases same
    | some v =>
      rw [e] at same pb
      injection same with same
      obtain ⟨⟨as, ha, hc, ea⟩, _⟩ := pb
      injection ea with e1 e2
      have min_ : minR ((x :: L).map RR) = .ok (RR (v :: pickL (ims w qs) R)) := by
        rw [min_rows (dR := RR) x L (fun a h => ?_) (fun a h b h2 => ?_), same]
        · obtain ⟨v, vs, rfl, hl⟩ := mem a h
          exact ⟨plainB_pl (rr_pl (by omega)), rfl, rfl⟩
        · obtain ⟨v, vs, rfl, hl⟩ := mem a h
          obtain ⟨u, us, rfl, hl2⟩ := mem b h2
          exact ⟨rr_alike (hl.trans hl2.symm), rr_lt (hl.trans hl2.symm)⟩
      have min2 : biD .min [.lst ((x :: L).map RR)] = .ok (RR (v :: pickL (ims w qs) R)) := by
        rw [min_l]
        have : intsOf ((x :: L).map RR) = none := by
          obtain ⟨u, us, rfl, hl⟩ := mem x List.mem_cons_self
          rfl
        rw [this]
        exact min_
      have hlr := hasL_RR (v :: pickL (ims w qs) R)
      refine st (env' := [some (.sh, .tup (qs.map Pr.d)), some (.sh, .int w), some (.sh, .int lim), some (.sh, .int R), s4, some (o5, .lst (BL R B)), s6, s7, s8, s9, s10, s11, some (.o1, .lst ((x :: L).map RR))]) (by simp; omega) ?_
      generalize (x :: L).map RR = M at min2
      refine st (env' := [some (.sh, .tup (qs.map Pr.d)), some (.sh, .int w), some (.sh, .int lim), some (.sh, .int R), s4, some (o5, .lst (BL R B)), s6, s7, s8, s9, s10, some (.sh, RR (v :: pickL (ims w qs) R)), some (.o1, .lst M)]) (by simp [-min_l, min2, hlr, show isLst (RR (v :: pickL (ims w qs) R)) = false from rfl]) ?_
      have eu : ev tab.g (cal tab.g (n + 3)) (.lc (.ix (.ix (.var 4) (.int 1)) (.int 3)) (.nm 4) (.it (.var 0)) .none) [some (.sh, .tup (qs.map Pr.d)), some (.sh, .int w), some (.sh, .int lim), some (.sh, .int R), s4, some (o5, .lst (BL R B)), s6, s7, s8, s9, s10, some (.sh, RR (v :: pickL (ims w qs) R)), some (.o1, .lst M)] = .ok (.o1, .lst (qs.map fun q => D.int q.u)) := by
        refine lc_gen (o := .sh) (s := .tup (qs.map Pr.d)) qs Pr.d _ (by simp) rfl (by omega) fun q hm => ?_
        exact ⟨[some (.sh, .tup (qs.map Pr.d)), some (.sh, .int w), some (.sh, .int lim), some (.sh, .int R), some (.sh, q.d), some (o5, .lst (BL R B)), s6, s7, s8, s9, s10, some (.sh, RR (v :: pickL (ims w qs) R)), some (.o1, .lst M)], by simp, by simp [prf, prs, stg3]⟩
      have su : biD .sum [.lst (qs.map fun q => D.int q.u)] = .ok (.int (qs.map Pr.u).sum) := by
        have := sum_map (qs.map Pr.u)
        rwa [List.map_map] at this
      have r0 : L2.atI [D.int v, .tup ((pickL (ims w qs) R).map .int)] 0 = some (.int v) := rfl
      have r1 : L2.atI [D.int v, .tup ((pickL (ims w qs) R).map .int)] 1 = some (.tup ((pickL (ims w qs) R).map .int)) := rfl
      have vs : v = (pickL (ims w qs) R).sum := by rw [e2, e1]
      rw [← vs]
      have hv : RR (v :: pickL (ims w qs) R) = .tup [.int v, .tup ((pickL (ims w qs) R).map .int)] := rfl
      rw [hv] at eu ⊢
      simp [-ev_lc, r0, r1, eu, su, z2]
end
end Lw

set_option maxHeartbeats 2000000
namespace Lw
open PySem S2
theorem ask0_ok (m : Nat) (f s w c d : D) (h : callD tab.g m N_least_off [f, s, w, c] = .ok (.sh, d)) : callD tab.g (m + 1) N__law_ask [.int 0, f, s, w, c] = .ok (.sh, told d) := by
  rw [c__law_ask, b__law_ask]
  simp [h, szL_ne]
theorem ask0_exc (m : Nat) (f s w c e out : D) (h : callD tab.g m N_least_off [f, s, w, c] = .exc e) (he : E3 e out) : callD tab.g (m + 1) N__law_ask [.int 0, f, s, w, c] = .ok (.sh, out) := by
  rw [c__law_ask, b__law_ask]
  cases he <;> simp [h, szL_ne, noX, unx, fldD, fldL, szL_lt (show 0 ≤ 1000000 by decide), szL_lt (show 1 ≤ 1000000 by decide)]
theorem ask1_ok (m : Nat) (f s w c d : D) (h : callD tab.g m N_least_delays [f, w, c] = .ok (.sh, d)) : callD tab.g (m + 1) N__law_ask [.int 1, f, s, w, c] = .ok (.sh, told d) := by
  rw [c__law_ask, b__law_ask]
  simp [h, szL_ne]
theorem ask1_exc (m : Nat) (f s w c e out : D) (h : callD tab.g m N_least_delays [f, w, c] = .exc e) (he : E3 e out) : callD tab.g (m + 1) N__law_ask [.int 1, f, s, w, c] = .ok (.sh, out) := by
  rw [c__law_ask, b__law_ask]
  cases he <;> simp [h, szL_ne, noX, unx, fldD, fldL, szL_lt (show 0 ≤ 1000000 by decide), szL_lt (show 1 ≤ 1000000 by decide)]
/-! least_delays' refusals -/
theorem ld_exc (n : Nat) (x w c e : D) (h : callD tab.g (n + 7) N_check_pairs [x] = .exc e) : callD tab.g (n + 8) N_least_delays [x, w, c] = .exc e := by
  rw [c_least_delays, b_least_delays]
  simp [h]
theorem ld_w (n : Nat) (x w c : D) (hw : okV w = true) (hb : inB w 1 100 = false) (h : callD tab.g (n + 7) N_check_pairs [x] = .ok (.sh, .non)) : callD tab.g (n + 8) N_least_delays [x, w, c] = .exc (.ob N_OutOfRange [N_word] [.str N_width]) := by
  rw [c_least_delays, b_least_delays]
  have cn := check_number_ok (n + 4) w 1 100 N_width hw
  rw [hb, if_neg Bool.false_ne_true] at cn
  simp [h, cn]
theorem ld_l (n : Nat) (x c : D) {w : Int} (w0 : 1 ≤ w) (w1 : w ≤ 100) (hw : okV c = true) (hb : inB c 0 1000 = false) (h : callD tab.g (n + 7) N_check_pairs [x] = .ok (.sh, .non)) : callD tab.g (n + 8) N_least_delays [x, .int w, c] = .exc (.ob N_OutOfRange [N_word] [.str N_limit]) := by
  rw [c_least_delays, b_least_delays]
  have cn := check_number_ok (n + 4) (.int w) 1 100 N_width rfl
  rw [in_int w0 w1, if_pos rfl] at cn
  have cc := check_number_ok (n + 4) c 0 1000 N_limit hw
  rw [hb, if_neg Bool.false_ne_true] at cc
  simp [h, cn, cc]
theorem off_refused_ok (n : Nat) (ns : List Int) (q : Pr) (k : q.ok) {w c : Int} (w0 : 1 ≤ w) (w1 : w ≤ 100) (c0 : 0 ≤ c) (c1 : c ≤ 100) : callD tab.g (n + 11) N__law_off_refused [.scr ns, q.f, q.s, .int w, .int c] = .ok (.sh, .bl true) := by
  rw [c__law_off_refused, b__law_off_refused]
  have k' : Ok q.lo q.hi q.sl q.p q.b q.o q.u := k
  obtain ⟨a1, h1, l1, u1⟩ := pick_ok (n + 8) ns 16 19 (by decide) (by decide)
  obtain ⟨a2, h2, l2, u2⟩ := pick_ok (n + 8) ns 17 22 (by decide) (by decide)
  obtain ⟨a3, h3, l3, u3⟩ := pick_ok (n + 8) ns 18 10 (by decide) (by decide)
  obtain ⟨a4, h4, l4, u4⟩ := pick_ok (n + 8) ns 19 9 (by decide) (by decide)
  obtain ⟨a5, h5, l5, u5⟩ := pick_ok (n + 8) ns 20 2 (by decide) (by decide)
  obtain ⟨wf, hf, sf, bf⟩ := wrong_field_ok (n + 9) a1 q.lo q.hi q.sl l1 u1 k'.f
  obtain ⟨ws, hs, ss, bs⟩ := wrong_setting_ok (n + 9) a2 q.p q.b q.o q.u l2 u2 k'.s
  obtain ⟨odd, ho, o1, o2⟩ := bads a3 1 100 l3 u3 0 101 (by decide) (by decide) (by decide) (by decide)
  obtain ⟨more, hm, m1, m2⟩ := bads2 a4 0 100 l4 u4 (-1) 101 (by decide) (by decide) (by decide) (by decide)
  have p1 : binD .pow (.int 10) (.int 6) = .ok (.int 1000000) := by simp only [binD]; exact if_pos (by decide)
  have z10 := szL_of (show 10 ≤ 1000000 by decide)
  have z9 := szL_of (show 9 ≤ 1000000 by decide)
  have z2 := szL_of (show 2 ≤ 1000000 by decide)
  have z1 := szL_of (show 1 ≤ 1000000 by decide)
  have sq : sv q.s = true := rfl
  have A1 : ∀ s c, callD tab.g (n + 10) N__law_ask [.int 0, wf, s, odd, c] = .ok (.sh, .tup [.str N_field]) := fun s c => ask0_exc (n + 9) _ _ _ _ _ _ (lo_bad1 (n + 3) wf s odd c sf bf) .f
  have A2 : ∀ c, callD tab.g (n + 10) N__law_ask [.int 0, q.f, ws, odd, c] = .ok (.sh, .tup [.str N_setting]) := fun c => ask0_exc (n + 9) _ _ _ _ _ _ (lo_bad2 (n + 3) q.f ws odd c rfl k'.f ss bs) .g
  have A3 : ∀ c, callD tab.g (n + 10) N__law_ask [.int 0, q.f, q.s, odd, c] = .ok (.sh, .tup [.str N_range, .str N_width]) := fun c => ask0_exc (n + 9) _ _ _ _ _ _ (lo_bad3 (n + 3) q k odd c o1 o2) (.r _)
  have A4 : callD tab.g (n + 10) N__law_ask [.int 0, q.f, q.s, .int w, more] = .ok (.sh, .tup [.str N_range, .str N_count]) := ask0_exc (n + 9) _ _ _ _ _ _ (lo_bad4 (n + 3) q k w0 w1 more m1 m2) (.r _)
  have S1 := sm_one N_field (n + 8)
  have S2_ := sm_one N_setting (n + 8)
  have S3 := sm_two N_range _ (sm_str N_width) (n + 8)
  have S4 := sm_two N_range _ (sm_str N_count) (n + 8)
  by_cases e : a5 = 1
  · simp [h1, h2, h3, h4, h5, hf, hs, ho, hm, p1, z10, z9, z2, z1, listOwn, e, A1, A2, A3, A4, S1, S2_, S3, S4]
  · simp [h1, h2, h3, h4, h5, hf, hs, ho, hm, p1, z10, z9, z2, z1, listOwn, e, A1, A2, A3, A4, S1, S2_, S3, S4]
end Lw

set_option maxHeartbeats 2000000
namespace Lw
open PySem S2
def Pr.off (q : Pr) (a : Int) : Pr := { q with u := a }
theorem Pr.off_ok {q : Pr} (k : q.ok) {a : Int} (h0 : 0 ≤ a) (h1 : a ≤ 100) : (q.off a).ok := by
  have k' : Ok q.lo q.hi q.sl q.p q.b q.o q.u := k
  exact ⟨k'.f1, k'.f2, k'.f3, k'.f4, k'.f5, k'.p1, k'.p2, k'.b1, k'.b2, k'.o1, k'.o2, h0, h1⟩
theorem win_a (n : Nat) (q : Pr) (k : q.ok) {w a : Int} (w0 : 1 ≤ w) (w1 : w ≤ 100) (h0 : 0 ≤ a) (h1 : a ≤ 100) : callD tab.g (n + 6) N_window_most [q.f, stg q.p q.b q.o a, .int w] = .ok (.sh, .int (q.win w a)) := window_q n (q.off a) (Pr.off_ok k h0 h1) w0 w1
theorem sm_offD (q : Pr) (w c : Int) : Sm 1 (q.offD w c) := by
  unfold Pr.offD
  split
  · exact sm_int _
  · split
    · exact sm_non
    · split <;> exact sm_int _
/-- what a told off delay does -/
theorem offD_cases {q : Pr} (k : q.ok) {w c : Int} (w0 : 1 ≤ w) (w1 : w ≤ 100) (c0 : 0 ≤ c) : q.offD w c = .non ∨ ∃ a, q.offD w c = .int a ∧ q.u ≤ a ∧ a ≤ 100 ∧ q.win w a ≤ c ∧ (q.u < a → c < q.win w (a - 1)) := by
  have k' : Ok q.lo q.hi q.sl q.p q.b q.o q.u := k
  have u0 := k'.u1
  have u1 := k'.u2
  unfold Pr.offD
  by_cases s : q.kind = N_silent
  · rw [if_pos s]
    exact .inr ⟨q.u, rfl, Int.le_refl _, u1, by rw [win_silent s]; exact c0, fun h => absurd h (by omega)⟩
  · rw [if_neg s]
    by_cases z : c = 0
    · rw [if_pos z]; exact .inl rfl
    · rw [if_neg z]
      by_cases e : q.kind = N_lively
      · rw [if_pos e]
        obtain ⟨p1, p2, p3⟩ := offc_u (q := q) (w := w) (c := c)
        have nl := need_le k e (w := w) (c := c) w0 (by omega)
        refine .inr ⟨_, rfl, p1, p3 100 u1 (by omega), (win_le k e w0 (by omega) (by omega)).2 p2, fun h => ?_⟩
        rcases Int.lt_or_le c (q.win w (q.offc w c - 1)) with hlt | hge
        · exact hlt
        · exfalso
          have h2 := (win_le k e w0 (by omega) (by omega)).1 hge
          have := p3 (q.offc w c - 1) (by omega) h2
          omega
      · rw [if_neg e]
        exact .inr ⟨q.u, rfl, Int.le_refl _, u1, by rw [win_other s e]; omega, fun h => absurd h (by omega)⟩
theorem off_holds_ok (n : Nat) (ns : List Int) : callD tab.g (n + 12) N__law_off_holds [.scr ns] = .ok (.sh, .bl true) := by
  rw [c__law_off_holds, b__law_off_holds]
  obtain ⟨c10, h10⟩ := cell_ok (n + 10) ns 10 (by decide)
  obtain ⟨a11, h11, l11, u11⟩ := pick_ok (n + 9) ns 11 6 (by decide) (by decide)
  obtain ⟨sp, hsp, _⟩ := atI_lits [2, 3, 1, 2, 0, 3] a11 l11 u11 (fun _ => True) (fun _ _ => trivial)
  have hsp : L2.atI [D.int 2, .int 3, .int 1, .int 2, .int 0, .int 3] a11 = some (.int sp) := hsp
  obtain ⟨lo, hi, sl, p, b, o, u, hcase, k'⟩ := case_ok (n + 9) c10 sp
  obtain ⟨a13, h13, l13, u13⟩ := pick_ok (n + 9) ns 13 3 (by decide) (by decide)
  obtain ⟨mw, hmw, mw0⟩ := atI_lits [100, 12, 30] a13 l13 u13 (fun v => 0 < v ∧ v ≤ 100) (by decide)
  have hmw : L2.atI [D.int 100, .int 12, .int 30] a13 = some (.int mw) := hmw
  obtain ⟨a12, h12, l12, u12⟩ := pick_ok (n + 9) ns 12 mw (by decide) mw0.1
  generalize hq : (⟨lo, hi, sl, p, b, o, u⟩ : Pr) = q
  have e1 : fld lo hi sl = q.f := by rw [← hq]
  have e2 : stg p b o u = q.s := by rw [← hq]
  have k : q.ok := by rw [← hq]; exact k'
  rw [e1, e2] at hcase
  have k' : Ok q.lo q.hi q.sl q.p q.b q.o q.u := k
  generalize hw : 1 + a12 = w
  have w0 : 1 ≤ w := by omega
  have w1 : w ≤ 100 := by omega
  have lw := lwin_ok (n + 9) q k w q.u k'.u1 (by have := k'.u2; omega)
  have lw : callD tab.g (n + 11) N__law_window [q.f, q.s, .int w] = .ok (.sh, .int (q.win w q.u)) := lw
  have wn := win_nn k w0 k'.u1
  have ww := win_w k w0 k'.u1
  obtain ⟨a14, h14, l14, u14⟩ := pick_ok (n + 9) ns 14 9 (by decide) (by decide)
  obtain ⟨a15, h15, l15, u15⟩ := pick_ok (n + 9) ns 15 7 (by decide) (by decide)
  obtain ⟨c, hc, c0⟩ := atI_lits [0, 1, q.win w q.u, (if q.win w q.u - 1 > 0 then q.win w q.u - 1 else 0), 100, a14, 2] a15 l15 u15 (fun v => 0 ≤ v ∧ v ≤ 100) (by
    simp
    refine ⟨by omega, ?_, by omega⟩
    split <;> omega)
  have hc : L2.atI [D.int 0, .int 1, .int (q.win w q.u), .int (if q.win w q.u - 1 > 0 then q.win w q.u - 1 else 0), .int 100, .int a14, .int 2] a15 = some (.int c) := hc
  have z7 := szL_of (show 7 ≤ 1000000 by decide)
  have z6 := szL_of (show 6 ≤ 1000000 by decide)
  have z3 := szL_of (show 3 ≤ 1000000 by decide)
  have z2 := szL_of (show 2 ≤ 1000000 by decide)
  have lf := loff_ok (n + 7) q k (c := c) w0 w1 c0.1
  have as := ask0_ok (n + 10) q.f q.s (.int w) (.int c) _ (least_off_ok (n + 4) q k w0 w1 c0.1 c0.2)
  have sm := sm_two N_told _ (sm_offD q w c) (n + 9)
  have rf := off_refused_ok n ns q k w0 w1 c0.1 c0.2
  have i0 : L2.atI [q.f, q.s] 0 = some q.f := rfl
  have i1 : L2.atI [q.f, q.s] 1 = some q.s := rfl
  refine st (env' := [some (.sh, .scr ns), some (.sh, .tup [q.f, q.s]), none, none, none, none, none, none]) (by simp [h10, h11, hsp, hcase, z6, listOwn]) ?_
  refine st (env' := [some (.sh, .scr ns), some (.sh, .tup [q.f, q.s]), some (.sh, q.f), none, none, none, none, none]) (by simp [i0]) ?_
  refine st (env' := [some (.sh, .scr ns), some (.sh, .tup [q.f, q.s]), some (.sh, q.f), some (.sh, q.s), none, none, none, none]) (by simp [i1]) ?_
  refine st (env' := [some (.sh, .scr ns), some (.sh, .tup [q.f, q.s]), some (.sh, q.f), some (.sh, q.s), some (.sh, .int w), none, none, none]) (by simp [h13, hmw, h12, z3, listOwn, hw]) ?_
  refine st (env' := [some (.sh, .scr ns), some (.sh, .tup [q.f, q.s]), some (.sh, q.f), some (.sh, q.s), some (.sh, .int w), some (.sh, .int (q.win w q.u)), none, none]) (by simp [lw]) ?_
  refine st (env' := [some (.sh, .scr ns), some (.sh, .tup [q.f, q.s]), some (.sh, q.f), some (.sh, q.s), some (.sh, .int w), some (.sh, .int (q.win w q.u)), some (.sh, .int c), none]) (by simp [h14, h15, z7, listOwn] ; simp [hc] at *; simp [hc]) ?_
  have hl : hasL (q.offD w c) = false := by rcases offD_cases (c := c) k w0 w1 c0.1 with e | ⟨a, e, _⟩ <;> rw [e] <;> rfl
  refine st (env' := [some (.sh, .scr ns), some (.sh, .tup [q.f, q.s]), some (.sh, q.f), some (.sh, q.s), some (.sh, .int w), some (.sh, .int (q.win w q.u)), some (.sh, .int c), some (.sh, q.offD w c)]) (by simp [lf, hl]) ?_
  refine st (env' := [some (.sh, .scr ns), some (.sh, .tup [q.f, q.s]), some (.sh, q.f), some (.sh, q.s), some (.sh, .int w), some (.sh, .int (q.win w q.u)), some (.sh, .int c), some (.sh, q.offD w c)]) (by simp [as, sm, z2]) ?_
  rcases offD_cases (c := c) k w0 w1 c0.1 with e | ⟨a, e, a0, a1, a2, a3⟩
  · rw [e]
    simp [rf]
  · rw [e]
    have u0 := k'.u1
    have wo := lwith_ok (n + 10) q.p q.b q.o q.u a
    have wo2 := lwith_ok (n + 10) q.p q.b q.o q.u (a - 1)
    have w1' := win_a (n + 5) q k w0 w1 (a := a) (by omega) a1
    have gt : ¬ (c < q.win w a) := by omega
    by_cases hu : q.u < a
    · have w2 := win_a (n + 5) q k w0 w1 (a := a - 1) (by omega) (by omega)
      have le : ¬ (q.win w (a - 1) ≤ c) := by have := a3 hu; omega
      simp [wo, w1', gt, hu, wo2, w2, le, rf, stg3]
    · simp [wo, w1', gt, hu, rf, stg3]
theorem delays_refused_ok (n : Nat) (ns : List Int) (qs : List Pr) (hq : ∀ q ∈ qs, q.ok) (hl : qs.length ≤ 8) {w lim : Int} (w0 : 1 ≤ w) (w1 : w ≤ 100) : callD tab.g (n + 11) N__law_delays_refused [.scr ns, .tup (qs.map Pr.d), .int w, .int lim] = .ok (.sh, .bl true) := by
  rw [c__law_delays_refused, b__law_delays_refused]
  obtain ⟨a1, h1, l1, u1⟩ := pick_ok (n + 8) ns 26 10 (by decide) (by decide)
  obtain ⟨a2, h2, l2, u2⟩ := pick_ok (n + 8) ns 27 9 (by decide) (by decide)
  obtain ⟨a3, h3, l3, u3⟩ := pick_ok (n + 8) ns 28 2 (by decide) (by decide)
  obtain ⟨x, due, hx, wp⟩ := wrong_pairs_ok (n + 7) ns qs hq hl
  obtain ⟨odd, ho, o1, o2⟩ := bads a1 1 100 l1 u1 0 101 (by decide) (by decide) (by decide) (by decide)
  obtain ⟨more, hm, m1, m2⟩ := bads2 a2 0 1000 l2 u2 (-1) 1001 (by decide) (by decide) (by decide) (by decide)
  have p1 : binD .pow (.int 10) (.int 6) = .ok (.int 1000000) := by simp only [binD]; exact if_pos (by decide)
  have z10 := szL_of (show 10 ≤ 1000000 by decide)
  have z9 := szL_of (show 9 ≤ 1000000 by decide)
  have z2 := szL_of (show 2 ≤ 1000000 by decide)
  have cp := check_pairs_ok (n + 4) qs hq hl
  have cp : callD tab.g (n + 8) N_check_pairs [.tup (qs.map Pr.d)] = .ok (.sh, .non) := cp
  obtain ⟨ex, x1, x2, x3, x4⟩ := wp
  have A1 : ∀ b c, callD tab.g (n + 10) N__law_ask [.int 1, x, .non, b, c] = .ok (.sh, due) := fun b c => ask1_exc (n + 9) _ _ _ _ _ _ (ld_exc (n + 1) x b c ex (x1 (n + 4))) x2
  have A2 : ∀ c, callD tab.g (n + 10) N__law_ask [.int 1, .tup (qs.map Pr.d), .non, odd, c] = .ok (.sh, .tup [.str N_range, .str N_width]) := fun c => ask1_exc (n + 9) _ _ _ _ _ _ (ld_w (n + 1) _ odd c o1 o2 cp) (.r _)
  have A3 : callD tab.g (n + 10) N__law_ask [.int 1, .tup (qs.map Pr.d), .non, .int w, more] = .ok (.sh, .tup [.str N_range, .str N_limit]) := ask1_exc (n + 9) _ _ _ _ _ _ (ld_l (n + 1) _ more w0 w1 m1 m2 cp) (.r _)
  have S1 := x3 (n + 8)
  have S3 := sm_two N_range _ (sm_str N_width) (n + 8)
  have S4 := sm_two N_range _ (sm_str N_limit) (n + 8)
  have j0 : L2.atI [x, due] 0 = some x := rfl
  have j1 : L2.atI [x, due] 1 = some due := rfl
  have k0 : ∀ a b : D, L2.atI [a, b] 0 = some a := fun _ _ => rfl
  have k1 : ∀ a b : D, L2.atI [a, b] 1 = some b := fun _ _ => rfl
  by_cases e : a3 = 1
  · simp [h1, h2, h3, hx, ho, hm, p1, z10, z9, z2, listOwn, e, k0, k1, A1, A2, A3, S1, S3, S4]
  · simp [h1, h2, h3, hx, ho, hm, p1, z10, z9, z2, listOwn, e, k0, k1, A1, A2, A3, S1, S3, S4]
end Lw

set_option maxHeartbeats 2000000
namespace Lw
open PySem S2
section
variable {w lim : Int}
def tz (qs : List Pr) (as : List Int) : List Pr := List.zipWith Pr.off qs as
theorem ims_cons (q : Pr) (qs : List Pr) : ims w (q :: qs) = q.im w :: ims w qs := rfl
theorem tz_ok : ∀ {qs : List Pr} {as : List Int}, (∀ q ∈ qs, q.ok) → AllO InI (ims w qs) as → (∀ q ∈ tz qs as, q.ok) ∧ (tz qs as).length = qs.length ∧ ((tz qs as).map fun q => q.win w q.u).sum = cost (ims w qs) as
  | [], _, _, .nil => ⟨fun q h => absurd h (by simp [tz]), rfl, rfl⟩
  | q :: qs, _, hq, .cons (a := a) (as := as) h t => by
    obtain ⟨i1, i2, i3⟩ := tz_ok (fun x hx => hq x (List.mem_cons_of_mem _ hx)) t
    have k := hq q List.mem_cons_self
    have k' : Ok q.lo q.hi q.sl q.p q.b q.o q.u := k
    have u0 := k'.u1
    have h1 : q.u ≤ a := h.1
    refine ⟨fun x hx => ?_, ?_, ?_⟩
    · rcases List.mem_cons.mp hx with rfl | hx
      · exact Pr.off_ok k (by omega) h.2
      · exact i1 x hx
    · show (tz qs as).length + 1 = _
      rw [i2]; rfl
    · show (q.win w a :: (tz qs as).map fun q => q.win w q.u).sum = cost (q.im w :: ims w qs) (a :: as)
      rw [cost_cons, List.sum_cons, i3]
      rfl
theorem loud_le : ∀ {qs : List Pr} {as : List Int}, (∀ q ∈ qs, q.ok) → 1 ≤ w → AllO InI (ims w qs) as → ((qs.filter fun q => decide (0 < q.win w q.u)).length : Int) ≤ cost (ims w qs) as
  | [], _, _, _, .nil => Int.le_refl _
  | q :: qs, _, hq, w0, .cons (a := a) (as := as) h t => by
    have ih := loud_le (fun x hx => hq x (List.mem_cons_of_mem _ hx)) w0 t
    have k := hq q List.mem_cons_self
    have k' : Ok q.lo q.hi q.sl q.p q.b q.o q.u := k
    have u0 := k'.u1
    have h1 : q.u ≤ a := h.1
    rw [ims_cons, cost_cons]
    have nn : 0 ≤ q.win w a := win_nn k w0 (by omega)
    have e : (q.im w).f a = q.win w a := rfl
    rw [e]
    by_cases z : 0 < q.win w q.u
    · rw [List.filter_cons_of_pos (by simpa using z), List.length_cons]
      have ns : q.kind ≠ N_silent := fun s => by rw [win_silent s] at z; omega
      have := win_pos k ns w0 (show 0 ≤ a by omega)
      omega
    · rw [List.filter_cons_of_neg (by simpa using z)]
      omega
/-- least_delays tells a row -/
theorem ld_cases {qs : List Pr} (hq : ∀ q ∈ qs, q.ok) (w0 : 1 ≤ w) (w1 : w ≤ 100) (l0 : 0 ≤ lim) :
    (ldD qs w lim = .non ∧ True) ∨ ∃ (v : Int) (as : List Int), ldD qs w lim = .tup [.int v, .tup (as.map .int)] ∧ AllO InI (ims w qs) as ∧ cost (ims w qs) as ≤ lim := by
  obtain ⟨m0, _⟩ := mosts_nn (w := w) hq w0
  have r0 : 0 ≤ roomN qs w lim ∧ roomN qs w lim ≤ lim := by unfold roomN; split <;> omega
  have pb := prog_best (ims w qs) (fun y hy => by
    obtain ⟨z, hz, rfl⟩ := List.mem_map.mp hy
    exact im_ok (hq z hz) w0 w1) (roomN qs w lim) r0.1
  unfold ldD
  cases e : sums (ims w qs) (roomN qs w lim) with
  | none => exact .inl ⟨rfl, trivial⟩
  | some v =>
    rw [e] at pb
    obtain ⟨as, ha, hc, ea⟩ := pb.1
    injection ea with e1 e2
    refine .inr ⟨_, _, rfl, ?_, ?_⟩
    · rw [e2]; exact ha
    · rw [e2]; omega
theorem ld_none {qs : List Pr} (hq : ∀ q ∈ qs, q.ok) (w0 : 1 ≤ w) (w1 : w ≤ 100) (l0 : 0 ≤ lim) (h : lim < ((qs.filter fun q => decide (0 < q.win w q.u)).length : Int)) : ldD qs w lim = .non := by
  rcases ld_cases hq w0 w1 l0 with h | ⟨v, as, _, ha, hc⟩
  · exact h.1
  · have := loud_le hq w0 ha
    omega
theorem sm_ld {qs : List Pr} (hq : ∀ q ∈ qs, q.ok) (hl : qs.length ≤ 8) (w0 : 1 ≤ w) (w1 : w ≤ 100) (l0 : 0 ≤ lim) : Sm 3 (ldD qs w lim) := by
  rcases ld_cases hq w0 w1 l0 with h | ⟨v, as, e, ha, hc⟩
  · rw [h.1]; exact sm_non.up.up
  · rw [e]
    have len := ha.len
    have len : qs.length = as.length := by rw [← len]; exact (List.length_map ..).symm
    refine sm_tup _ 2 (by simp) fun x hx => ?_
    simp at hx
    rcases hx with rfl | rfl
    · exact (sm_int _).up
    · exact sm_ints as (by omega)
theorem tz_get {qs : List Pr} {as : List Int} {k : Nat} (h1 : k < qs.length) (h2 : k < as.length) : (tz qs as)[k]? = some (qs[k].off as[k]) := by
  unfold tz
  rw [List.getElem?_zipWith, List.getElem?_eq_getElem h1, List.getElem?_eq_getElem h2]
theorem tuned_ok (n : Nat) (qs : List Pr) (as : List Int) (h : qs.length = as.length) (hl : qs.length ≤ 8) : callD tab.g (n + 2) N__law_tuned [.tup (qs.map Pr.d), .tup (as.map .int)] = .ok (.sh, .tup ((tz qs as).map Pr.d)) := by
  rw [c__law_tuned, b__law_tuned]
  have lc := lc_map (g := tab.g) (C := cal tab.g (n + 1)) (elt := .tup (.cons (.ix (.ix (.var 0) (.var 2)) (.int 0)) (.cons (.call N__law_with_off (.cons (.ix (.ix (.var 0) (.var 2)) (.int 1)) (.cons (.ix (.var 1) (.var 2)) .nil))) .nil))) (a := .bi .len (.cons (.var 0) .nil)) (i := 2) (n := qs.length) (env := [some (.sh, .tup (qs.map Pr.d)), some (.sh, .tup (as.map .int)), none]) (o := .sh)
    (y := fun k => ((tz qs as)[k]?.getD E0).d) (by simp) (by omega) fun k hk => by
      have a0 : L2.atI (qs.map Pr.d) (k : Int) = some qs[k].d := by rw [atI_nat (by rw [List.length_map]; exact hk), List.getElem_map]
      have a1 : L2.atI (as.map D.int) (k : Int) = some (.int as[k]) := by rw [atI_nat (by rw [List.length_map]; omega), List.getElem_map]
      have wo := lwith_ok n qs[k].p qs[k].b qs[k].o qs[k].u as[k]
      have z2 := szL_of (show 2 ≤ 1000000 by decide)
      rw [tz_get hk (by omega)]
      simp [a0, a1, prf, prs, wo, z2]
      exact ⟨⟨rfl, rfl, rfl⟩, rfl, rfl, rfl, rfl⟩
  have e : (List.range' 0 qs.length).map (fun k => ((tz qs as)[k]?.getD E0).d) = (tz qs as).map Pr.d := by
    apply List.ext_getElem
    · rw [List.length_map, List.length_range', List.length_map]; unfold tz; rw [List.length_zipWith]; omega
    · intro i h1 h2
      rw [List.length_map] at h2
      rw [List.getElem_map, List.getElem_map, List.getElem_range']
      simp [List.getElem?_eq_getElem h2]
  rw [e] at lc
  simp [-ev_lc, lc]
theorem frm_le {q : Pr} (k : q.ok) {t : Int} (t0 : 0 ≤ t) (w0 : 1 ≤ w) : q.frm w t ≤ q.win w q.u := by
  have k' : Ok q.lo q.hi q.sl q.p q.b q.o q.u := k
  have nn := win_nn k w0 k'.u1
  have mx := mxI_o t q.o
  by_cases s : q.kind = N_silent
  · have s' : kindS q.lo q.hi q.sl q.p q.b = N_silent := s
    unfold Pr.frm fromI
    rw [if_pos (.inl s')]
    exact nn
  · unfold Pr.frm fromI
    have s' : ¬ kindS q.lo q.hi q.sl q.p q.b = N_silent := s
    split
    · exact nn
    · by_cases e : q.kind = N_lively
      · have e' : kindS q.lo q.hi q.sl q.p q.b = N_lively := e
        rw [if_neg (by rw [e']; decide), if_neg (by rw [e']; decide), win_lively e]
        have sp := lively_sl k' e'
        have := (gapI_pos sp k').1
        have d : (t + w - 1 - mxI t q.o) / gapI q.sl q.b q.o q.u ≤ (w - 1) / gapI q.sl q.b q.o q.u := Int.ediv_le_ediv (by omega) (by omega)
        have g : gapI q.sl q.b q.o q.u = 2 * fallI q.sl q.b + q.o + q.u := rfl
        rw [g] at d ⊢
        omega
      · rw [win_other s e]
        split
        · split <;> omega
        · split
          · omega
          · rename_i h1 h2
            exfalso
            rcases kind_cases q.lo q.hi q.sl q.p q.b with h | h | h | h
            · exact s h
            · exact h1 h
            · exact h2 h
            · exact e h
theorem tot_le : ∀ {qs : List Pr}, (∀ q ∈ qs, q.ok) → ∀ {t : Int}, 0 ≤ t → 1 ≤ w → totI qs w t ≤ (qs.map fun q => q.win w q.u).sum
  | [], _, _, _, _ => Int.le_refl _
  | q :: qs, h, t, t0, w0 => by
    have h1 := frm_le (h q List.mem_cons_self) t0 w0
    have h2 := tot_le (fun x hx => h x (List.mem_cons_of_mem _ hx)) t0 w0
    unfold totI at h2 ⊢
    rw [List.map_cons, List.sum_cons, List.map_cons, List.sum_cons]
    omega
end
end Lw

set_option maxHeartbeats 4000000
namespace Lw
open PySem S2
def nthS : Nat → Ss → S
  | _, .nil => .pass
  | 0, .cons s _ => s
  | k + 1, .cons _ ss => nthS k ss
theorem law_ok (n : Nat) (ns : List Int) : callD tab.g (n + 14) N_law [.scr ns] = .ok (.sh, .bl true) := by
  rw [c_law, b_law]
  obtain ⟨p0, hp0, p00, p01⟩ := pick_ok (n + 11) ns 0 16 (by decide) (by decide)
  obtain ⟨mn, hmn, mn0⟩ := atI_lits [1, 2, 3, 2, 4, 0, 1, 3, 5, 2, 8, 6, 3, 1, 2, 7] p0 p00 p01 (fun v => 0 ≤ v ∧ v ≤ 8) (by decide)
  have hmn : L2.atI [D.int 1, .int 2, .int 3, .int 2, .int 4, .int 0, .int 1, .int 3, .int 5, .int 2, .int 8, .int 6, .int 3, .int 1, .int 2, .int 7] p0 = some (.int mn) := hmn
  obtain ⟨p1, hp1, p10, p11⟩ := pick_ok (n + 11) ns 1 30 (by decide) (by decide)
  obtain ⟨p3, hp3, p30, p31⟩ := pick_ok (n + 11) ns 30 12 (by decide) (by decide)
  obtain ⟨p4, hp4, p40, p41⟩ := pick_ok (n + 11) ns 1 100 (by decide) (by decide)
  have z16 := szL_of (show 16 ≤ 1000000 by decide)
  have z8 := szL_of (show 8 ≤ 1000000 by decide)
  have z3 := szL_of (show 3 ≤ 1000000 by decide)
  have z2 := szL_of (show 2 ≤ 1000000 by decide)
  refine st (env' := [some (.sh, .scr ns), some (.sh, .int mn), none, none, none, none, none, none, none, none, none, none, none, none, none, none]) (by simp [hp0, hmn, z16, listOwn]) ?_
  refine st (env' := [some (.sh, .scr ns), some (.sh, .int mn), some (.sh, .int (1 + p1)), none, none, none, none, none, none, none, none, none, none, none, none, none]) (by simp [hp1]) ?_
  refine st (env' := [some (.sh, .scr ns), some (.sh, .int mn), some (.sh, .int (1 + p1)), some (.sh, .int p3), none, none, none, none, none, none, none, none, none, none, none, none]) (by simp [hp3]) ?_
  obtain ⟨w, many, w0, w1, m8, hw⟩ : ∃ (w : Int) (many : Nat), 1 ≤ w ∧ w ≤ 100 ∧ many ≤ 8 ∧ exS tab.g (cal tab.g (n + 13)) (nthS 3 b_law) [some (.sh, .scr ns), some (.sh, .int mn), some (.sh, .int (1 + p1)), some (.sh, .int p3), none, none, none, none, none, none, none, none, none, none, none, none] = .nx [some (.sh, .scr ns), some (.sh, .int many), some (.sh, .int w), some (.sh, .int p3), none, none, none, none, none, none, none, none, none, none, none, none] := by
    by_cases h3 : p3 < 3
    · obtain ⟨w, hw, w0, w1⟩ := atI_lits [1, 100, 1 + p4] p3 p30 (by simpa using h3) (fun v => 1 ≤ v ∧ v ≤ 100) (by simp; omega)
      have hw : L2.atI [D.int 1, .int 100, .int (1 + p4)] p3 = some (.int w) := hw
      by_cases h2 : 2 < mn
      · exact ⟨w, 2, w0, w1, by decide, by simp [nthS, b_law, h3, hp4, hw, z3, listOwn, h2]⟩
      · refine ⟨w, mn.toNat, w0, w1, by omega, ?_⟩
        rw [show ((mn.toNat : Nat) : Int) = mn by omega]
        simp [nthS, b_law, h3, hp4, hw, z3, listOwn, h2]
    · refine ⟨1 + p1, mn.toNat, by omega, by omega, by omega, ?_⟩
      rw [show ((mn.toNat : Nat) : Int) = mn by omega]
      simp [nthS, b_law, h3]
  refine st hw ?_
  refine st (env' := [some (.sh, .scr ns), some (.sh, .int many), some (.sh, .int w), some (.sh, .int p3), some (.o1, .lst []), none, none, none, none, none, none, none, none, none, none, none]) (by simp) ?_
  have r0 := rng_nat (show many ≤ 1000000 by omega)
  have loop : ∃ (qs : List Pr) (s5 s6 : S2.Slot), (∀ q ∈ qs, q.ok) ∧ qs.length = many ∧ forL (fun x env' => exs tab.g (cal tab.g (n + 13)) L_law_0 (env'.set 5 (some (.sh, x)))) (upto 0 many) [some (.sh, .scr ns), some (.sh, .int many), some (.sh, .int w), some (.sh, .int p3), some (.o1, .lst []), none, none, none, none, none, none, none, none, none, none, none] =
      .nx [some (.sh, .scr ns), some (.sh, .int many), some (.sh, .int w), some (.sh, .int p3), some (.o1, .lst (qs.map Pr.d)), s5, s6, none, none, none, none, none, none, none, none, none] := by
    refine forL_up (Post := fun out => ∃ (qs : List Pr) (s5 s6 : S2.Slot), (∀ q ∈ qs, q.ok) ∧ qs.length = many ∧ out = .nx [some (.sh, .scr ns), some (.sh, .int many), some (.sh, .int w), some (.sh, .int p3), some (.o1, .lst (qs.map Pr.d)), s5, s6, none, none, none, none, none, none, none, none, none])
      (fun k env => ∃ (qs : List Pr) (s5 s6 : S2.Slot), (∀ q ∈ qs, q.ok) ∧ qs.length = k ∧ env = [some (.sh, .scr ns), some (.sh, .int many), some (.sh, .int w), some (.sh, .int p3), some (.o1, .lst (qs.map Pr.d)), s5, s6, none, none, none, none, none, none, none, none, none])
      ⟨[], none, none, fun q h => absurd h List.not_mem_nil, rfl, rfl⟩ (fun k env hk ⟨qs, s5, s6, hq, ql, e⟩ => ?_) (fun env ⟨qs, s5, s6, hq, ql, e⟩ => ⟨qs, s5, s6, hq, ql, by rw [e]⟩)
    subst e
    obtain ⟨p5, hp5, p50, p51⟩ := pick_ok (n + 11) ns (32 + k) 8 (by omega) (by decide)
    obtain ⟨sp, hsp, _⟩ := atI_lits [2, 3, 2, 1, 2, 3, 2, 0] p5 p50 p51 (fun _ => True) (fun _ _ => trivial)
    have hsp : L2.atI [D.int 2, .int 3, .int 2, .int 1, .int 2, .int 3, .int 2, .int 0] p5 = some (.int sp) := hsp
    obtain ⟨c, hc⟩ := cell_ok (n + 12) ns (2 + k) (by omega)
    obtain ⟨lo, hi, sl, p, b, o, u, hcase, k0⟩ := case_ok (n + 11) c sp
    have zz := szL_lt (show qs.length ≤ 1000000 by omega)
    refine .inl ⟨_, .inl (by simp [L_law_0, hp5, hsp, hc, hcase, z8, listOwn, zz]; rfl), qs ++ [⟨lo, hi, sl, p, b, o, u⟩], some (.sh, .int k), some (.sh, .int sp), fun q hm => ?_, by simp [ql], ?_⟩
    · rcases List.mem_append.mp hm with hm | hm
      · exact hq q hm
      · rw [List.mem_singleton.mp hm]; exact k0
    · simp
  obtain ⟨qs, s5, s6, hq, ql, e5⟩ := loop
  have hl : qs.length ≤ 8 := by omega
  refine st (env' := [some (.sh, .scr ns), some (.sh, .int many), some (.sh, .int w), some (.sh, .int p3), some (.o1, .lst (qs.map Pr.d)), s5, s6, none, none, none, none, none, none, none, none, none]) ?_ ?_
  · rw [for_nm (o := (.sh, .non)) (l := upto 0 many) (by simp [r0])]
    simpa using e5
  refine st (env' := [some (.sh, .scr ns), some (.sh, .int many), some (.sh, .int w), some (.sh, .int p3), some (.sh, .tup (qs.map Pr.d)), s5, s6, none, none, none, none, none, none, none, none, none]) (by simp) ?_
  have e7 : ev tab.g (cal tab.g (n + 13)) (.lc (.call N__law_window (.cons (.ix (.var 8) (.int 0)) (.cons (.ix (.var 8) (.int 1)) (.cons (.var 2) .nil)))) (.nm 8) (.it (.var 4)) .none) [some (.sh, .scr ns), some (.sh, .int many), some (.sh, .int w), some (.sh, .int p3), some (.sh, .tup (qs.map Pr.d)), s5, s6, none, none, none, none, none, none, none, none, none] = .ok (.o1, .lst (qs.map fun q => D.int (q.win w q.u))) := by
    refine lc_gen (o := .sh) (s := .tup (qs.map Pr.d)) qs Pr.d _ (by simp) rfl (by omega) fun q hm => ?_
    have k' : Ok q.lo q.hi q.sl q.p q.b q.o q.u := hq q hm
    have h := lwin_ok (n + 11) q (hq q hm) w q.u k'.u1 (by have := k'.u2; omega)
    have h : callD tab.g (n + 13) N__law_window [q.f, q.s, .int w] = .ok (.sh, .int (q.win w q.u)) := h
    exact ⟨[some (.sh, .scr ns), some (.sh, .int many), some (.sh, .int w), some (.sh, .int p3), some (.sh, .tup (qs.map Pr.d)), s5, s6, none, some (.sh, q.d), none, none, none, none, none, none, none], by simp, by simp [prf, prs, h]⟩
  have hI : hasLs (qs.map fun q => D.int (q.win w q.u)) = false := hasLs_all (f := fun q : Pr => D.int (q.win w q.u)) (fun _ => rfl) qs
  refine st (env' := [some (.sh, .scr ns), some (.sh, .int many), some (.sh, .int w), some (.sh, .int p3), some (.sh, .tup (qs.map Pr.d)), s5, s6, some (.o1, .lst (qs.map fun q => D.int (q.win w q.u))), none, none, none, none, none, none, none, none]) (by simp [-ev_lc, e7, hI]) ?_
  have e9 : ev tab.g (cal tab.g (n + 13)) (.lc (.var 10) (.nm 10) (.it (.var 7)) (.some (.cmp .gt (.var 10) (.int 0)))) [some (.sh, .scr ns), some (.sh, .int many), some (.sh, .int w), some (.sh, .int p3), some (.sh, .tup (qs.map Pr.d)), s5, s6, some (.o1, .lst (qs.map fun q => D.int (q.win w q.u))), none, none, none, none, none, none, none, none] = .ok (.o1, .lst ((qs.filter fun q => decide (0 < q.win w q.u)).map fun q => D.int (q.win w q.u))) := by
    refine lc_filter (o := (.sh, .lst (qs.map fun q => D.int (q.win w q.u)))) qs (fun q => D.int (q.win w q.u)) (fun q => D.int (q.win w q.u)) (fun q => decide (0 < q.win w q.u)) (by simp) (by omega) fun q hm => ?_
    exact ⟨[some (.sh, .scr ns), some (.sh, .int many), some (.sh, .int w), some (.sh, .int p3), some (.sh, .tup (qs.map Pr.d)), s5, s6, some (.o1, .lst (qs.map fun q => D.int (q.win w q.u))), none, none, some (.sh, .int (q.win w q.u)), none, none, none, none, none], by simp, by simp, fun _ => by simp⟩
  obtain ⟨loud, hloud⟩ : ∃ k : Nat, (qs.filter fun q => decide (0 < q.win w q.u)).length = k := ⟨_, rfl⟩
  have loud8 : loud ≤ 8 := by rw [← hloud]; exact Nat.le_trans (List.length_filter_le _ _) hl
  refine st (env' := [some (.sh, .scr ns), some (.sh, .int many), some (.sh, .int w), some (.sh, .int p3), some (.sh, .tup (qs.map Pr.d)), s5, s6, some (.o1, .lst (qs.map fun q => D.int (q.win w q.u))), none, some (.sh, .int loud), none, none, none, none, none, none]) (by simp [-ev_lc, e9, hloud, szL_of (show loud ≤ 1000000 by omega)]) ?_
  obtain ⟨m0, m1⟩ := mosts_nn (w := w) hq w0
  have m1 : (qs.map fun q => q.win w q.u).sum ≤ 800 := by
    have : (qs.length : Int) * w ≤ 8 * w := Int.mul_le_mul_of_nonneg_right (by omega) (by omega)
    omega
  have s7 : biD .sum [.lst (qs.map fun q => D.int (q.win w q.u))] = .ok (.int (qs.map fun q => q.win w q.u).sum) := by
    have := sum_map (qs.map fun q => q.win w q.u)
    rwa [List.map_map] at this
  generalize hsum : (qs.map fun q => q.win w q.u).sum = sm at m0 m1 s7
  generalize hms : (qs.map fun q => D.int (q.win w q.u)) = ms at s7
  obtain ⟨al, hal, al0, al1⟩ := pick_ok (n + 11) ns 31 (sm + 2) (by decide) (by omega)
  refine st (env' := [some (.sh, .scr ns), some (.sh, .int many), some (.sh, .int w), some (.sh, .int p3), some (.sh, .tup (qs.map Pr.d)), s5, s6, some (.o1, .lst ms), none, some (.sh, .int loud), none, some (.sh, .int al), none, none, none, none]) (by simp [s7, hal]) ?_
  obtain ⟨p9, hp9, p90, p91⟩ := pick_ok (n + 11) ns 21 8 (by decide) (by decide)
  obtain ⟨lim, hlim, l0, l1⟩ := atI_lits [al, al, 0, 1000, loud, (if 1 < (loud : Int) then (loud : Int) - 1 else 0), sm, al] p9 p90 p91 (fun v => 0 ≤ v ∧ v ≤ 1000) (by
    simp
    refine ⟨by omega, by omega, ?_, by omega⟩
    split <;> omega)
  have hlim : L2.atI [D.int al, .int al, .int 0, .int 1000, .int loud, .int (if 1 < (loud : Int) then (loud : Int) - 1 else 0), .int sm, .int al] p9 = some (.int lim) := hlim
  refine st (env' := [some (.sh, .scr ns), some (.sh, .int many), some (.sh, .int w), some (.sh, .int p3), some (.sh, .tup (qs.map Pr.d)), s5, s6, some (.o1, .lst ms), none, some (.sh, .int loud), none, some (.sh, .int al), some (.sh, .int lim), none, none, none]) ?_ ?_
  · simp [s7, hp9, z8, listOwn, hlim]
  have lc := ld_cases hq w0 w1 l0
  have hLd : hasL (ldD qs w lim) = false := by
    rcases lc with h | ⟨v, as, e, _⟩
    · rw [h.1]; rfl
    · rw [e]; exact hasL_RR (v :: as)
  have dd := dd_ok (lim := lim) (n + 9) qs hq hl w0 w1 l0 l1
  have as1 := ask1_ok (n + 12) (.tup (qs.map Pr.d)) .non (.int w) (.int lim) _ (least_delays_ok (n + 3) qs hq hl w0 w1 lim l0 l1)
  have sm1 : Sm 4 (told (ldD qs w lim)) := sm_tup _ 3 (by simp) fun x hx => by
    simp at hx
    rcases hx with rfl | rfl
    · exact (sm_str _).up.up
    · exact sm_ld hq hl w0 w1 l0
  have sm1 := sm1 (n + 9)
  refine st (env' := [some (.sh, .scr ns), some (.sh, .int many), some (.sh, .int w), some (.sh, .int p3), some (.sh, .tup (qs.map Pr.d)), s5, s6, some (.o1, .lst ms), none, some (.sh, .int loud), none, some (.sh, .int al), some (.sh, .int lim), some (.sh, .non), none, none]) (by simp) ?_
  refine st (env' := [some (.sh, .scr ns), some (.sh, .int many), some (.sh, .int w), some (.sh, .int p3), some (.sh, .tup (qs.map Pr.d)), s5, s6, some (.o1, .lst ms), none, some (.sh, .int loud), none, some (.sh, .int al), some (.sh, .int lim), some (.sh, ldD qs w lim), none, none]) ?_ ?_
  · by_cases le : loud ≤ lim
    · simp [le, dd, hLd]
    · rw [ld_none hq w0 w1 l0 (by rw [hloud]; omega)]
      simp [le]
  refine st (env' := [some (.sh, .scr ns), some (.sh, .int many), some (.sh, .int w), some (.sh, .int p3), some (.sh, .tup (qs.map Pr.d)), s5, s6, some (.o1, .lst ms), none, some (.sh, .int loud), none, some (.sh, .int al), some (.sh, .int lim), some (.sh, ldD qs w lim), some (.sh, told (ldD qs w lim)), none]) (by simp [as1, hLd]) ?_
  refine st (env' := [some (.sh, .scr ns), some (.sh, .int many), some (.sh, .int w), some (.sh, .int p3), some (.sh, .tup (qs.map Pr.d)), s5, s6, some (.o1, .lst ms), none, some (.sh, .int loud), none, some (.sh, .int al), some (.sh, .int lim), some (.sh, ldD qs w lim), some (.sh, told (ldD qs w lim)), none]) (by simp [sm1, z2]) ?_
  obtain ⟨s15, e15⟩ : ∃ s15, exS tab.g (cal tab.g (n + 13)) (nthS 15 b_law) [some (.sh, .scr ns), some (.sh, .int many), some (.sh, .int w), some (.sh, .int p3), some (.sh, .tup (qs.map Pr.d)), s5, s6, some (.o1, .lst ms), none, some (.sh, .int loud), none, some (.sh, .int al), some (.sh, .int lim), some (.sh, ldD qs w lim), some (.sh, told (ldD qs w lim)), none] = .nx [some (.sh, .scr ns), some (.sh, .int many), some (.sh, .int w), some (.sh, .int p3), some (.sh, .tup (qs.map Pr.d)), s5, s6, some (.o1, .lst ms), none, some (.sh, .int loud), none, some (.sh, .int al), some (.sh, .int lim), some (.sh, ldD qs w lim), some (.sh, told (ldD qs w lim)), s15] := by
    rcases lc with h | ⟨v, as, e, ha, hc⟩
    · rw [h.1]
      exact ⟨none, by simp [nthS, b_law]⟩
    · rw [e]
      have len : qs.length = as.length := by rw [← ha.len]; exact (List.length_map ..).symm
      obtain ⟨t1, t2, t3⟩ := tz_ok hq ha
      have a1 : L2.atI [D.int v, .tup (as.map .int)] 1 = some (.tup (as.map .int)) := rfl
      have tu := tuned_ok (n + 11) qs as len hl
      obtain ⟨b1, b2, b3, b4⟩ := best_ok t1 w0
      have mt := most_total_ok (n + 5) (tz qs as) t1 (by omega) w w0 w1 ((bestI (tz qs as) w).2 + w).toNat (by omega)
      have tl := tot_le t1 b2 w0
      generalize zS _ = Z at mt
      generalize hbest : (bestI (tz qs as) w).1 = best at mt b1
      generalize (bestI (tz qs as) w).2 = bt2 at mt b1 b2 tl
      have le1 : ¬ lim < best := by omega
      have le2 : ¬ lim < cost (ims w qs) as := by omega
      have e8 : ∀ s15, ev tab.g (cal tab.g (n + 13)) (.lc (.call N_window_most (.cons (.ix (.var 8) (.int 0)) (.cons (.ix (.var 8) (.int 1)) (.cons (.var 2) .nil)))) (.nm 8) (.it (.var 15)) .none) [some (.sh, .scr ns), some (.sh, .int many), some (.sh, .int w), some (.sh, .int p3), some (.sh, .tup (qs.map Pr.d)), s5, s6, some (.o1, .lst ms), none, some (.sh, .int loud), none, some (.sh, .int al), some (.sh, .int lim), some (.sh, .tup [.int v, .tup (as.map .int)]), s15, some (.sh, .tup ((tz qs as).map Pr.d))] = .ok (.o1, .lst ((tz qs as).map fun q => D.int (q.win w q.u))) := fun s15 => by
        refine lc_gen (o := .sh) (s := .tup ((tz qs as).map Pr.d)) (tz qs as) Pr.d _ (by simp) rfl (by omega) fun q hm => ?_
        have h := window_q (n + 7) q (t1 q hm) w0 w1
        exact ⟨[some (.sh, .scr ns), some (.sh, .int many), some (.sh, .int w), some (.sh, .int p3), some (.sh, .tup (qs.map Pr.d)), s5, s6, some (.o1, .lst ms), some (.sh, q.d), some (.sh, .int loud), none, some (.sh, .int al), some (.sh, .int lim), some (.sh, .tup [.int v, .tup (as.map .int)]), s15, some (.sh, .tup ((tz qs as).map Pr.d))], by simp, by simp [prf, prs, h]⟩
      have s8 : biD .sum [.lst ((tz qs as).map fun q => D.int (q.win w q.u))] = .ok (.int (cost (ims w qs) as)) := by
        have := sum_map ((tz qs as).map fun q => q.win w q.u)
        rwa [List.map_map, t3] at this
      have hasd : hasLs ((tz qs as).map Pr.d) = false := hasLs_all (f := Pr.d) (fun _ => rfl) _
      have i0 : L2.atI [D.int best, .int bt2, Z] 0 = some (.int best) := rfl
      exact ⟨some (.sh, .tup ((tz qs as).map Pr.d)), by simp [-ev_lc, nthS, b_law, a1, tu, hasd, e8, s8, le2, mt, i0, le1]⟩
  refine st e15 ?_
  have oh := off_holds_ok (n + 1) ns
  have dr := delays_refused_ok (n + 2) ns qs hq hl (lim := lim) w0 w1
  refine st (env' := [some (.sh, .scr ns), some (.sh, .int many), some (.sh, .int w), some (.sh, .int p3), some (.sh, .tup (qs.map Pr.d)), s5, s6, some (.o1, .lst ms), none, some (.sh, .int loud), none, some (.sh, .int al), some (.sh, .int lim), some (.sh, ldD qs w lim), some (.sh, told (ldD qs w lim)), s15]) (by simp [oh]) ?_
  refine st (env' := [some (.sh, .scr ns), some (.sh, .int many), some (.sh, .int w), some (.sh, .int p3), some (.sh, .tup (qs.map Pr.d)), s5, s6, some (.o1, .lst ms), none, some (.sh, .int loud), none, some (.sh, .int al), some (.sh, .int lim), some (.sh, ldD qs w lim), some (.sh, told (ldD qs w lim)), s15]) (by simp [dr]) ?_
  simp [as1, sm1, z2]
def top_k : Nat := 60
theorem law_true : ∀ ns : List Int, ns.length ≤ 63 → ∃ o, callD tab.g (top_k + 1) (Str.ofString "law") [.scr ns] = .ok (o, .bl true) := fun ns _ => ⟨_, law_ok 47 ns⟩
end Lw

namespace Lw
open PySem PySem.Spec PyProof.Rows L2 S2
abbrev P : Program := PySem.Challenge.pw_alarmworks_k37_whole_tuned_settings
def top (i : Nat) : Stmt := PySem.Challenge.pw_alarmworks_k37_whole_tuned_settings.main.body.getD i (.Pass ⟨0, 0, 0, 0⟩)
def e0 : He.DefD := ⟨(N_is_integer, none), "is_integer", "is_integer", defArgs (top 8), defBody (top 8), defScope (top 8), [], []⟩
def e1 : He.DefD := ⟨(N_is_number, none), "is_number", "is_number", defArgs (top 9), defBody (top 9), defScope (top 9), [], []⟩
def e2 : He.DefD := ⟨(N_check_number, none), "check_number", "check_number", defArgs (top 10), defBody (top 10), defScope (top 10), [], []⟩
def e3 : He.DefD := ⟨(N_is_field, none), "is_field", "is_field", defArgs (top 15), defBody (top 15), defScope (top 15), [], []⟩
def e4 : He.DefD := ⟨(N_is_setting, none), "is_setting", "is_setting", defArgs (top 16), defBody (top 16), defScope (top 16), [], []⟩
def e5 : He.DefD := ⟨(N_check_field, none), "check_field", "check_field", defArgs (top 17), defBody (top 17), defScope (top 17), [], []⟩
def e6 : He.DefD := ⟨(N_check_setting, none), "check_setting", "check_setting", defArgs (top 18), defBody (top 18), defScope (top 18), [], []⟩
def e7 : He.DefD := ⟨(N_check_pairs, none), "check_pairs", "check_pairs", defArgs (top 19), defBody (top 19), defScope (top 19), [], []⟩
def e8 : He.DefD := ⟨(N_kind_of, none), "kind_of", "kind_of", defArgs (top 22), defBody (top 22), defScope (top 22), [], []⟩
def e9 : He.DefD := ⟨(N_fall_ticks, none), "fall_ticks", "fall_ticks", defArgs (top 23), defBody (top 23), defScope (top 23), [], []⟩
def e10 : He.DefD := ⟨(N_gap_of, none), "gap_of", "gap_of", defArgs (top 24), defBody (top 24), defScope (top 24), [], []⟩
def e11 : He.DefD := ⟨(N_window_most, none), "window_most", "window_most", defArgs (top 25), defBody (top 25), defScope (top 25), [], []⟩
def e12 : He.DefD := ⟨(N_wave_value, none), "wave_value", "wave_value", defArgs (top 26), defBody (top 26), defScope (top 26), [], []⟩
def e13 : He.DefD := ⟨(N_value_at, none), "value_at", "value_at", defArgs (top 27), defBody (top 27), defScope (top 27), [], []⟩
def e14 : He.DefD := ⟨(N_signal_from, none), "signal_from", "signal_from", defArgs (top 28), defBody (top 28), defScope (top 28), [], []⟩
def e15 : He.DefD := ⟨(N_off_for, none), "off_for", "off_for", defArgs (top 32), defBody (top 32), defScope (top 32), [], []⟩
def e16 : He.DefD := ⟨(N_least_off, none), "least_off", "least_off", defArgs (top 33), defBody (top 33), defScope (top 33), [], []⟩
def e17 : He.DefD := ⟨(N_choices_of, none), "choices_of", "choices_of", defArgs (top 34), defBody (top 34), defScope (top 34), [], []⟩
def e18 : He.DefD := ⟨(N_best_choice, none), "best_choice", "best_choice", defArgs (top 35), defBody (top 35), defScope (top 35), [], []⟩
def e19 : He.DefD := ⟨(N_sum_rows, none), "sum_rows", "sum_rows", defArgs (top 36), defBody (top 36), defScope (top 36), [], []⟩
def e20 : He.DefD := ⟨(N_least_delays, none), "least_delays", "least_delays", defArgs (top 37), defBody (top 37), defScope (top 37), [], []⟩
def e21 : He.DefD := ⟨(N_most_from, none), "most_from", "most_from", defArgs (top 39), defBody (top 39), defScope (top 39), [], []⟩
def e22 : He.DefD := ⟨(N_total_from, none), "total_from", "total_from", defArgs (top 40), defBody (top 40), defScope (top 40), [], []⟩
def e23 : He.DefD := ⟨(N_crowded_signal, none), "crowded_signal", "crowded_signal", defArgs (top 41), defBody (top 41), defScope (top 41), [], []⟩
def e24 : He.DefD := ⟨(N_most_total, none), "most_total", "most_total", defArgs (top 42), defBody (top 42), defScope (top 42), [], []⟩
def e25 : He.DefD := ⟨(N__law_cell, none), "_law_cell", "_law_cell", defArgs (top 44), defBody (top 44), defScope (top 44), [], []⟩
def e26 : He.DefD := ⟨(N__law_pick, none), "_law_pick", "_law_pick", defArgs (top 45), defBody (top 45), defScope (top 45), [], []⟩
def e27 : He.DefD := ⟨(N__law_row, none), "_law_row", "_law_row", defArgs (top 46), defBody (top 46), defScope (top 46), [], []⟩
def e28 : He.DefD := ⟨(N__law_is_integer, none), "_law_is_integer", "_law_is_integer", defArgs (top 47), defBody (top 47), defScope (top 47), [], []⟩
def e29 : He.DefD := ⟨(N__law_same, none), "_law_same", "_law_same", defArgs (top 48), defBody (top 48), defScope (top 48), [], []⟩
def e30 : He.DefD := ⟨(N__law_case, none), "_law_case", "_law_case", defArgs (top 49), defBody (top 49), defScope (top 49), [], []⟩
def e31 : He.DefD := ⟨(N__law_kind, none), "_law_kind", "_law_kind", defArgs (top 50), defBody (top 50), defScope (top 50), [], []⟩
def e32 : He.DefD := ⟨(N__law_gap, none), "_law_gap", "_law_gap", defArgs (top 51), defBody (top 51), defScope (top 51), [], []⟩
def e33 : He.DefD := ⟨(N__law_window, none), "_law_window", "_law_window", defArgs (top 52), defBody (top 52), defScope (top 52), [], []⟩
def e34 : He.DefD := ⟨(N__law_with_off, none), "_law_with_off", "_law_with_off", defArgs (top 53), defBody (top 53), defScope (top 53), [], []⟩
def e35 : He.DefD := ⟨(N__law_options, none), "_law_options", "_law_options", defArgs (top 54), defBody (top 54), defScope (top 54), [], []⟩
def e36 : He.DefD := ⟨(N__law_off_due, none), "_law_off_due", "_law_off_due", defArgs (top 55), defBody (top 55), defScope (top 55), [], []⟩
def e37 : He.DefD := ⟨(N__law_delays_due, none), "_law_delays_due", "_law_delays_due", defArgs (top 56), defBody (top 56), defScope (top 56), [], []⟩
def e38 : He.DefD := ⟨(N__law_ask, none), "_law_ask", "_law_ask", defArgs (top 57), defBody (top 57), defScope (top 57), [], []⟩
def e39 : He.DefD := ⟨(N__law_wrong_field, none), "_law_wrong_field", "_law_wrong_field", defArgs (top 58), defBody (top 58), defScope (top 58), [], []⟩
def e40 : He.DefD := ⟨(N__law_wrong_setting, none), "_law_wrong_setting", "_law_wrong_setting", defArgs (top 59), defBody (top 59), defScope (top 59), [], []⟩
def e41 : He.DefD := ⟨(N__law_off_refused, none), "_law_off_refused", "_law_off_refused", defArgs (top 60), defBody (top 60), defScope (top 60), [], []⟩
def e42 : He.DefD := ⟨(N__law_off_holds, none), "_law_off_holds", "_law_off_holds", defArgs (top 61), defBody (top 61), defScope (top 61), [], []⟩
def e43 : He.DefD := ⟨(N__law_spoilt_pair, none), "_law_spoilt_pair", "_law_spoilt_pair", defArgs (top 62), defBody (top 62), defScope (top 62), [], []⟩
def e44 : He.DefD := ⟨(N__law_wrong_pairs, none), "_law_wrong_pairs", "_law_wrong_pairs", defArgs (top 63), defBody (top 63), defScope (top 63), [], []⟩
def e45 : He.DefD := ⟨(N__law_delays_refused, none), "_law_delays_refused", "_law_delays_refused", defArgs (top 64), defBody (top 64), defScope (top 64), [], []⟩
def e46 : He.DefD := ⟨(N__law_tuned, none), "_law_tuned", "_law_tuned", defArgs (top 65), defBody (top 65), defScope (top 65), [], []⟩
def e47 : He.DefD := ⟨(N_law, none), "law", "law", defArgs (top 66), defBody (top 66), defScope (top 66), [], []⟩
def fn : List He.DefD := [e0, e1, e2, e3, e4, e5, e6, e7, e8, e9, e10, e11, e12, e13, e14, e15, e16, e17, e18, e19, e20, e21, e22, e23, e24, e25, e26, e27, e28, e29, e30, e31, e32, e33, e34, e35, e36, e37, e38, e39, e40, e41, e42, e43, e44, e45, e46, e47]
def u0 : SupD := ⟨N_TooMany, N_bound, "__init__", "TooMany.__init__", defArgs (inClass (top 4) 0), defBody (inClass (top 4) 0), defScope (inClass (top 4) 0)⟩
theorem su0 : SupTx P u0 := ⟨by decide +kernel, fun _ _ _ _ _ _ _ _ => rfl, by decide +kernel⟩
def u1 : SupD := ⟨N_OutOfRange, N_word, "__init__", "OutOfRange.__init__", defArgs (inClass (top 5) 0), defBody (inClass (top 5) 0), defScope (inClass (top 5) 0)⟩
theorem su1 : SupTx P u1 := ⟨by decide +kernel, fun _ _ _ _ _ _ _ _ => rfl, by decide +kernel⟩
def u2 : SupD := ⟨N_InvalidPair, N_position, "__init__", "InvalidPair.__init__", defArgs (inClass (top 6) 0), defBody (inClass (top 6) 0), defScope (inClass (top 6) 0)⟩
theorem su2 : SupTx P u2 := ⟨by decide +kernel, fun _ _ _ _ _ _ _ _ => rfl, by decide +kernel⟩
def sups : List SupD := [u0, u1, u2]
theorem t0 : DTx tab fn (N_is_integer, none) N_is_integer := ⟨0, e0, n0, [N_value], d0, rfl, rfl, rfl, ⟨rfl, rfl, rfl, by decide +kernel, rfl, by decide +kernel, by decide +kernel⟩, by kernel_rfl, rfl, rfl, by decide +kernel, fun _ _ _ _ _ _ us hl => match us, hl with | [_], _ => rfl⟩
theorem t1 : DTx tab fn (N_is_number, none) N_is_number := ⟨1, e1, n1, [N_value, N_least, N_most], d1, rfl, rfl, rfl, ⟨rfl, rfl, rfl, by decide +kernel, rfl, by decide +kernel, by decide +kernel⟩, by kernel_rfl, rfl, rfl, by decide +kernel, fun _ _ _ _ _ _ us hl => match us, hl with | [_, _, _], _ => rfl⟩
theorem t2 : DTx tab fn (N_check_number, none) N_check_number := ⟨2, e2, n2, [N_value, N_least, N_most, N_word], d2, rfl, rfl, rfl, ⟨rfl, rfl, rfl, by decide +kernel, rfl, by decide +kernel, by decide +kernel⟩, by kernel_rfl, rfl, rfl, by decide +kernel, fun _ _ _ _ _ _ us hl => match us, hl with | [_, _, _, _], _ => rfl⟩
theorem t3 : DTx tab fn (N_is_field, none) N_is_field := ⟨3, e3, n3, [N_value], d3, rfl, rfl, rfl, ⟨rfl, rfl, rfl, by decide +kernel, rfl, by decide +kernel, by decide +kernel⟩, by kernel_rfl, rfl, rfl, by decide +kernel, fun _ _ _ _ _ _ us hl => match us, hl with | [_], _ => rfl⟩
theorem t4 : DTx tab fn (N_is_setting, none) N_is_setting := ⟨4, e4, n4, [N_value], d4, rfl, rfl, rfl, ⟨rfl, rfl, rfl, by decide +kernel, rfl, by decide +kernel, by decide +kernel⟩, by kernel_rfl, rfl, rfl, by decide +kernel, fun _ _ _ _ _ _ us hl => match us, hl with | [_], _ => rfl⟩
theorem t5 : DTx tab fn (N_check_field, none) N_check_field := ⟨5, e5, n5, [N_field], d5, rfl, rfl, rfl, ⟨rfl, rfl, rfl, by decide +kernel, rfl, by decide +kernel, by decide +kernel⟩, by kernel_rfl, rfl, rfl, by decide +kernel, fun _ _ _ _ _ _ us hl => match us, hl with | [_], _ => rfl⟩
theorem t6 : DTx tab fn (N_check_setting, none) N_check_setting := ⟨6, e6, n6, [N_setting], d6, rfl, rfl, rfl, ⟨rfl, rfl, rfl, by decide +kernel, rfl, by decide +kernel, by decide +kernel⟩, by kernel_rfl, rfl, rfl, by decide +kernel, fun _ _ _ _ _ _ us hl => match us, hl with | [_], _ => rfl⟩
theorem t7 : DTx tab fn (N_check_pairs, none) N_check_pairs := ⟨7, e7, n7, [N_pairs], d7, rfl, rfl, rfl, ⟨rfl, rfl, rfl, by decide +kernel, rfl, by decide +kernel, by decide +kernel⟩, by kernel_rfl, rfl, rfl, by decide +kernel, fun _ _ _ _ _ _ us hl => match us, hl with | [_], _ => rfl⟩
theorem t8 : DTx tab fn (N_kind_of, none) N_kind_of := ⟨8, e8, n8, [N_field, N_setting], d8, rfl, rfl, rfl, ⟨rfl, rfl, rfl, by decide +kernel, rfl, by decide +kernel, by decide +kernel⟩, by kernel_rfl, rfl, rfl, by decide +kernel, fun _ _ _ _ _ _ us hl => match us, hl with | [_, _], _ => rfl⟩
theorem t9 : DTx tab fn (N_fall_ticks, none) N_fall_ticks := ⟨9, e9, n9, [N_field, N_setting], d9, rfl, rfl, rfl, ⟨rfl, rfl, rfl, by decide +kernel, rfl, by decide +kernel, by decide +kernel⟩, by kernel_rfl, rfl, rfl, by decide +kernel, fun _ _ _ _ _ _ us hl => match us, hl with | [_, _], _ => rfl⟩
theorem t10 : DTx tab fn (N_gap_of, none) N_gap_of := ⟨10, e10, n10, [N_field, N_setting], d10, rfl, rfl, rfl, ⟨rfl, rfl, rfl, by decide +kernel, rfl, by decide +kernel, by decide +kernel⟩, by kernel_rfl, rfl, rfl, by decide +kernel, fun _ _ _ _ _ _ us hl => match us, hl with | [_, _], _ => rfl⟩
theorem t11 : DTx tab fn (N_window_most, none) N_window_most := ⟨11, e11, n11, [N_field, N_setting, N_width], d11, rfl, rfl, rfl, ⟨rfl, rfl, rfl, by decide +kernel, rfl, by decide +kernel, by decide +kernel⟩, by kernel_rfl, rfl, rfl, by decide +kernel, fun _ _ _ _ _ _ us hl => match us, hl with | [_, _, _], _ => rfl⟩
theorem t12 : DTx tab fn (N_wave_value, none) N_wave_value := ⟨12, e12, n12, [N_field, N_setting, N_phase], d12, rfl, rfl, rfl, ⟨rfl, rfl, rfl, by decide +kernel, rfl, by decide +kernel, by decide +kernel⟩, by kernel_rfl, rfl, rfl, by decide +kernel, fun _ _ _ _ _ _ us hl => match us, hl with | [_, _, _], _ => rfl⟩
theorem t13 : DTx tab fn (N_value_at, none) N_value_at := ⟨13, e13, n13, [N_field, N_setting, N_kind, N_ring, N_tick], d13, rfl, rfl, rfl, ⟨rfl, rfl, rfl, by decide +kernel, rfl, by decide +kernel, by decide +kernel⟩, by kernel_rfl, rfl, rfl, by decide +kernel, fun _ _ _ _ _ _ us hl => match us, hl with | [_, _, _, _, _], _ => rfl⟩
theorem t14 : DTx tab fn (N_signal_from, none) N_signal_from := ⟨14, e14, n14, [N_field, N_setting, N_ring, N_length], d14, rfl, rfl, rfl, ⟨rfl, rfl, rfl, by decide +kernel, rfl, by decide +kernel, by decide +kernel⟩, by kernel_rfl, rfl, rfl, by decide +kernel, fun _ _ _ _ _ _ us hl => match us, hl with | [_, _, _, _], _ => rfl⟩
theorem t15 : DTx tab fn (N_off_for, none) N_off_for := ⟨15, e15, n15, [N_field, N_setting, N_width, N_count], d15, rfl, rfl, rfl, ⟨rfl, rfl, rfl, by decide +kernel, rfl, by decide +kernel, by decide +kernel⟩, by kernel_rfl, rfl, rfl, by decide +kernel, fun _ _ _ _ _ _ us hl => match us, hl with | [_, _, _, _], _ => rfl⟩
theorem t16 : DTx tab fn (N_least_off, none) N_least_off := ⟨16, e16, n16, [N_field, N_setting, N_width, N_count], d16, rfl, rfl, rfl, ⟨rfl, rfl, rfl, by decide +kernel, rfl, by decide +kernel, by decide +kernel⟩, by kernel_rfl, rfl, rfl, by decide +kernel, fun _ _ _ _ _ _ us hl => match us, hl with | [_, _, _, _], _ => rfl⟩
theorem t17 : DTx tab fn (N_choices_of, none) N_choices_of := ⟨17, e17, n17, [N_field, N_setting, N_width], d17, rfl, rfl, rfl, ⟨rfl, rfl, rfl, by decide +kernel, rfl, by decide +kernel, by decide +kernel⟩, by kernel_rfl, rfl, rfl, by decide +kernel, fun _ _ _ _ _ _ us hl => match us, hl with | [_, _, _], _ => rfl⟩
theorem t18 : DTx tab fn (N_best_choice, none) N_best_choice := ⟨18, e18, n18, [N_choices, N_later, N_room], d18, rfl, rfl, rfl, ⟨rfl, rfl, rfl, by decide +kernel, rfl, by decide +kernel, by decide +kernel⟩, by kernel_rfl, rfl, rfl, by decide +kernel, fun _ _ _ _ _ _ us hl => match us, hl with | [_, _, _], _ => rfl⟩
theorem t19 : DTx tab fn (N_sum_rows, none) N_sum_rows := ⟨19, e19, n19, [N_choices, N_limit], d19, rfl, rfl, rfl, ⟨rfl, rfl, rfl, by decide +kernel, rfl, by decide +kernel, by decide +kernel⟩, by kernel_rfl, rfl, rfl, by decide +kernel, fun _ _ _ _ _ _ us hl => match us, hl with | [_, _], _ => rfl⟩
theorem t20 : DTx tab fn (N_least_delays, none) N_least_delays := ⟨20, e20, n20, [N_pairs, N_width, N_limit], d20, rfl, rfl, rfl, ⟨rfl, rfl, rfl, by decide +kernel, rfl, by decide +kernel, by decide +kernel⟩, by kernel_rfl, rfl, rfl, by decide +kernel, fun _ _ _ _ _ _ us hl => match us, hl with | [_, _, _], _ => rfl⟩
theorem t21 : DTx tab fn (N_most_from, none) N_most_from := ⟨21, e21, n21, [N_field, N_setting, N_width, N_begin], d21, rfl, rfl, rfl, ⟨rfl, rfl, rfl, by decide +kernel, rfl, by decide +kernel, by decide +kernel⟩, by kernel_rfl, rfl, rfl, by decide +kernel, fun _ _ _ _ _ _ us hl => match us, hl with | [_, _, _, _], _ => rfl⟩
theorem t22 : DTx tab fn (N_total_from, none) N_total_from := ⟨22, e22, n22, [N_pairs, N_width, N_begin], d22, rfl, rfl, rfl, ⟨rfl, rfl, rfl, by decide +kernel, rfl, by decide +kernel, by decide +kernel⟩, by kernel_rfl, rfl, rfl, by decide +kernel, fun _ _ _ _ _ _ us hl => match us, hl with | [_, _, _], _ => rfl⟩
theorem t23 : DTx tab fn (N_crowded_signal, none) N_crowded_signal := ⟨23, e23, n23, [N_field, N_setting, N_width, N_begin], d23, rfl, rfl, rfl, ⟨rfl, rfl, rfl, by decide +kernel, rfl, by decide +kernel, by decide +kernel⟩, by kernel_rfl, rfl, rfl, by decide +kernel, fun _ _ _ _ _ _ us hl => match us, hl with | [_, _, _, _], _ => rfl⟩
theorem t24 : DTx tab fn (N_most_total, none) N_most_total := ⟨24, e24, n24, [N_pairs, N_width], d24, rfl, rfl, rfl, ⟨rfl, rfl, rfl, by decide +kernel, rfl, by decide +kernel, by decide +kernel⟩, by kernel_rfl, rfl, rfl, by decide +kernel, fun _ _ _ _ _ _ us hl => match us, hl with | [_, _], _ => rfl⟩
theorem t25 : DTx tab fn (N__law_cell, none) N__law_cell := ⟨25, e25, n25, [N_script, N_k], d25, rfl, rfl, rfl, ⟨rfl, rfl, rfl, by decide +kernel, rfl, by decide +kernel, by decide +kernel⟩, by kernel_rfl, rfl, rfl, by decide +kernel, fun _ _ _ _ _ _ us hl => match us, hl with | [_, _], _ => rfl⟩
theorem t26 : DTx tab fn (N__law_pick, none) N__law_pick := ⟨26, e26, n26, [N_script, N_k, N_many], d26, rfl, rfl, rfl, ⟨rfl, rfl, rfl, by decide +kernel, rfl, by decide +kernel, by decide +kernel⟩, by kernel_rfl, rfl, rfl, by decide +kernel, fun _ _ _ _ _ _ us hl => match us, hl with | [_, _, _], _ => rfl⟩
theorem t27 : DTx tab fn (N__law_row, none) N__law_row := ⟨27, e27, n27, [N_cell, N_many, N_base], d27, rfl, rfl, rfl, ⟨rfl, rfl, rfl, by decide +kernel, rfl, by decide +kernel, by decide +kernel⟩, by kernel_rfl, rfl, rfl, by decide +kernel, fun _ _ _ _ _ _ us hl => match us, hl with | [_, _, _], _ => rfl⟩
theorem t28 : DTx tab fn (N__law_is_integer, none) N__law_is_integer := ⟨28, e28, n28, [N_value], d28, rfl, rfl, rfl, ⟨rfl, rfl, rfl, by decide +kernel, rfl, by decide +kernel, by decide +kernel⟩, by kernel_rfl, rfl, rfl, by decide +kernel, fun _ _ _ _ _ _ us hl => match us, hl with | [_], _ => rfl⟩
theorem t29 : DTx tab fn (N__law_same, none) N__law_same := ⟨29, e29, n29, [N_actual, N_due], d29, rfl, rfl, rfl, ⟨rfl, rfl, rfl, by decide +kernel, rfl, by decide +kernel, by decide +kernel⟩, by kernel_rfl, rfl, rfl, by decide +kernel, fun _ _ _ _ _ _ us hl => match us, hl with | [_, _], _ => rfl⟩
theorem t30 : DTx tab fn (N__law_case, none) N__law_case := ⟨30, e30, n30, [N_cell, N_shape], d30, rfl, rfl, rfl, ⟨rfl, rfl, rfl, by decide +kernel, rfl, by decide +kernel, by decide +kernel⟩, by kernel_rfl, rfl, rfl, by decide +kernel, fun _ _ _ _ _ _ us hl => match us, hl with | [_, _], _ => rfl⟩
theorem t31 : DTx tab fn (N__law_kind, none) N__law_kind := ⟨31, e31, n31, [N_field, N_setting], d31, rfl, rfl, rfl, ⟨rfl, rfl, rfl, by decide +kernel, rfl, by decide +kernel, by decide +kernel⟩, by kernel_rfl, rfl, rfl, by decide +kernel, fun _ _ _ _ _ _ us hl => match us, hl with | [_, _], _ => rfl⟩
theorem t32 : DTx tab fn (N__law_gap, none) N__law_gap := ⟨32, e32, n32, [N_field, N_setting], d32, rfl, rfl, rfl, ⟨rfl, rfl, rfl, by decide +kernel, rfl, by decide +kernel, by decide +kernel⟩, by kernel_rfl, rfl, rfl, by decide +kernel, fun _ _ _ _ _ _ us hl => match us, hl with | [_, _], _ => rfl⟩
theorem t33 : DTx tab fn (N__law_window, none) N__law_window := ⟨33, e33, n33, [N_field, N_setting, N_width], d33, rfl, rfl, rfl, ⟨rfl, rfl, rfl, by decide +kernel, rfl, by decide +kernel, by decide +kernel⟩, by kernel_rfl, rfl, rfl, by decide +kernel, fun _ _ _ _ _ _ us hl => match us, hl with | [_, _, _], _ => rfl⟩
theorem t34 : DTx tab fn (N__law_with_off, none) N__law_with_off := ⟨34, e34, n34, [N_setting, N_off], d34, rfl, rfl, rfl, ⟨rfl, rfl, rfl, by decide +kernel, rfl, by decide +kernel, by decide +kernel⟩, by kernel_rfl, rfl, rfl, by decide +kernel, fun _ _ _ _ _ _ us hl => match us, hl with | [_, _], _ => rfl⟩
theorem t35 : DTx tab fn (N__law_options, none) N__law_options := ⟨35, e35, n35, [N_field, N_setting, N_width], d35, rfl, rfl, rfl, ⟨rfl, rfl, rfl, by decide +kernel, rfl, by decide +kernel, by decide +kernel⟩, by kernel_rfl, rfl, rfl, by decide +kernel, fun _ _ _ _ _ _ us hl => match us, hl with | [_, _, _], _ => rfl⟩
theorem t36 : DTx tab fn (N__law_off_due, none) N__law_off_due := ⟨36, e36, n36, [N_field, N_setting, N_width, N_count], d36, rfl, rfl, rfl, ⟨rfl, rfl, rfl, by decide +kernel, rfl, by decide +kernel, by decide +kernel⟩, by kernel_rfl, rfl, rfl, by decide +kernel, fun _ _ _ _ _ _ us hl => match us, hl with | [_, _, _, _], _ => rfl⟩
theorem t37 : DTx tab fn (N__law_delays_due, none) N__law_delays_due := ⟨37, e37, n37, [N_pairs, N_width, N_limit], d37, rfl, rfl, rfl, ⟨rfl, rfl, rfl, by decide +kernel, rfl, by decide +kernel, by decide +kernel⟩, by kernel_rfl, rfl, rfl, by decide +kernel, fun _ _ _ _ _ _ us hl => match us, hl with | [_, _, _], _ => rfl⟩
theorem t38 : DTx tab fn (N__law_ask, none) N__law_ask := ⟨38, e38, n38, [N_door, N_first, N_second, N_width, N_number], d38, rfl, rfl, rfl, ⟨rfl, rfl, rfl, by decide +kernel, rfl, by decide +kernel, by decide +kernel⟩, by kernel_rfl, rfl, rfl, by decide +kernel, fun _ _ _ _ _ _ us hl => match us, hl with | [_, _, _, _, _], _ => rfl⟩
theorem t39 : DTx tab fn (N__law_wrong_field, none) N__law_wrong_field := ⟨39, e39, n39, [N_choice, N_field], d39, rfl, rfl, rfl, ⟨rfl, rfl, rfl, by decide +kernel, rfl, by decide +kernel, by decide +kernel⟩, by kernel_rfl, rfl, rfl, by decide +kernel, fun _ _ _ _ _ _ us hl => match us, hl with | [_, _], _ => rfl⟩
theorem t40 : DTx tab fn (N__law_wrong_setting, none) N__law_wrong_setting := ⟨40, e40, n40, [N_choice, N_setting], d40, rfl, rfl, rfl, ⟨rfl, rfl, rfl, by decide +kernel, rfl, by decide +kernel, by decide +kernel⟩, by kernel_rfl, rfl, rfl, by decide +kernel, fun _ _ _ _ _ _ us hl => match us, hl with | [_, _], _ => rfl⟩
theorem t41 : DTx tab fn (N__law_off_refused, none) N__law_off_refused := ⟨41, e41, n41, [N_script, N_field, N_setting, N_width, N_count], d41, rfl, rfl, rfl, ⟨rfl, rfl, rfl, by decide +kernel, rfl, by decide +kernel, by decide +kernel⟩, by kernel_rfl, rfl, rfl, by decide +kernel, fun _ _ _ _ _ _ us hl => match us, hl with | [_, _, _, _, _], _ => rfl⟩
theorem t42 : DTx tab fn (N__law_off_holds, none) N__law_off_holds := ⟨42, e42, n42, [N_script], d42, rfl, rfl, rfl, ⟨rfl, rfl, rfl, by decide +kernel, rfl, by decide +kernel, by decide +kernel⟩, by kernel_rfl, rfl, rfl, by decide +kernel, fun _ _ _ _ _ _ us hl => match us, hl with | [_], _ => rfl⟩
theorem t43 : DTx tab fn (N__law_spoilt_pair, none) N__law_spoilt_pair := ⟨43, e43, n43, [N_choice, N_pair], d43, rfl, rfl, rfl, ⟨rfl, rfl, rfl, by decide +kernel, rfl, by decide +kernel, by decide +kernel⟩, by kernel_rfl, rfl, rfl, by decide +kernel, fun _ _ _ _ _ _ us hl => match us, hl with | [_, _], _ => rfl⟩
theorem t44 : DTx tab fn (N__law_wrong_pairs, none) N__law_wrong_pairs := ⟨44, e44, n44, [N_script, N_pairs], d44, rfl, rfl, rfl, ⟨rfl, rfl, rfl, by decide +kernel, rfl, by decide +kernel, by decide +kernel⟩, by kernel_rfl, rfl, rfl, by decide +kernel, fun _ _ _ _ _ _ us hl => match us, hl with | [_, _], _ => rfl⟩
theorem t45 : DTx tab fn (N__law_delays_refused, none) N__law_delays_refused := ⟨45, e45, n45, [N_script, N_pairs, N_width, N_limit], d45, rfl, rfl, rfl, ⟨rfl, rfl, rfl, by decide +kernel, rfl, by decide +kernel, by decide +kernel⟩, by kernel_rfl, rfl, rfl, by decide +kernel, fun _ _ _ _ _ _ us hl => match us, hl with | [_, _, _, _], _ => rfl⟩
theorem t46 : DTx tab fn (N__law_tuned, none) N__law_tuned := ⟨46, e46, n46, [N_pairs, N_offs], d46, rfl, rfl, rfl, ⟨rfl, rfl, rfl, by decide +kernel, rfl, by decide +kernel, by decide +kernel⟩, by kernel_rfl, rfl, rfl, by decide +kernel, fun _ _ _ _ _ _ us hl => match us, hl with | [_, _], _ => rfl⟩
theorem lx : LTx tab fn := ⟨47, e47, n47, d47, rfl, by kernel_rfl, rfl, ⟨rfl, rfl, rfl, by decide +kernel, rfl, by decide +kernel, by decide +kernel⟩, by kernel_rfl, rfl, rfl, by decide +kernel, fun _ _ _ _ _ _ us hl => match us, hl with | [_], _ => rfl⟩
theorem lx_d : DTx tab fn (N_law, none) N_law := lx.d
theorem txt : Txt tab P fn sups := ⟨List.forall_mem_cons.mpr ⟨t0, List.forall_mem_cons.mpr ⟨t1, List.forall_mem_cons.mpr ⟨t2, List.forall_mem_cons.mpr ⟨t3, List.forall_mem_cons.mpr ⟨t4, List.forall_mem_cons.mpr ⟨t5, List.forall_mem_cons.mpr ⟨t6, List.forall_mem_cons.mpr ⟨t7, List.forall_mem_cons.mpr ⟨t8, List.forall_mem_cons.mpr ⟨t9, List.forall_mem_cons.mpr ⟨t10, List.forall_mem_cons.mpr ⟨t11, List.forall_mem_cons.mpr ⟨t12, List.forall_mem_cons.mpr ⟨t13, List.forall_mem_cons.mpr ⟨t14, List.forall_mem_cons.mpr ⟨t15, List.forall_mem_cons.mpr ⟨t16, List.forall_mem_cons.mpr ⟨t17, List.forall_mem_cons.mpr ⟨t18, List.forall_mem_cons.mpr ⟨t19, List.forall_mem_cons.mpr ⟨t20, List.forall_mem_cons.mpr ⟨t21, List.forall_mem_cons.mpr ⟨t22, List.forall_mem_cons.mpr ⟨t23, List.forall_mem_cons.mpr ⟨t24, List.forall_mem_cons.mpr ⟨t25, List.forall_mem_cons.mpr ⟨t26, List.forall_mem_cons.mpr ⟨t27, List.forall_mem_cons.mpr ⟨t28, List.forall_mem_cons.mpr ⟨t29, List.forall_mem_cons.mpr ⟨t30, List.forall_mem_cons.mpr ⟨t31, List.forall_mem_cons.mpr ⟨t32, List.forall_mem_cons.mpr ⟨t33, List.forall_mem_cons.mpr ⟨t34, List.forall_mem_cons.mpr ⟨t35, List.forall_mem_cons.mpr ⟨t36, List.forall_mem_cons.mpr ⟨t37, List.forall_mem_cons.mpr ⟨t38, List.forall_mem_cons.mpr ⟨t39, List.forall_mem_cons.mpr ⟨t40, List.forall_mem_cons.mpr ⟨t41, List.forall_mem_cons.mpr ⟨t42, List.forall_mem_cons.mpr ⟨t43, List.forall_mem_cons.mpr ⟨t44, List.forall_mem_cons.mpr ⟨t45, List.forall_mem_cons.mpr ⟨t46, List.forall_mem_cons.mpr ⟨lx_d, fun _ m => absurd m (List.not_mem_nil)⟩⟩⟩⟩⟩⟩⟩⟩⟩⟩⟩⟩⟩⟩⟩⟩⟩⟩⟩⟩⟩⟩⟩⟩⟩⟩⟩⟩⟩⟩⟩⟩⟩⟩⟩⟩⟩⟩⟩⟩⟩⟩⟩⟩⟩⟩⟩⟩,
  fun _ m => absurd m (List.not_mem_nil),
  fun _ m => absurd m (List.not_mem_nil),
  List.forall_mem_cons.mpr ⟨su0, List.forall_mem_cons.mpr ⟨su1, List.forall_mem_cons.mpr ⟨su2, fun _ m => absurd m (List.not_mem_nil)⟩⟩⟩,
  fun _ m => absurd m (List.not_mem_nil),
  .inr (by decide +kernel)⟩
end Lw

namespace Lw
open PySem PySem.Spec PyProof.Rows L2 S2
def loose : List Str := (["__name__", "AlarmError", "InvalidField", "InvalidSetting", "TooMany", "OutOfRange", "InvalidPair", "is_integer", "is_number", "check_number", "MOST_VALUE", "MOST_DELAY", "MOST_PAIRS", "is_field", "is_setting", "check_field", "check_setting", "check_pairs", "MOST_WIDTH", "kind_of", "fall_ticks", "gap_of", "window_most", "wave_value", "value_at", "signal_from", "MOST_COUNT", "MOST_LIMIT", "off_for", "least_off"] : List Str) ++ (["choices_of", "best_choice", "sum_rows", "least_delays", "most_from", "total_from", "crowded_signal", "most_total", "_law_cell", "_law_pick", "_law_row", "_law_is_integer", "_law_same", "_law_case", "_law_kind", "_law_gap", "_law_window", "_law_with_off", "_law_options", "_law_off_due", "_law_delays_due", "_law_ask", "_law_wrong_field", "_law_wrong_setting", "_law_off_refused", "_law_off_holds", "_law_spoilt_pair", "_law_wrong_pairs", "_law_delays_refused", "_law_tuned"] : List Str)
abbrev Rw : PySem.W.OpenRow := PySem.W.OpenLaw.row PySem.Challenge.rw_alarmworks_k37_whole_tuned_settings
abbrev hk : PySem.W.Hook := hookT 6 tab P fn sups
def ob (s : PySem.W.SharedT) : AlT := obsTG 6 tab P fn sups (HandSHeadRun.getT s)
theorem ob_eq (s : PySem.W.SharedT) : ob s = hk.obs s.abs := obsTG_eq (HandSHeadRun.getT_eq s)
theorem run (w : World) : HandSHeadRun.RunEq Rw (PySem.W.view Rw.prog [66]) hk ob 4420 loose w := by
  intro os
  kernel_rfl
end Lw
open PySem PySem.W PySem.Calls PyProof.Rows
theorem PySem.Challenge.cw_alarmworks_k37_whole_tuned_settings_holds : PySem.Challenge.rw_alarmworks_k37_whole_tuned_settings.Holds := by
  w_on; o_law
  refine HandSHeadRun.head_any (r := OpenLaw.row PySem.Challenge.rw_alarmworks_k37_whole_tuned_settings) (q := view (OpenLaw.row PySem.Challenge.rw_alarmworks_k37_whole_tuned_settings).prog [66]) (H := Lw.hk) (ob := Lw.ob) (M := 4420) (loose := Lw.loose) (d := HandSHeadRun.topDef (OpenLaw.row PySem.Challenge.rw_alarmworks_k37_whole_tuned_settings).prog 66) (kwd := []) Lw.ob_eq
    (by kernel_rfl) (fun s => by kernel_rfl) Lw.run (by kernel_rfl) (by kernel_rfl) (by kernel_rfl) (by rfl) (by first | assumption | decide +kernel) (by decide +kernel) ⟨rfl, rfl, rfl, rfl, rfl, by decide +kernel⟩ ?hw ?hc
  case hw => w_witness2
  case hc =>
    refine S2.walk_ofG (l := PySem.Challenge.rw_alarmworks_k37_whole_tuned_settings) (n := 63) (k := Lw.top_k + 1) (x := "script") (C := S2.CXA Lw.P) rfl (by decide) (by kernel_rfl) ⟨rfl, by decide, by decide⟩ ?F (fun _ _ _ _ ⟨_, _, _, _, _, _, _, _, _, _, _, _, _, z⟩ => z)
    intro w mg fa h Y G hmg0
    obtain ⟨K, KX, c⟩ := Y
    have hmg : mg ("law" : PySem.Str) = some (.ref fa) := by
      have e : (HandSHeadRun.topDef (OpenLaw.row PySem.Challenge.rw_alarmworks_k37_whole_tuned_settings).prog 66).name = ("law" : PySem.Str) := by kernel_rfl
      rw [← e]
      exact hmg0
    obtain ⟨fd, sp, hb, hs, hF⟩ := S2.Tb.law (wd := w) KX G c Lw.txt Lw.lx (by decide +kernel) hmg Lw.law_true
    exact ⟨K, fd, sp, KX, hb, hs, fun base _ _ => hF base⟩

