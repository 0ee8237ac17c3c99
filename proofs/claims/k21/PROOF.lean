import PyProof.Rows.All
import Wide.All
import OpenK.AllK
import Wide.FinOn
import KE.KStateDown
import KE.SortData
import HandS.ForMost
import HandS.ForExc
import HandS.More
import HandS.Defaults
import HandS.TupAny
import HandS.Deep
import HandS.Flow
import HandS.IsInst
import HandS.CallSlots
import HandS.Codes
import KE.DataCmp
import KE.DataEq
import KE.DataMinMax
import HandS.TupMul
import HandS.Replace
import HandS.ExcCtx
import HandS.SuiteRaise
import HandS.HotCalls
import HandS.HeadEnd
import HandS.Ends
import HandS.Dict
import HandS.SortKw
import HandS.RevTup
import HandS.ExcField
import HandS.Rev
import KE.SortKeyHeap
import HandS.Keys
import HandS.ExcIs
import KE.KExcIs
import HandS.ExcOwn
import KE.KExcSuper
import HandS.Head0
import HandS.Head1
import HandS.Head2
import HandS.HeadHook1
import HandS.HeadHook2
import PySem.Challenge.RW_alarmworks_k21_whole_hitting
set_option Elab.async false
set_option linter.all false
set_option maxRecDepth 100000
set_option maxHeartbeats 4000000
/-! S2: values as data, an IR of the defs, its evaluator. -/
namespace S2
open PySem

/-- a value as data -/
inductive D where
  | non
  | bl (b : Bool)
  | int (i : Int)
  | str (s : Str)
  | tup (l : List D)
  | lst (l : List D)
  | dct (ks vs : List D)
  | scr (l : List Int)
  | ob (c : Str) (ns : List Str) (vs : List D)

inductive R (α : Type) where
  | ok (a : α)
  | exc (e : D)
  | no
def R.bind {α β : Type} : R α → (α → R β) → R β
  | .ok a, f => f a
  | .exc e, _ => .exc e
  | .no, _ => .no
/-- an exception is not served there -/
def R.tame {α : Type} : R α → R α
  | .ok a => .ok a
  | _ => .no
@[simp] theorem R.ok_bind {α β : Type} (a : α) (f : α → R β) : (R.ok a).bind f = f a := rfl
@[simp] theorem R.exc_bind {α β : Type} (e : D) (f : α → R β) : (R.exc e).bind f = R.exc e := rfl
@[simp] theorem R.no_bind {α β : Type} (f : α → R β) : (R.no : R α).bind f = R.no := rfl
@[simp] theorem R.tame_ok {α : Type} (a : α) : (R.ok a).tame = R.ok a := rfl

/-- who holds a list: shared; this slot alone; this slot alone, and its lists within too; an instance that is being made -/
inductive Own where
  | sh | o1 | o2 | oi | ex
  deriving DecidableEq
abbrev OD := Own × D
abbrev Slot := Option OD
abbrev Env := List Slot

inductive Bop where
  | add | sub | mul | fdiv | mod | pow | xor
inductive Cop where
  | eq | ne | lt | le | gt | ge | is_ | isnot | in_ | notin
inductive Bi where
  | len | int | str | abs | tuple | list | sum | max | min | sorted | all | any | maxd | mind | revL | revT | rngL | rngT | repr | set
inductive Bm where
  | index | join | split | get | upper | replace | six
inductive Bt where
  | int | str | bool | tuple | list
inductive Tg where
  | nm (i : Nat)
  | tp (is : List Nat)

mutual
inductive E where
  | non
  | bl (b : Bool)
  | int (i : Int)
  | str (s : Str)
  | var (i : Nat)
  | g (x : Str)
  | bin (o : Bop) (a b : E)
  | neg (a : E)
  | not (a : E)
  | and (a b : E)
  | or (a b : E)
  | cmp (o : Cop) (a b : E)
  | chain (o p : Cop) (a b c : E)
  | ife (c a b : E)
  | tup (es : Es)
  | lst (es : Es)
  | emp
  | ix (a b : E)
  | sl (a : E) (lo hi : Eo)
  | fld (a : E) (f : Str)
  | isi (a : E) (b : Bt)
  | isx (i : Nat) (c : Str)
  | xfl (i : Nat) (f : Str)
  | hsm (i j : Nat)
  | rvt (a : E)
  | rvl (a : E)
  | lsv (i : Nat)
  | rgt (l : Bool) (es : Es)
  | dl1 (k v : E)
  | srk (a : E) (f : Str)
  | hcall (f : Str) (i : Nat)
  | call (f : Str) (es : Es)
  | new (c : Str) (es : Es)
  | bi (f : Bi) (es : Es)
  | me (m : Str) (a : E) (es : Es)
  | join (s : Str) (b : E)
  | bm (m : Bm) (a : E) (es : Es)
  | lc (elt : E) (tg : Tg) (it : It) (c : Eo)
  | dc (k v : E) (tg : Tg) (it : It)
inductive Es where
  | nil
  | cons (e : E) (es : Es)
inductive Eo where
  | none
  | some (e : E)
inductive It where
  | it (e : E)
  | rng1 (a : E)
  | rng2 (a b : E)
  | rng3 (a b c : E)
  | rev (e : E)
  | enum (e : E)
  | items (e : E)
  | vals (e : E)
end

mutual
inductive S where
  | pass
  | doc
  | asg (i : Nat) (e : E)
  | tup (is : List Nat) (e : E)
  | par (i j : Nat) (a b : E)
  | asgix (x : Nat) (i e : E)
  | app (x : Nat) (e : E)
  | appat (x : Nat) (i e : E)
  | appop (x y : Nat) (i : Eo)
  | popto (i x : Nat) (e : Eo)
  | poptup (is : List Nat) (x : Nat) (e : Eo)
  | retpop (x : Nat) (e : Eo)
  | popd (x : Nat) (e : Eo)
  | rev (x : Nat)
  | ext (x : Nat) (e : E)
  | ins (x : Nat) (i e : E)
  | dput (x : Nat) (k e : E)
  | fld (x : Nat) (f : Str) (e : E)
  | ex (e : E)
  | ife (c : E) (a b : Ss)
  | for_ (tg : Tg) (it : It) (b : Ss)
  | while_ (c : E) (b : Ss)
  | ret (e : E)
  | retn
  | brk
  | cont
  | raise_ (c : Str) (es : Es)
  | try_ (b : Ss) (hs : Hs)
inductive Ss where
  | nil
  | cons (s : S) (ss : Ss)
inductive Hs where
  | nil
  | cons (c : Str) (i : Option Nat) (b : Ss) (hs : Hs)
end

/-- a def: its parameters, its slots, its body -/
structure FD where
  np : Nat
  ns : Nat
  body : Ss
/-- the program: its defs by name (C.m: a method), its constants, the exception classes with their fields, who stands under whom, and where a class's method is found -/
structure G where
  fn : Str → Option FD
  con : Str → Option D
  exf : Str → Option (List Str)
  sub : Str → Str → Bool
  mth : Str → Str → Option Str
  fr : Str → Bool
  cl : Str → Bool
  top : Str → Bool
  nf : Str → Bool
  hf : Str → Bool

/-! ### data for the library -/
mutual
def py : D → PyData
  | .non => .none
  | .bl b => .bool b
  | .int i => .int i
  | .str s => .str s
  | .tup l => .tuple (pys l)
  | .lst l => .list (pys l)
  | .dct _ _ => .dict []
  | .scr _ => .dict []
  | .ob _ _ _ => .dict []
def pys : List D → List PyData
  | [] => []
  | d :: l => py d :: pys l
end
mutual
/-- a list or a dict stands in it -/
def hasL : D → Bool
  | .tup l => hasLs l
  | .lst _ => true
  | .dct _ _ => true
  | .ob _ _ vs => hasLs vs
  | _ => false
def hasLs : List D → Bool
  | [] => false
  | d :: l => hasL d || hasLs l
end
def isLst : D → Bool
  | .lst _ => true
  | _ => false
def kids : D → List D
  | .lst l => l
  | .dct _ vs => vs
  | .tup l => l
  | _ => []

/-! ### operations by values -/
def szL : Nat := 16777216
def scV : D → Option L2.V
  | .non => some .non
  | .bl b => some (.bl b)
  | .int i => some (.int i)
  | .str s => some (.str s)
  | _ => none
def depth64 (a : D) : Bool := decide ((py a).depth ≤ 64)
def plainB (a : D) : Bool := (py a).plain && depth64 a
def eqP (a b : D) : R Bool := if plainB a && plainB b then .ok (PyData.eqv (py a) (py b)) else .no
def eqD (a b : D) : R Bool := match scV a, scV b with
  | some x, some y => if L2.scal x y then .ok (decide (x = y)) else eqP a b
  | _, _ => eqP a b
def isNonD : D → Bool
  | .non => true
  | _ => false
/-- a < b -/
def ltD (a b : D) : R Bool := if W.alike (py a) (py b) && plainB a && plainB b && !isNonD a then .ok (W.dataLt (py a) (py b)) else .no
/-- not a < b -/
def nltD (a b : D) : R Bool := if W.alike (py b) (py a) && plainB a && plainB b && !isNonD b then .ok (!W.dataLt (py a) (py b)) else .no
/-- a key of a dict -/
def keyK : D → Option (Int ⊕ Str)
  | .int i => some (.inl i)
  | .str s => some (.inr s)
  | _ => none
/-- a dict whose keys are tuples -/
def isTk : List D → Bool
  | .non :: _ => true
  | _ => false
def keyB (q : Int ⊕ Str) (d : D) : Bool := decide (keyK d = some q)
def getKD : List D → List D → Int ⊕ Str → Option D
  | k :: ks, v :: vs, q => if keyB q k = true then some v else getKD ks vs q
  | _, _, _ => none
def putKD (ks vs : List D) (q : Int ⊕ Str) (k v : D) : List D × List D := if ks.any (keyB q) = true then (ks, List.zipWith (fun a b => if keyB q a = true then v else b) ks vs) else (ks ++ [k], vs ++ [v])
def inD (a : D) : D → R Bool
  | .dct ks _ => match keyK a with
    | some q => if isTk ks = true then .no else .ok (ks.any (keyB q))
    | none => .no
  | .lst l => if plainB a && plainB (.lst l) then .ok (l.any fun z => PyData.eqv (py z) (py a)) else .no
  | .tup l => if plainB a && plainB (.tup l) then .ok (l.any fun z => PyData.eqv (py z) (py a)) else .no
  | .str y => match a with
    | .str x => .ok (!(Builtin.Str.occurrences y x 0 y.length 1).isEmpty)
    | _ => .no
  | _ => .no
def cmpD : Cop → D → D → R Bool
  | .eq, a, b => eqD a b
  | .ne, a, b => (eqD a b).bind fun c => .ok (!c)
  | .lt, a, b => ltD a b
  | .gt, a, b => if W.alike (py a) (py b) && plainB a && plainB b && !isNonD a then .ok (W.dataLt (py b) (py a)) else .no
  | .le, a, b => nltD b a
  | .ge, a, b => if W.alike (py a) (py b) && plainB a && plainB b && !isNonD a then .ok (!W.dataLt (py a) (py b)) else .no
  | .is_, a, .non => .ok (isNonD a)
  | .isnot, a, .non => .ok (!isNonD a)
  | .in_, a, b => inD a b
  | .notin, a, b => (inD a b).bind fun c => .ok (!c)
  | _, _, _ => .no
def addD : D → D → R D
  | .int a, .int b => .ok (.int (a + b))
  | .str a, .str b => if a.length + b.length ≤ szL then .ok (.str (a ++ b)) else .no
  | .tup a, .tup b => if a.length + b.length ≤ szL then .ok (.tup (a ++ b)) else .no
  | .lst a, .lst b => if a.length + b.length ≤ szL then .ok (.lst (a ++ b)) else .no
  | _, _ => .no
/-- -n ≤ i ≤ n (said so that the kernel, where i is a letter, stops at once) -/
def absLe (i : Int) (n : Nat) : Bool := Nat.ble i.natAbs n
theorem absLe_ok {i : Int} {n : Nat} (h : absLe i n = true) : -(n : Int) ≤ i ∧ i ≤ n := by
  have := Nat.le_of_ble_eq_true h
  omega
theorem absLe_of {i : Int} {n : Nat} (h1 : -(n : Int) ≤ i) (h2 : i ≤ n) : absLe i n = true := Nat.ble_eq_true_of_le (by omega)
def mulOk (i j : Int) : Bool := absLe i 18446744073709551615 || absLe j 18446744073709551615
def mulD : D → D → R D
  | .int a, .int b => if mulOk a b then .ok (.int (a * b)) else .no
  | .lst a, .int k => if absLe k 1000000000 && decide (a.length * k.toNat ≤ szL) then .ok (.lst ((List.replicate k.toNat a).flatten)) else .no
  | .tup a, .int k => if decide (2 ≤ k) && absLe k 1000 && !a.isEmpty && decide (a.length ≤ 1000) then .ok (.tup ((List.replicate k.toNat a).flatten)) else .no
  | _, _ => .no
def binD : Bop → D → D → R D
  | .add, a, b => addD a b
  | .sub, .int a, .int b => .ok (.int (a - b))
  | .mul, a, b => mulD a b
  | .fdiv, .int a, .int b => if decide (0 < b) && absLe b 1073741823 then .ok (.int (a / b)) else .no
  | .mod, .int a, .int b => if decide (0 < b) then .ok (.int (a % b)) else .no
  | .pow, .int a, .int b => if decide (0 ≤ b) && absLe b 1000000 && absLe a 18446744073709551615 then .ok (.int (a ^ b.toNat)) else .no
  | .xor, .int a, .int b => .ok (.int (Builtin.bitXor a b))
  | _, _, _ => .no
def truthD : D → R Bool
  | .non => .ok false
  | .bl b => .ok b
  | .int i => .ok (i != 0)
  | .str s => if s.length ≤ szL then .ok ((s.length : Int) != 0) else .no
  | .tup l => .ok (!l.isEmpty)
  | .lst l => .ok (!l.isEmpty)
  | _ => .no
def ixD : D → D → R D
  | .scr l, .int i => match L2.atI l i with
    | some d => .ok (.int d)
    | none => .no
  | .lst l, .int i => match L2.atI l i with
    | some d => .ok d
    | none => .no
  | .tup l, .int i => match L2.atI l i with
    | some d => .ok d
    | none => .no
  | .str s, .int i => if s.length ≤ szL then (match L2.atI s.cps.toList i with
    | some c => .ok (.str ⟨#[c]⟩)
    | none => .no) else .no
  | .dct ks vs, k => match keyK k with
    | some q => if isTk ks = true then .no else (match getKD ks vs q with
      | some d => .ok d
      | none => .no)
    | none => .no
  | _, _ => .no
def cut {α : Type} (l : List α) (lo hi : Option Int) : List α := (l.drop (HT.sIx l.length 0 lo)).take (HT.sIx l.length l.length hi - HT.sIx l.length 0 lo)
def slD : D → Option Int → Option Int → R D
  | .lst l, lo, hi => .ok (.lst (cut l lo hi))
  | .tup l, lo, hi => .ok (.tup (cut l lo hi))
  | .str s, lo, hi => if s.length ≤ szL then .ok (.str ⟨(cut s.cps.toList lo hi).toArray⟩) else .no
  | _, _, _ => .no
def fldL (f : Str) : List Str → List D → Option D
  | n :: ns, v :: vs => if n = f then some v else fldL f ns vs
  | _, _ => none
def fldD (f : Str) : D → R D
  | .ob _ ns vs => match fldL f ns vs with
    | some d => .ok d
    | none => .no
  | _ => .no
def setF (f : Str) (v : D) : List Str → List D → List Str × List D
  | n :: ns, w :: vs => if n = f then (n :: ns, v :: vs) else ((n :: (setF f v ns vs).1), (w :: (setF f v ns vs).2))
  | _, _ => ([f], [v])
/-- isinstance by a built-in class -/
def isiD : Bt → D → R Bool
  | .int, .int _ => .ok true
  | .int, .bl _ => .ok true
  | .bool, .bl _ => .ok true
  | .str, .str _ => .ok true
  | .tuple, .tup _ => .ok true
  | .list, .lst _ => .ok true
  | .list, .scr _ => .ok true
  | _, .dct _ _ => .no
  | _, .ob _ _ _ => .no
  | _, _ => .ok false
def intsOf : List D → Option (List Int)
  | [] => some []
  | .int i :: l => (intsOf l).map (i :: ·)
  | _ :: _ => none
def strsOf : List D → Option (List Str)
  | [] => some []
  | .str i :: l => (strsOf l).map (i :: ·)
  | _ :: _ => none
def blsOf : List D → Option (List Bool)
  | [] => some []
  | .bl i :: l => (blsOf l).map (i :: ·)
  | _ :: _ => none
def seqOf : D → Option (List D)
  | .tup l => some l
  | .lst l => some l
  | _ => none
def leD (a b : D) : Bool := !W.dataLt (py b) (py a)
def sortOk (l : List D) : Bool := decide (l.length ≤ szL) && (l.all fun a => plainB a && l.all fun b => W.alike (py a) (py b)) &&
  ((l.all fun a => match a with | .tup (_ :: _) => true | _ => false) || (l.all fun a => match a with | .tup _ => false | .non => false | _ => true))
def sortD (l : List D) : R D := if sortOk l then .ok (.lst (l.mergeSort leD)) else .no
def pick2 (f : Int → Int → Bool) : List Int → Int → Int
  | [], m => m
  | x :: l, m => pick2 f l (if f x m then x else m)
/-- alike data: the least, the greatest of them, the first such one -/
def alikeOk (l : List D) : Bool := l.all fun a => plainB a && !isNonD a && !isLst a && l.all fun b => W.alike (py a) (py b)
def minF (x : D) (l : List D) : D := l.foldl (fun a y => if W.dataLt (py y) (py a) then y else a) x
def maxF (x : D) (l : List D) : D := l.foldl (fun a y => if W.dataLt (py a) (py y) then y else a) x
def minR : List D → R D
  | x :: l => if alikeOk (x :: l) then .ok (minF x l) else .no
  | [] => .no
def maxR : List D → R D
  | x :: l => if alikeOk (x :: l) then .ok (maxF x l) else .no
  | [] => .no
def shB0 (d : D) : Bool := plainB d && (py d).showable && decide ((py d).shown.length ≤ szL)
def idxS (z : Str) : List Str → Nat → Option Nat
  | [], _ => none
  | y :: ys, k => if y = z then some k else idxS z ys (k + 1)
def litD : D → Bool
  | .int _ => true
  | .non => true
  | _ => false
def biD : Bi → List D → R D
  | .len, [.tup l] => .ok (.int l.length)
  | .len, [.lst l] => .ok (.int l.length)
  | .len, [.scr l] => .ok (.int l.length)
  | .len, [.dct ks _] => if isTk ks = true then .no else .ok (.int ks.length)
  | .len, [.str s] => if s.length ≤ szL then .ok (.int s.length) else .no
  | .int, [.int i] => .ok (.int i)
  | .int, [.bl b] => .ok (.int (if b then 1 else 0))
  | .str, [.int i] => if decide (i.natAbs.log2 < 1920) then .ok (.str (toString i)) else .no
  | .abs, [.int i] => .ok (.int (if i < 0 then -i else i))
  | .tuple, [d] => match seqOf d with
    | some l => .ok (.tup l)
    | none => .no
  | .list, [d] => match seqOf d with
    | some l => .ok (.lst l)
    | none => .no
  | .sum, [.lst l] => match intsOf l with
    | some is => .ok (.int is.sum)
    | none => .no
  | .max, [.int i, .int j] => .ok (.int (if j > i then j else i))
  | .min, [.int i, .int j] => .ok (.int (if j < i then j else i))
  | .max, [.lst l] => match intsOf l with
    | some (x :: is) => .ok (.int (is.foldl max x))
    | _ => maxR l
  | .max, [.tup l] => match intsOf l with
    | some (x :: is) => .ok (.int (is.foldl max x))
    | _ => maxR l
  | .min, [.lst l] => match intsOf l with
    | some (x :: is) => .ok (.int (is.foldl min x))
    | _ => minR l
  | .min, [.tup l] => match intsOf l with
    | some (x :: is) => .ok (.int (is.foldl min x))
    | _ => minR l
  | .maxd, [.lst l, d] => if litD d = true then (match intsOf l with
    | some (x :: is) => .ok (.int (is.foldl max x))
    | some [] => .ok d
    | none => maxR l) else .no
  | .mind, [.lst l, d] => if litD d = true then (match intsOf l with
    | some (x :: is) => .ok (.int (is.foldl min x))
    | some [] => .ok d
    | none => minR l) else .no
  | .sorted, [.lst l] => sortD l
  | .sorted, [.tup l] => sortD l
  | .all, [.lst l] => match blsOf l with
    | some bs => .ok (.bl (bs.all id))
    | none => .no
  | .any, [.lst l] => match blsOf l with
    | some bs => .ok (.bl (bs.any id))
    | none => .no
  | .repr, [d] => if shB0 d = true then .ok (.str (py d).shown) else .no
  | .revL, [d] => match seqOf d with
    | some l => .ok (.lst l.reverse)
    | none => .no
  | .revT, [d] => match seqOf d with
    | some l => .ok (.tup l.reverse)
    | none => .no
  | _, _ => .no
/-- what the method m may be asked of -/
def bmTy : Bm → D → Bool
  | .index, .lst _ => true
  | .join, .str _ => true
  | .split, .str _ => true
  | .upper, .str _ => true
  | .replace, .str _ => true
  | .six, .str _ => true
  | _, _ => false
def bmD : Bm → D → List D → R D
  | .index, .lst l, [.str z] => match strsOf l with
    | some ss => (match idxS z ss 0 with
      | some k => .ok (.int k)
      | none => .no)
    | none => .no
  | .split, .str a, [.str b] => if (b.length == 0) = false ∧ a.length + 2 ≤ szL then .ok (.lst ((Txt.split a b).map .str)) else .no
  | .six, .str a, [.str b] => match Builtin.Str.occurrences a b 0 a.length 1 with
    | i :: _ => .ok (.int (i : Nat))
    | [] => .no
  | .upper, .str s, [] => if decide (s.length ≤ 5592405) then .ok (.str (Txt.upper s)) else .no
  | .join, .str s, [d] => match seqOf d with
    | some l => (match strsOf l with
      | some ss => if decide ((ss.map (·.length)).sum + ss.length * s.length ≤ 16777216) then .ok (.str (Txt.join s ss)) else .no
      | none => .no)
    | none => .no
  | _, _, _ => .no

/-! ### the evaluator -/
structure Cal where
  call : Str → List D → R OD
  make : Str → List D → R D
  can : Bool
  hot : Str → D → R OD

/-- where the method m of the instance is -/
def whoM (g : G) (m : Str) : D → Option Str
  | .ob c ns _ => if ns.contains m then none else g.mth c m
  | _ => none
def isStrD : D → Bool
  | .str _ => true
  | _ => false
def listOwn (l : List OD) : Own := if (!l.isEmpty) && l.all (fun p => decide (p.1 = .o1) && isLst p.2) then .o2 else .o1
def shD (r : R D) : R OD := r.bind fun d => .ok (.sh, d)
def ownL (r : R D) : R OD := r.tame.bind fun d => .ok (if isLst d then .o1 else .sh, d)
def asB (r : R Bool) : R OD := r.tame.bind fun b => .ok (.sh, .bl b)
def fst1 (r : R OD) : R D := r.bind fun p => .ok p.2

def look (env : Env) (i : Nat) : R OD := match env[i]? with
  | some (some (.oi, _)) => .no
  | some (some (.ex, _)) => .no
  | some (some (_, d)) => .ok (.sh, d)
  | _ => .no
def setAll : List Nat → List D → Env → Option Env
  | [], [], env => some env
  | i :: is, d :: ds, env => setAll is ds (env.set i (some (.sh, d)))
  | _, _, _ => none
def bindT (tg : Tg) (d : D) (env : Env) : Option Env := match tg with
  | .nm i => some (env.set i (some (.sh, d)))
  | .tp is => match d with
    | .tup l => setAll is l env
    | _ => none
def consO {α : Type} : Option α → List α → List α
  | some y, ys => y :: ys
  | none, ys => ys
def mapC {α : Type} (f : D → R (Option α)) : List D → R (List α)
  | [] => .ok []
  | x :: l => (f x).bind fun o => (mapC f l).bind fun ys => .ok (consO o ys)
/-- what a loop over it sees -/
def itD : D → Option (List D)
  | .lst l => some l
  | .tup l => some l
  | .scr l => some (l.map .int)
  | .str s => some (s.cps.toList.map fun c => .str ⟨#[c]⟩)
  | _ => none
def upto (lo : Int) (n : Nat) : List D := (List.range n).map fun (k : Nat) => .int (lo + k)
def small62 (i : Int) : Bool := absLe i 4611686018427387903
def rngD (lo hi : Int) : R (List D) := if small62 lo && small62 hi then .ok (upto lo (hi - lo).toNat) else .no

/-- the keys that f tells of the items -/
def keysR (call : Str → List D → R OD) (f : Str) : List D → R (List D)
  | [] => .ok []
  | d :: l => (call f [d]).tame.bind fun k => (keysR call f l).bind fun ks => .ok (k.2 :: ks)
/-- the items in the order of their keys -/
def keyed (l ks : List D) : List D := ((l.zip ks).mergeSort fun p q => leD p.2 q.2).map (·.1)
mutual
def ev (g : G) (C : Cal) : E → Env → R OD
  | .non, _ => .ok (.sh, .non)
  | .bl b, _ => .ok (.sh, .bl b)
  | .int i, _ => .ok (.sh, .int i)
  | .str s, _ => .ok (.sh, .str s)
  | .var i, env => look env i
  | .g x, _ => match g.con x with
    | some d => .ok (.sh, d)
    | none => .no
  | .bin o a b, env => (ev g C a env).bind fun x => (ev g C b env).bind fun y => ownL (binD o x.2 y.2)
  | .neg a, env => (ev g C a env).bind fun x => match x.2 with
    | .int i => .ok (.sh, .int (-i))
    | _ => .no
  | .not a, env => (ev g C a env).bind fun x => asB ((truthD x.2).bind fun b => .ok (!b))
  | .and a b, env => (ev g C a env).bind fun x => (truthD x.2).tame.bind fun k => if k = true then shD (fst1 (ev g C b env)) else .ok (.sh, x.2)
  | .or a b, env => (ev g C a env).bind fun x => (truthD x.2).tame.bind fun k => if k = true then .ok (.sh, x.2) else shD (fst1 (ev g C b env))
  | .cmp o a b, env => (ev g C a env).bind fun x => (ev g C b env).bind fun y => asB (cmpD o x.2 y.2)
  | .chain o p a b c, env => (ev g C a env).bind fun x => (ev g C b env).bind fun y => (cmpD o x.2 y.2).tame.bind fun k =>
      if k = true then (ev g C c env).bind fun z => asB (cmpD p y.2 z.2) else .ok (.sh, .bl false)
  | .ife c a b, env => (tst g C c env).bind fun k => if k = true then ev g C a env else ev g C b env
  | .tup es, env => (evs g C es env).bind fun l => if decide (l.length ≤ szL) then .ok (.sh, .tup (l.map (·.2))) else .no
  | .lst es, env => (evs g C es env).bind fun l => if decide (l.length ≤ szL) then .ok (listOwn l, .lst (l.map (·.2))) else .no
  | .emp, _ => .ok (.o1, .dct [] [])
  | .ix a b, env => (ev g C a env).bind fun x => (ev g C b env).bind fun y => shD (ixD x.2 y.2).tame
  | .sl a lo hi, env => (ev g C a env).bind fun x => (evo g C lo env).bind fun l => (evo g C hi env).bind fun h => ownL (slD x.2 l h)
  | .fld a f, env => match a with
    | .var i => (match env[i]? with
      | some (some (.ex, d)) => .no
      | some (some (_, d)) => shD (fldD f d).tame
      | _ => .no)
    | a => (ev g C a env).bind fun x => shD (fldD f x.2).tame
  | .isi a b, env => (ev g C a env).bind fun x => asB (isiD b x.2)
  | .isx i c, env => match env[i]? with
    | some (some (.ex, .ob k _ _)) => if (g.exf k).isSome = true then .ok (.sh, .bl (g.sub k c)) else .no
    | _ => .no
  | .xfl i f, env => match env[i]? with
    | some (some (.ex, .ob k ns vs)) => if (g.exf k).isSome = true then shD (fldD f (.ob k ns vs)).tame else .no
    | _ => .no
  | .hsm i _, env => (look env i).bind fun x => match x.2 with
    | .lst l => (match blsOf l with
      | some bs => if decide (bs.length < szL) then .ok (.sh, .int (bs.map fun b => if b = true then (1 : Int) else 0).sum) else .no
      | none => .no)
    | _ => .no
  | .rvt a, env => (ev g C a env).bind fun x => ownL (biD .revT [x.2])
  | .rvl a, env => (ev g C a env).bind fun x => if isLst x.2 = true then ownL (biD .revL [x.2]) else .no
  | .lsv i, env => (look env i).bind fun x => if isLst x.2 = true then ownL (biD .list [x.2]) else .no
  | .rgt _ _, _ => .no
  | .dl1 _ _, _ => .no
  | .srk a f, env => (ev g C a env).bind fun x => match x.2 with
    | .lst l => (keysR C.call f l).tame.bind fun ks => if sortOk ks = true then .ok (.o1, .lst (keyed l ks)) else .no
    | _ => .no
  | .hcall f i, env => match env[i]? with
    | some (some (.ex, .ob k ns vs)) => if (g.exf k).isSome = true then C.hot f (.ob k ns vs) else .no
    | _ => .no
  | .call f es, env => (evs g C es env).bind fun l => C.call f (l.map (·.2))
  | .new c es, env => if C.can = true then (evs g C es env).bind fun l => shD (C.make c (l.map (·.2))) else .no
  | .bi f es, env => (evs g C es env).bind fun l => ownL (biD f (l.map (·.2)))
  | .me m a es, env => (ev g C a env).bind fun x => match whoM g m x.2 with
    | some f => (evs g C es env).bind fun l => C.call f (x.2 :: l.map (·.2))
    | none => .no
  | .join s b, env => (ev g C b env).bind fun x => ownL (bmD .join (.str s) [x.2])
  | .bm m a es, env => (ev g C a env).bind fun x => if bmTy m x.2 = true then (evs g C es env).bind fun l => ownL (bmD m x.2 (l.map (·.2))) else .no
  | .lc elt tg it c, env => (items g C it env).bind fun xs =>
      (mapC (fun x => match bindT tg x env with
        | none => .no
        | some env' => (tsto g C c env').tame.bind fun k => if k = true then (ev g C elt env').tame.bind fun y => .ok (some y) else .ok none) xs.2).tame.bind fun l =>
      if decide (xs.2.length ≤ szL) then .ok (listOwn l, .lst (l.map (·.2))) else .no
  | .dc _ _ _ _, _ => .no
def evs (g : G) (C : Cal) : Es → Env → R (List OD)
  | .nil, _ => .ok []
  | .cons e es, env => (ev g C e env).bind fun x => (evs g C es env).bind fun l => .ok (x :: l)
def evo (g : G) (C : Cal) : Eo → Env → R (Option Int)
  | .none, _ => .ok none
  | .some e, env => (ev g C e env).bind fun x => match x.2 with
    | .int i => .ok (some i)
    | _ => .no
def tsto (g : G) (C : Cal) : Eo → Env → R Bool
  | .none, _ => .ok true
  | .some e, env => tst g C e env
def tst (g : G) (C : Cal) : E → Env → R Bool
  | .not a, env => (tst g C a env).bind fun b => .ok (!b)
  | .and a b, env => (tst g C a env).bind fun k => if k = true then tst g C b env else .ok false
  | .or a b, env => (tst g C a env).bind fun k => if k = true then .ok true else tst g C b env
  | .bl b, _ => .ok b
  | .var i, env => (look env i).bind fun x => (truthD x.2).tame
  | .cmp o a b, env => (ev g C a env).bind fun x => (ev g C b env).bind fun y => (cmpD o x.2 y.2).tame
  | .chain o p a b c, env => (ev g C a env).bind fun x => (ev g C b env).bind fun y => (cmpD o x.2 y.2).tame.bind fun k =>
      if k = true then (ev g C c env).bind fun z => (cmpD p y.2 z.2).tame else .ok false
  | .isi a b, env => (ev g C a env).bind fun x => (isiD b x.2).tame
  | .isx i c, env => match env[i]? with
    | some (some (.ex, .ob k _ _)) => if (g.exf k).isSome = true then .ok (g.sub k c) else .no
    | _ => .no
  | .call f es, env => ((evs g C es env).bind fun l => C.call f (l.map (·.2))).bind fun x => (truthD x.2).tame
  | .ix a b, env => ((ev g C a env).bind fun x => (ev g C b env).bind fun y => shD (ixD x.2 y.2).tame).bind fun z => (truthD z.2).tame
  | .bi f es, env => ((evs g C es env).bind fun l => ownL (biD f (l.map (·.2)))).bind fun z => (truthD z.2).tame
  | .me m a es, env => ((ev g C a env).bind fun x => match whoM g m x.2 with
    | some f => (evs g C es env).bind fun l => C.call f (x.2 :: l.map (·.2))
    | none => .no).bind fun y => (truthD y.2).tame
  | _, _ => .no
def items (g : G) (C : Cal) : It → Env → R (OD × List D)
  | .it e, env => (ev g C e env).bind fun x => match itD x.2 with
    | some l => .ok (x, l)
    | none => .no
  | .rng1 a, env => (ev g C a env).bind fun x => match x.2 with
    | .int j => (rngD 0 j).bind fun l => .ok ((.sh, .non), l)
    | _ => .no
  | .rng2 a b, env => (ev g C a env).bind fun x => (ev g C b env).bind fun y => match x.2, y.2 with
    | .int i, .int j => (rngD i j).bind fun l => .ok ((.sh, .non), l)
    | _, _ => .no
  | .rev e, env => (ev g C e env).bind fun x => match seqOf x.2 with
    | some l => .ok (x, l.reverse)
    | none => .no
  | _, _ => .no
end

/-! ### statements -/
inductive Out where
  | nx (env : Env)
  | ret (o : Own) (d : D)
  | brk (env : Env)
  | ct (env : Env)
  | exc (env : Env) (e : D)
  | no
mutual
/-- the slots that an expression reads -/
def rd : E → List (Nat × Bool)
  | .var i => [(i, true)]
  | .bin _ a b => rd a ++ rd b
  | .neg a => rd a
  | .not a => rd a
  | .and a b => rd a ++ rd b
  | .or a b => rd a ++ rd b
  | .cmp _ a b => rd a ++ rd b
  | .chain _ _ a b c => rd a ++ (rd b ++ rd c)
  | .ife c a b => rd c ++ (rd a ++ rd b)
  | .tup es => rds es
  | .lst es => rds es
  | .ix a b => (match a with
    | .var i => [(i, false)]
    | a => rd a) ++ rd b
  | .sl a lo hi => rd a ++ (rdo lo ++ rdo hi)
  | .fld a _ => (match a with
    | .var i => [(i, false)]
    | a => rd a)
  | .isi a _ => rd a
  | .isx i _ => [(i, false)]
  | .xfl i _ => [(i, false)]
  | .hsm i _ => [(i, true)]
  | .rvt a => rd a
  | .rvl a => rd a
  | .lsv i => [(i, false)]
  | .rgt _ es => rds es
  | .dl1 k v => rd k ++ rd v
  | .srk a _ => rd a
  | .hcall _ i => [(i, false)]
  | .call _ es => rds es
  | .new _ es => rds es
  | .bi _ es => rds es
  | .me _ a es => rd a ++ rds es
  | .join _ b => rd b
  | .bm _ a es => rd a ++ rds es
  | .lc elt _ it c => rdi it ++ (rd elt ++ rdo c)
  | .dc k v _ it => rdi it ++ (rd k ++ rd v)
  | _ => []
def rds : Es → List (Nat × Bool)
  | .nil => []
  | .cons e es => rd e ++ rds es
def rdo : Eo → List (Nat × Bool)
  | .none => []
  | .some e => rd e
def rdi : It → List (Nat × Bool)
  | .it e => rd e
  | .rng1 a => rd a
  | .rng2 a b => rd a ++ rd b
  | .rng3 a b c => rd a ++ (rd b ++ rd c)
  | .rev e => rd e
  | .enum e => rd e
  | .items e => rd e
  | .vals e => rd e
end

/-- may what comes be one with a list that a slot holds? -/
def leaks : OD → Bool
  | (.sh, d) => hasL d
  | (.o1, d) => hasLs (kids d)
  | (.o2, d) => (kids d).any fun k => hasLs (kids k)
  | (.oi, _) => true
  | (.ex, _) => true
def frzS (is : List (Nat × Bool)) (k : Nat) : Slot → Slot
  | some (.o1, d) => if is.contains (k, true) = true then some (.sh, d) else some (.o1, d)
  | some (.o2, d) => if is.contains (k, true) = true then some (.sh, d) else if is.contains (k, false) = true then some (.o1, d) else some (.o2, d)
  | s => s
def frzA (is : List (Nat × Bool)) : Nat → Env → Env
  | _, [] => []
  | k, s :: r => frzS is k s :: frzA is (k + 1) r
def frz (is : List (Nat × Bool)) (env : Env) : Env := frzA is 0 env
/-- from a value to a statement's end: what an exception holds is shared from then on -/
def R.to {α : Type} (is : List (Nat × Bool)) (env : Env) : R α → (α → Out) → Out
  | .ok a, f => f a
  | .exc e, _ => .exc (frz is env) e
  | .no, _ => .no
@[simp] theorem R.ok_to {α : Type} (is : List (Nat × Bool)) (env : Env) (a : α) (f : α → Out) : (R.ok a).to is env f = f a := rfl
@[simp] theorem R.exc_to {α : Type} (is : List (Nat × Bool)) (env : Env) (e : D) (f : α → Out) : (R.exc e : R α).to is env f = .exc (frz is env) e := rfl
@[simp] theorem R.no_to {α : Type} (is : List (Nat × Bool)) (env : Env) (f : α → Out) : (R.no : R α).to is env f = .no := rfl

/-- the slots behind an expression's value -/
def aftI (is : List (Nat × Bool)) (v : OD) (env : Env) : Env := if leaks v = true then frz is env else env
def aft (e : E) (v : OD) (env : Env) : Env := aftI (rd e) v env
def isL (x : Nat) (env : Env) : Bool := match env[x]? with
  | some (some (.o1, .lst _)) => true
  | some (some (.o2, .lst _)) => true
  | _ => false
def isO (x : Nat) (env : Env) : Bool := match env[x]? with
  | some (some (.oi, .ob _ _ _)) => true
  | _ => false
def own1 (x : Nat) (env : Env) : Option (Own × List D) := match env[x]? with
  | some (some (.o1, .lst l)) => some (.o1, l)
  | _ => none
def isDc (x : Nat) (env : Env) : Bool := match env[x]? with
  | some (some (.o1, .dct _ _)) => true
  | _ => false
def ownD (x : Nat) (env : Env) : Option (List D × List D) := match env[x]? with
  | some (some (.o1, .dct ks vs)) => some (ks, vs)
  | _ => none
def own2 (x : Nat) (env : Env) : Option (List D) := match env[x]? with
  | some (some (.o2, .lst l)) => some l
  | _ => none
def evi (g : G) (C : Cal) (e : Eo) (env : Env) : R Int := match e with
  | .none => .ok (-1)
  | .some e => (ev g C e env).bind fun x => match x.2 with
    | .int i => .ok i
    | _ => .no
/-- x.pop(i): the item, the rest -/
def popD (g : G) (C : Cal) (x : Nat) (e : Eo) (env : Env) : R (D × Env) := (evi g C e env).bind fun i => match own1 x env with
  | some (o, l) => (match L2.ixN l.length i with
    | some k => (match l[k]? with
      | some d => .ok (d, env.set x (some (o, .lst (l.eraseIdx k))))
      | none => .no)
    | none => .no)
  | none => .no
def whileL (is : List (Nat × Bool)) (c : Env → R Bool) (b : Env → Out) : Nat → Env → Out
  | 0, _ => .no
  | n + 1, env => (c env).to is env fun k => if k = true then (match b env with
    | .nx env' => whileL is c b n env'
    | .ct env' => whileL is c b n env'
    | .brk env' => .nx env'
    | o => o) else .nx env
def forL (f : D → Env → Out) : List D → Env → Out
  | [], env => .nx env
  | x :: l, env => match f x env with
    | .nx env' => forL f l env'
    | .ct env' => forL f l env'
    | .brk env' => .nx env'
    | o => o
def wFuel : Nat := 1000000000
def appO (o : Own) (l : List D) (v : OD) : Own := if v.1 = .o1 && isLst v.2 && (decide (o = .o2) || l.isEmpty) then .o2 else .o1
def retV (e : E) (env : Env) (r : R OD) : R OD := match e with
  | .var i => (match env[i]? with
    | some (some (.oi, _)) => .no
    | some (some (.ex, _)) => .no
    | some (some (o, d)) => .ok (o, d)
    | _ => .no)
  | _ => r

/-- no slot holds a caught exception -/
def noX : Env → Bool
  | [] => true
  | some (.ex, _) :: _ => false
  | _ :: r => noX r
/-- behind an except suite its name is gone -/
def unx (i : Nat) : Out → Out
  | .nx env => if noX (env.set i none) = true then .nx (env.set i none) else .no
  | .brk env => if noX (env.set i none) = true then .brk (env.set i none) else .no
  | .ct env => if noX (env.set i none) = true then .ct (env.set i none) else .no
  | .ret o d => .ret o d
  | _ => .no
/-- behind an except suite without a name -/
def und : Out → Out
  | .nx env => if noX env = true then .nx env else .no
  | .brk env => if noX env = true then .brk env else .no
  | .ct env => if noX env = true then .ct env else .no
  | .ret o d => .ret o d
  | _ => .no
/-- x.append(y.pop(k)) -/
def popA (x y : Nat) (k : D) (env : Env) : Out := match k with
  | .int j => (match own1 y env with
    | some (_, l) => (match L2.ixN l.length j with
      | some n => (match l[n]? with
        | some d => (match own1 x (env.set y (some (.o1, .lst (l.eraseIdx n)))) with
          | some (_, m) => if decide (m.length < szL) && absLe j 1000000000 then .nx ((env.set y (some (.o1, .lst (l.eraseIdx n)))).set x (some (.o1, .lst (m ++ [d])))) else .no
          | none => .no)
        | none => .no)
      | none => .no)
    | none => .no)
  | _ => .no
mutual
def exS (g : G) (C : Cal) : S → Env → Out
  | .pass, env => .nx env
  | .doc, env => .nx env
  | .asg i e, env => (ev g C e env).to (rd e) env fun v => .nx ((aft e v env).set i (some v))
  | .tup is e, env => (ev g C e env).to (rd e) env fun v => match bindT (.tp is) v.2 (aft e (.sh, v.2) env) with
    | some env' => .nx env'
    | none => .no
  | .asgix x i e, env => (ev g C e env).to (rd e) env fun v => if isL x (aft e v env) = true then (ev g C i (aft e v env)).to (rd i) (aft e v env) fun k => (match k.2 with
    | .int j => (match own1 x (frz [(x, false)] (aft e v env)) with
      | some (_, l) => (match L2.ixN l.length j with
        | some n => .nx ((frz [(x, false)] (aft e v env)).set x (some (.o1, .lst (l.set n v.2))))
        | none => .no)
      | none => .no)
    | _ => .no) else .no
  | .dput x i e, env => (ev g C e env).to (rd e) env fun v => if isDc x (aft e v env) = true then (ev g C i (aft e v env)).to (rd i) (aft e v env) fun k => (match keyK k.2 with
    | some q => (match ownD x (aft e v env) with
      | some (ks, vs) => if (decide (ks.length < szL) && !isTk ks) = true then .nx ((aft e v env).set x (some (.o1, .dct (putKD ks vs q k.2 v.2).1 (putKD ks vs q k.2 v.2).2))) else .no
      | none => .no)
    | none => .no) else .no
  | .par i j a b, env => (evs g C (.cons a (.cons b .nil)) env).to (rds (.cons a (.cons b .nil))) env fun l => (match l with
    | [v, u] => if (!hasL v.2 && !hasL u.2) = true then .nx ((env.set i (some (.sh, v.2))).set j (some (.sh, u.2))) else .no
    | _ => .no)
  | .app x e, env => if isL x env = true then (ev g C e env).to (rd e) env fun v => match own1 x (frz [(x, false)] (aft e v env)) with
    | some (_, l) => if decide (l.length < szL) then .nx ((frz [(x, false)] (aft e v env)).set x (some (.o1, .lst (l ++ [v.2])))) else .no
    | none => .no else .no
  | .appat x i e, env => match own2 x env with
    | some l => (ev g C i env).to (rd i) env fun k => (match k.2 with
      | .int j => (match L2.ixN l.length j with
        | some n => (match l[n]? with
          | some (.lst m) => (ev g C e env).to (rd e) env fun v => (match own2 x (aft e v env) with
            | some l2 => (match l2[n]? with
              | some (.lst m2) => if decide (m2.length < szL) then .nx ((aft e v env).set x (some (.o2, .lst (l2.set n (.lst (m2 ++ [v.2])))))) else .no
              | _ => .no)
            | none => .no)
          | _ => .no)
        | none => .no)
      | _ => .no)
    | none => .no
  | .rev x, env => (match own1 x (frz [(x, false)] env) with
    | some (_, l) => .nx ((frz [(x, false)] env).set x (some (.o1, .lst l.reverse)))
    | none => .no)
  | .popd x .none, env => (match own1 x env with
    | some (_, l) => if l.isEmpty = true then .no else .nx (env.set x (some (.o1, .lst l.dropLast)))
    | none => .no)
  | .appop x y (.some i), env => if (isL x env && isL y env) = true then (ev g C i env).to (rd i) env fun k => popA x y k.2 (frz [(x, false), (y, false)] (aft i k env)) else .no
  | .fld x f e, env => (ev g C e env).to (rd e) env fun v => match (aft e v env)[x]? with
    | some (some (.oi, .ob c ns vs)) => if decide (ns.length < 900) then .nx ((aft e v env).set x (some (.oi, .ob c (setF f v.2 ns vs).1 (setF f v.2 ns vs).2))) else .no
    | _ => .no
  | .ex e, env => (ev g C e env).to (rd e) env fun _ => .nx env
  | .ife c a b, env => (tst g C c env).to (rd c) env fun k => if k = true then exs g C a env else exs g C b env
  | .for_ tg it b, env => (items g C it env).to (rdi it) env fun xs =>
      forL (fun x env' => match bindT tg x env' with
        | some env2 => exs g C b env2
        | none => .no) xs.2 (aftI (rdi it) xs.1 env)
  | .while_ c b, env => whileL (rd c) (tst g C c) (exs g C b) wFuel env
  | .ret e, env => (retV e env (ev g C e env)).to (rd e) env fun v => .ret v.1 v.2
  | .retn, _ => .ret .sh .non
  | .brk, env => .brk env
  | .cont, env => .ct env
  | .raise_ c es, env => (evs g C es env).to (rds es) env fun l => match g.exf c with
    | some ns => if ns.length = l.length then .exc (frz (rds es) env) (.ob c ns (l.map (·.2))) else .no
    | none => .no
  | .try_ b (.cons c (some i) hb .nil), env => (match exs g C b env with
    | .exc env' (.ob k ns vs) => if ((g.exf k).isSome && (g.exf c).isSome && noX env') = true then (if g.sub k c = true then unx i (exs g C hb (env'.set i (some (.ex, .ob k ns vs)))) else .exc env' (.ob k ns vs)) else .no
    | .exc _ _ => .no
    | o => o)
  | .try_ b (.cons c none hb .nil), env => (match exs g C b env with
    | .exc env' (.ob k ns vs) => if ((g.exf k).isSome && (g.exf c).isSome && noX env') = true then (if g.sub k c = true then und (exs g C hb env') else .exc env' (.ob k ns vs)) else .no
    | .exc _ _ => .no
    | o => o)
  | _, _ => .no
def exs (g : G) (C : Cal) : Ss → Env → Out
  | .nil, env => .nx env
  | .cons s ss, env => match exS g C s env with
    | .nx env' => exs g C ss env'
    | o => o
end
/-- a def's run -/
def env0 (fd : FD) (ds : List D) : Env := ds.map (fun d => some (.sh, d)) ++ List.replicate (fd.ns - fd.np) none
def endR : Out → R OD
  | .nx _ => .ok (.sh, .non)
  | .ret o d => .ok (o, d)
  | .exc _ e => .exc e
  | _ => .no
def initName (c : Str) : Str := c ++ ⟨#[46, 95, 95, 105, 110, 105, 116, 95, 95]⟩
def endI : Out → R D
  | .nx (some (.oi, d) :: _) => .ok d
  | .exc _ e => .exc e
  | _ => .no
/-- a def that is called in an except suite, with the caught exception -/
def cal0 : Cal := ⟨fun _ _ => .no, fun _ _ => .no, false, fun _ _ => .no⟩
def hotR (g : G) (f : Str) (d : D) : R OD := match g.fn f with
  | some fd => if fd.np = 1 then endR (exs g cal0 fd.body (some (.ex, d) :: List.replicate (fd.ns - 1) none)) else .no
  | none => .no
def hotD (g : G) : Nat → Str → D → R OD
  | 0, _, _ => .no
  | _ + 1, f, d => (hotR g f d).tame
mutual
def callD (g : G) : Nat → Str → List D → R OD
  | 0, _, _ => .no
  | n + 1, f, ds => match g.fn f with
    | some fd => if ds.length = fd.np then endR (exs g ⟨callD g n, makeD g n, n != 0, hotD g n⟩ fd.body (env0 fd ds)) else .no
    | none => .no
def makeD (g : G) : Nat → Str → List D → R D
  | 0, _, _ => .no
  | 1, _, _ => .no
  | n + 2, c, ds => match g.fn (initName c) with
    | some fd => if ds.length + 1 = fd.np then endI (exs g ⟨callD g n, makeD g n, n != 0, hotD g n⟩ fd.body (some (.oi, .ob c [] []) :: (env0 fd (.non :: ds)).tail)) else .no
    | none => .no
end
def cal (g : G) (n : Nat) : Cal := ⟨callD g n, makeD g n, n != 0, hotD g n⟩
end S2

set_option maxHeartbeats 4000000
/-! S2aa: the table. -/
namespace S2
open PySem
structure Tb where
  fns : List (Str × FD)
  cons : List (Str × D)
  exs : List (Str × List Str × List Str)
  mths : List ((Str × Str) × Str)
  frs : List Str
  cls : List Str
  tops : List Str
  nfs : List Str
  hots : List Str := []
def Tb.g (t : Tb) : G where
  fn := fun x => t.fns.lookup x
  con := fun x => t.cons.lookup x
  exf := fun x => (t.exs.lookup x).map (·.1)
  sub := fun c d => match t.exs.lookup c with
    | some (_, up) => up.contains d
    | none => false
  mth := fun c m => t.mths.lookup (c, m)
  fr := fun x => t.frs.contains x
  cl := fun x => t.cls.contains x
  top := fun x => t.tops.contains x
  nf := fun x => t.nfs.contains x
  hf := fun x => t.hots.contains x
end S2

set_option maxHeartbeats 4000000
/-! S2ab: promises of defs that know that no repr is under way. -/
namespace S2
open PySem PySem.Spec PyProof.Rows L2

/-- no guarded built-in is under way -/
abbrev NoG (A : Around) : Prop := A.guards = some []
/-- room two steps within a built-in -/
abbrev Room2 (k : Nat) (A : Around) : Prop := Room k A.in1.in1
theorem Room2.out {k : Nat} {A : Around} (r : Room2 k A) : Room k A := ⟨r.hd, r.dp, by have := r.un; change A.units + 1 + 1 + 16 * k + 200 < cLine at this; omega⟩
theorem Room2.deeper {k : Nat} {A : Around} (r : Room (k + 1) A) (env : PySem.Env) : Room2 k (A.deeper env) :=
  ⟨(r.deeper env).hd, (r.deeper env).dp, by have := r.un; show A.units + 3 + 1 + 1 + 16 * k + 200 < _; omega⟩
structure FnG (P : Program) (wd : World) (K : PySem.W.Frag) (mg : Str → Option Value) (base : Heap) (C : CXT) (k : Nat) (fa : Addr) (fdat : FuncData) (ps : List Str) (pr : Sp) : Prop where
  len : ∀ xs H Q E, pr xs H Q E → xs.length = ps.length
  run : ∀ (A : Around) (out : List PySem.Env) (s : Shared) (H : Hp) (ar : Args) (us : List Value) (xs : List V) (Q : VK) (E : XK), Room k A → NoG A → Env0 P wd K mg base A out s H →
    BindsTo s fdat ar (ps.zip us) → Vals xs us → pr xs H Q E → codeAny (model P wd) A (.call (.ref fa) ar) (CR C out P wd H s Q E) s
section
variable {P : Program} {wd : World} {K : PySem.W.Frag} {mg : Str → Option Value} {base : Heap} {C : CXT}
theorem FnG.mono {j k : Nat} {fa : Addr} {fdat : FuncData} {ps : List Str} {pr : Sp} (F : FnG P wd K mg base C j fa fdat ps pr) (h : j ≤ k) : FnG P wd K mg base C k fa fdat ps pr :=
  ⟨F.len, fun A out s H ar us xs Q E room ng en0 bnd => F.run A out s H ar us xs Q E (room.mono h) ng en0 bnd⟩
/-- a def of the program, from its body -/
theorem fnG_of {k : Nat} {fa : Addr} {nm ql : Str} {pars : Arguments} {bd : List Stmt} {sc : Scope} {d1 d2 d3 d4 cd d5 d6 : Value} {an od : Option Addr} {sl : Array (Option Value)} {N ps : List Str} {pr : Sp}
    (hk : K.lookup fa = some ⟨d6, od, .func (PySem.W.fnOf nm ql pars bd sc d1 d2 d3 d4 an cd d5), sl⟩) (hc : PySem.W.codeIn K cd ql = true) (S : FnScope N ps sc) (hlen : ∀ xs H Q E, pr xs H Q E → xs.length = ps.length)
    (hb : ∀ (A : Around) (out : List PySem.Env) (s : Shared) (H : Hp) (xs : List V) (Q : VK) (E : XK), Room2 k (A.deeper (envOfC ql sc s.heap.objs.size fa cd)) → NoG A → pr xs H Q E →
      ∃ t, PSs (cxOf C P wd K mg base N ql sc fa cd A out s H E) bd t ∧ t { nx := fun _ H2 => Q .non H2, rt := Q } (start N xs) H) :
    FnG P wd K mg base C (k + 1) fa (PySem.W.fnOf nm ql pars bd sc d1 d2 d3 d4 an cd d5) ps pr := by
  refine ⟨hlen, fun A out s H ar us xs Q E room ng en0 bnd rel hpr => ?_⟩
  have leq := hlen _ _ _ _ hpr
  have old : ∀ b o, base.get? b = some o → s.heap.get? b = some o := fun b o q => (en0.bs b o q).1
  have inK : K.In s.heap := en0.mod.kin.keeps old
  have lim : s.heap.NoLimit := en0.mod.nolimit.keeps old
  refine codeAny_call_function room.depth (inK _ _ hk) rfl S.co S.gen rfl (PySem.W.codeRec_of inK hc) (bnd _ _ _ _ (wpAny_newFunctionEnv_cells S.kind (fun y my => ?_) fun ev he s1 inc => ?_))
  · obtain ⟨y1, y2⟩ := y
    exact (S.par y1 (List.of_mem_zip my).1).imp id fun q => ⟨q, PySem.W.cellsFrom_some _ _ _ (.inl q)⟩
  · subst he
    refine ⟨lim.keeps inc.toInCall.keep, codeAny_func ?_⟩
    obtain ⟨t, ht, tq⟩ := hb A out s H xs Q E (Room2.deeper room _) ng hpr
    refine wpAny_mono (ht.run [] s1 (start N xs) H _ (inv_start S room.hd en0 leq rel inc) tq) (fun fl s2 hs => ?_) fun _ _ hs => hs
    cases fl with
    | ret u => exact let ⟨v, _, H2, J, rv, q⟩ := hs; ⟨v, H2, J.os, J.bare, J.base, J.hok, rv, q⟩
    | next => exact let ⟨_, H2, J, q⟩ := hs; ⟨V.non, H2, J.os, J.bare, J.base, J.hok, rfl, q⟩
    | brk => exact let ⟨_, _, _, q⟩ := hs; q.elim
    | cont => exact let ⟨_, _, _, q⟩ := hs; q.elim
end
section
variable {X : Cx} {C : CXT} {k : Nat} {fa : Addr} {fdat : FuncData} {ps : List Str} {pr : Sp} {E : L2.St → XK}
theorem run_fnG {pins : List (Addr × Obj)} {σ : L2.St} {H : Hp} {s : Shared} {Q : VK} {us : List Value} {xs : List V} (F : FnG X.prog X.w X.K X.mg X.base C k fa fdat ps pr) (room : Room k X.A) (ng : NoG X.A) (bd : Binds X.K fdat ps []) (px : PassesAt C X σ (E σ))
    (I : Inv X pins σ H s) (rel : Vals xs us) (h : pr xs H Q (E σ)) : wpAny (model X.prog X.w) X.A (call (.ref fa) us) (EP X pins σ Q) X.xe s := by
  have leq : (us ++ []).length = ps.length := by rw [List.append_nil, ← rel.length]; exact F.len _ _ _ _ h
  have bnd := bd s us I.kIn leq
  rw [List.append_nil] at bnd
  refine wpAny_call (codeAny_mono (F.run X.A X.stack s H ⟨us, []⟩ us xs Q (E σ) room ng I.env0 bnd rel h) fun r s2 hq => ?_)
  match r, hq with
  | .error e, hq => exact px pins H s e s2 I hq
  | .ok (.ret u), hq => exact I.after hq
  | .ok .next, hq => exact hq.elim
  | .ok .brk, hq => exact hq.elim
  | .ok .cont, hq => exact hq.elim
def tCallG (pr : Sp) (E : L2.St → XK) (t : TA) : TE := fun σ H Q => t σ H fun xs H1 => pr xs H1 Q (E σ)
theorem pe_callG {x : Str} {p pos : Pos} {e : Expr} {es : List Expr} {t : TA} (F : FnG X.prog X.w X.K X.mg X.base C k fa fdat ps pr) (room : Room k X.A) (ng : NoG X.A) (gl : Gl X x) (mgx : X.mg x = some (.ref fa)) (kp : PySem.W.keepIn X.K (.ref fa) = true) (bd : Binds X.K fdat ps []) (px : ∀ σ, PassesAt C X σ (E σ))
    (ha : PA X (e :: es) t) (nd : (x == ("__debug__" : Str)) = false) (st : starEach (e :: es) X.env = (false, eval e X.env) :: starEach es X.env) (ns : (backTo pos (starEach es X.env)).any (·.1) = false) :
    PE X (.Call (.Name x p) (e :: es) [] pos) (tCallG pr E t) := ⟨fun pins s σ H Q I h =>
  wpAny_Call_Name_kw (ld_glob I gl mgx (PySem.W.callWith_K (h₀ := X.base) I.ok.mod.kin kp (thn (ha.run pos pins s σ H _ I h) fun us s1 ⟨xs, H1, I1, rel, q⟩ => ⟨I1.kIn, run_fnG F room ng bd (px σ) I1 rel q⟩) st ns) nd)⟩
end
/-- what a def promises that is called with the exception that is handled (p: its object) -/
abbrev SpH := Addr × Obj → List V → Hp → VK → Prop
structure FnHG (P : Program) (wd : World) (K : PySem.W.Frag) (mg : Str → Option Value) (base : Heap) (k : Nat) (fa : Addr) (fdat : FuncData) (ps : List Str) (pr : SpH) : Prop where
  len : ∀ p xs H Q, pr p xs H Q → xs.length = ps.length
  run : ∀ (A : Around) (out : List PySem.Env) (s : Shared) (H : Hp) (ar : Args) (us : List Value) (xs : List V) (Q : VK) (p : Addr × Obj), L2H.RoomH k A → NoG A → L2H.Hot1 A p → L2H.PinOk out H s p → Env0 P wd K mg base A out s H →
    BindsTo s fdat ar (ps.zip us) → Vals xs us → pr p xs H Q → codeAny (model P wd) A (.call (.ref fa) ar) (CR (L2N.CX P wd) out P wd H s Q fun _ _ _ => False) s
theorem mark_same {A : Around} {a : Addr} (h : A.handled = some (.ref a)) : A.mark (some (.ref a)) = A := by
  obtain ⟨hd, d, fr, gs, u⟩ := A
  cases (show hd = some (.ref a) from h)
  rfl
theorem fnHG_of {P : Program} {wd : World} {K : PySem.W.Frag} {mg : Str → Option Value} {base : Heap} {k : Nat} {fa : Addr} {nm ql : Str} {pars : Arguments} {bd : List Stmt} {sc : Scope} {d1 d2 d3 d4 cd d5 d6 : Value} {an od : Option Addr} {sl : Array (Option Value)} {N ps : List Str} {pr : SpH}
    (hk : K.lookup fa = some ⟨d6, od, .func (PySem.W.fnOf nm ql pars bd sc d1 d2 d3 d4 an cd d5), sl⟩) (hc : PySem.W.codeIn K cd ql = true) (S : FnScope N ps sc) (hlen : ∀ p xs H Q, pr p xs H Q → xs.length = ps.length)
    (hb : ∀ (A : Around) (out : List PySem.Env) (s : Shared) (H : Hp) (xs : List V) (Q : VK) (p : Addr × Obj), L2H.RoomH k (A.deeper (envOfC ql sc s.heap.objs.size fa cd)) → NoG A → L2H.Hot1 A p → pr p xs H Q →
      ∃ t, PSs ((L2H.cxH (L2N.CX P wd) P wd K mg base N ql sc fa cd A out s H (fun _ _ _ => False) p).suite p.1 [p]) bd t ∧ t { nx := fun _ H2 => Q .non H2, rt := Q } (start N xs) H) :
    FnHG P wd K mg base (k + 1) fa (PySem.W.fnOf nm ql pars bd sc d1 d2 d3 d4 an cd d5) ps pr := by
  refine ⟨hlen, fun A out s H ar us xs Q p room ng hot pin en0 bnd rel hpr => ?_⟩
  have leq := hlen _ _ _ _ hpr
  have old : ∀ b o, base.get? b = some o → s.heap.get? b = some o := fun b o q => (en0.bs b o q).1
  have inK : K.In s.heap := en0.mod.kin.keeps old
  have lim : s.heap.NoLimit := en0.mod.nolimit.keeps old
  refine codeAny_call_function room.depth (inK _ _ hk) rfl S.co S.gen rfl (PySem.W.codeRec_of inK hc) (bnd _ _ _ _ (wpAny_newFunctionEnv_cells S.kind (fun y my => ?_) fun ev he s1 inc => ?_))
  · obtain ⟨y1, y2⟩ := y
    exact (S.par y1 (List.of_mem_zip my).1).imp id fun q => ⟨q, PySem.W.cellsFrom_some _ _ _ (.inl q)⟩
  · subst he
    refine ⟨lim.keeps inc.toInCall.keep, codeAny_func ?_⟩
    obtain ⟨t, ht, tq⟩ := hb A out s H xs Q p (room.deeper _) ng hot hpr
    have em : (A.deeper (envOfC ql sc s.heap.objs.size fa cd)).mark (some (.ref p.1)) = A.deeper (envOfC ql sc s.heap.objs.size fa cd) := mark_same hot.1
    have I0 : Inv (L2H.cxH (L2N.CX P wd) P wd K mg base N ql sc fa cd A out s H (fun _ _ _ => False) p) [] (start N xs) H s1 := L2H.inv_startH S pin en0 leq rel inc
    have I1 := I0.wish fun _ _ => False
    have I2 : Inv ((L2H.cxH (L2N.CX P wd) P wd K mg base N ql sc fa cd A out s H (fun _ _ _ => False) p).suite p.1 [p]) [] (start N xs) H s1 := by
      have e2 : (L2H.cxH (L2N.CX P wd) P wd K mg base N ql sc fa cd A out s H (fun _ _ _ => False) p).suite p.1 [p] = (L2H.cxH (L2N.CX P wd) P wd K mg base N ql sc fa cd A out s H (fun _ _ _ => False) p).wish fun _ _ => False := by
        show ({ L2H.cxH (L2N.CX P wd) P wd K mg base N ql sc fa cd A out s H (fun _ _ _ => False) p with A := (A.deeper (envOfC ql sc s.heap.objs.size fa cd)).mark (some (.ref p.1)), calm := false, pn := [p], xe := fun _ _ => False } : Cx) = _
        rw [em]
        rfl
      rw [e2]
      exact I1
    have run := ht.run [] s1 (start N xs) H _ I2 tq
    have run : wpAny (model P wd) (A.deeper (envOfC ql sc s.heap.objs.size fa cd)) (execs bd (envOfC ql sc s.heap.objs.size fa cd)) (SP ((L2H.cxH (L2N.CX P wd) P wd K mg base N ql sc fa cd A out s H (fun _ _ _ => False) p).suite p.1 [p]) [] { nx := fun _ H2 => Q .non H2, rt := Q }) (fun _ _ => False) s1 := by
      rw [← em]
      exact run
    refine wpAny_mono run (fun fl s2 hs => ?_) fun _ _ hs => hs.elim
    cases fl with
    | ret u => exact let ⟨v, _, H2, J, rv, q⟩ := hs; ⟨v, H2, J.os, J.bare, J.base, J.hok, rv, q⟩
    | next => exact let ⟨_, H2, J, q⟩ := hs; ⟨V.non, H2, J.os, J.bare, J.base, J.hok, rfl, q⟩
    | brk => exact let ⟨_, _, _, q⟩ := hs; q.elim
    | cont => exact let ⟨_, _, _, q⟩ := hs; q.elim
/-- f(e) in an except suite -/
theorem pe_callHG {X : Cx} {k : Nat} {fa : Addr} {fdat : FuncData} {ps : List Str} {pr : SpH} {x : Str} {pos q : Pos} {e : Expr} {t : TE} {p : Addr × Obj} (F : FnHG X.prog X.w X.K X.mg X.base k fa fdat ps pr) (room : L2H.RoomH k X.A) (ng : NoG X.A) (hot : L2H.Hot1 X.A p) (hp : p ∈ X.pn) (gl : Gl X x) (mgx : X.mg x = some (.ref fa)) (kp : PySem.W.keepIn X.K (.ref fa) = true) (bd : Binds X.K fdat ps [])
    (he : PE X e t) (nd : (x == ("__debug__" : Str)) = false) (st : starEach [e] X.env = (false, eval e X.env) :: starEach [] X.env) :
    PE X (.Call (.Name x q) [e] [] pos) (fun σ H Q => t σ H fun y H1 => pr p [y] H1 Q) := ⟨fun pins s σ H Q I h => by
  refine wpAny_Call_Name_kw (ld_glob I gl mgx (PySem.W.callWith_K (h₀ := X.base) I.ok.mod.kin kp (thn ((pa_cons he pa_nil st).run pos pins s σ H (fun xs H1 => pr p xs H1 Q) I h) fun us s1 ⟨xs, H1, I1, rel, q⟩ => ⟨I1.kIn, ?_⟩) st (by rfl)) nd)
  have leq : us.length = ps.length := by rw [← rel.length]; exact F.len _ _ _ _ q
  have bnd := bd s1 us I1.kIn (by rw [List.append_nil]; exact leq)
  rw [List.append_nil] at bnd
  obtain ⟨P1, P2, P3, P4, P5⟩ := I1.pin p (List.mem_append_left _ hp)
  refine wpAny_call (codeAny_mono (F.run X.A X.stack s1 H1 ⟨us, []⟩ us xs Q p room ng hot ⟨P1, P2, fun z => (List.mem_cons.mp (I1.stkSub p.1 z)).elim P3 P4, P5⟩ I1.env0 bnd rel q) fun r s2 hq => ?_)
  match r, hq with
  | .error e, ⟨_, _, _, _, _, _, _, _, _, _, _, _, f⟩ => exact f.elim
  | .ok (.ret u), hq => exact I1.after hq
  | .ok .next, hq => exact hq.elim
  | .ok .brk, hq => exact hq.elim
  | .ok .cont, hq => exact hq.elim⟩
section
variable {P : Program} {wd : World} {K : PySem.W.Frag} {mg mb : Str → Option Value} {C : CXT}
/-- the script, as it is handed in -/
def scrH (a : Addr) (o : Obj) (ns : List Int) : Hp := fun b => if b = a then some (.frz o (.lst (ns.map V.int))) else none
/-- the law's own call -/
theorem law_callG {k : Nat} {fa a : Addr} {fdat : FuncData} {x : Str} {pr : Sp} {s₁ : Shared} {vs : List Value} {ns : List Int}
    (kin : K.In s₁.heap) (gns : s₁.heap.Ns mainGlobals mg) (bns : s₁.heap.Ns builtinsNs mb) (bbt : ∀ x : Str, x ≠ "__name__" → mb x = bootBuiltins x) (lim : s₁.heap.NoLimit) (gens : s₁.gens = #[])
    (obj : s₁.heap.get? a = some { cls := .type "list", data := .seq vs.toArray }) (intsA : IntsAre vs ns) (small : ns.length ≤ sizeLine) (room : Room k callerA)
    (F : ∀ base : Heap, K.In base → base.Ns mainGlobals mg → FnG P wd K mg base C k fa fdat [x] pr) (bnd : ∀ (s : Shared) (u : Value), BindsTo s fdat ⟨[u], []⟩ [(x, u)])
    (hpr : ∀ H : Hp, Only H → SqL K H a (ns.map V.int) → pr [.ref a] H (fun v _ => v = .bl true) fun _ _ _ => False)
    (noC : ∀ H e s', C [] H s₁ (fun _ _ _ => False) e s' → False) :
    codeAny (model P wd) callerA (.call (.ref fa) ⟨[.ref a], []⟩) (fun r s' => r = .ok (.ret (.bool true)) ∧ OldK s₁.heap s'.heap ∧ s'.os = s₁.os ∧ AllBare s'.gens) s₁ := by
  have rel := vals_ints intsA
  have lenV := intsA.length
  have main : ∀ H : Hp, Only H → SqL K H a (ns.map V.int) → HOk P wd H s₁.heap → (∀ b, H b ≠ none → b = a ∧ K.lookup a = none) →
      codeAny (model P wd) callerA (.call (.ref fa) ⟨[.ref a], []⟩) (fun r s' => r = .ok (.ret (.bool true)) ∧ OldK s₁.heap s'.heap ∧ s'.os = s₁.os ∧ AllBare s'.gens) s₁ := fun H only sq hok just => by
    have stay : ∀ {b : Addr} {o : Obj}, s₁.heap.get? b = some o → b ≠ a → (hidT s₁.heap H).get? b = some o := fun {b o} q nb => hidT_get q (by
      cases z : H b with
      | none => rfl
      | some u => exact absurd (just b (by rw [z]; simp)).1 nb)
    have nsS : ∀ {b : Addr} {m : Str → Option Value}, s₁.heap.Ns b m → (hidT s₁.heap H).Ns b m := fun {b m} ⟨o, es, ep, q, d, r⟩ => ⟨o, es, ep, stay q (fun z => by
      subst z
      rw [obj] at q; cases q
      cases (show Data.seq vs.toArray _ = Data.dict es ep from d)), d, r⟩
    have kinS : K.In (hidT s₁.heap H) := fun b o q => hidT_get (kin b o q) (by
      cases z : H b with
      | none => rfl
      | some u =>
        obtain ⟨e1, e2⟩ := just b (by rw [z]; simp)
        subst e1
        rw [e2] at q; cases q)
    have md : Mod K mg (hidT s₁.heap H) := ⟨kinS, nsS gns, ⟨mb, nsS bns, bbt⟩, let ⟨mc, q1, q2⟩ := lim; ⟨mc, nsS q1, q2⟩⟩
    have en0 : Env0 P wd K mg (hidT s₁.heap H) callerA [] s₁ H := ⟨rfl, md, fun b o q => of_hidT q, Nat.le_of_eq (hidT_size _ _), trivial, fun b hb => (nomatch (show b ∈ ([] : List Addr) from hb)), hok, .of_eq gens⟩
    refine codeAny_mono ((F _ kinS (nsS gns)).run callerA [] s₁ H ⟨[.ref a], []⟩ [.ref a] [.ref a] _ _ room rfl en0 (bnd s₁ (.ref a)) (.cons rfl .nil) (hpr H only sq)) fun r s' h => ?_
    match r, h with
    | .error e, h => exact (noC H e s' h).elim
    | .ok .next, h => exact h.elim
    | .ok .brk, h => exact h.elim
    | .ok .cont, h => exact h.elim
    | .ok (.ret u), h =>
      obtain ⟨v, H', os, bare, un, hok', rv, q⟩ := h
      cases (show v = .bl true from q)
      cases (show u = Value.bool true from rv)
      refine ⟨rfl, OldK.of_keep fun b o e => ?_, os, bare⟩
      have nob : b ∉ ([] : List Addr) := fun z => nomatch z
      rcases only b with z | ⟨ob, ys, z⟩
      · exact un.keep b o e z nob nob
      · have e1 := (hok b _ z).1
        rw [e] at e1
        cases e1
        exact (hok' b _ (un.frzs b _ _ z)).1
  cases hk : K.lookup a with
  | some o =>
    have q := kin a o hk
    rw [obj] at q
    cases q
    exact main (fun _ => none) (fun _ => .inl rfl) (.inr ⟨_, vs.toArray, _, hk, rfl, rfl, rfl, by rw [List.size_toArray, lenV]; exact small, by simpa using rel⟩) (fun b u z => nomatch (show (none : Option HO) = some u from z)) fun b z => (z rfl).elim
  | none =>
    have at_ : scrH a { cls := .type "list", data := .seq vs.toArray } ns a = some (.frz { cls := .type "list", data := .seq vs.toArray } (.lst (ns.map V.int))) := if_pos rfl
    have off : ∀ b, b ≠ a → scrH a { cls := .type "list", data := .seq vs.toArray } ns b = none := fun b nb => if_neg nb
    refine main (scrH a { cls := .type "list", data := .seq vs.toArray } ns) (fun b => ?_) (.inl (.inr ⟨_, at_⟩)) (fun b u z => ?_) fun b z => ⟨Classical.byContradiction fun nb => z (off b nb), hk⟩
    · by_cases nb : b = a
      · subst nb; exact .inr ⟨_, _, at_⟩
      · exact .inl (off b nb)
    · by_cases nb : b = a
      · subst nb
        rw [at_] at z
        cases z
        exact ⟨obj, by rw [List.length_map]; exact small, vs, _, rel, obj⟩
      · rw [off b nb] at z; cases z
/-- the law's walk -/
theorem walk_ofG {l : PySem.W.OpenLaw} {n k : Nat} {q : Program} {loose : List Str} {XP : (Str → Option Value) → Heap → Prop} {YP : World → Heap → Prop} {d : DefRec} {C : CXT} {x : Str}
    (most : l.most = some n) (small : n ≤ sizeLine) (nodf : d.params.defaults = []) (room : Room k callerA)
    (F : ∀ (wd : World) (mg : Str → Option Value) (fa : Addr) (h : Heap), YP wd h → h.Ns mainGlobals mg → mg d.name = some (.ref fa) →
      ∃ (K : PySem.W.Frag) (fdat : FuncData) (pr : Sp), K.In h ∧ (∀ (s : Shared) (u : Value), BindsTo s fdat ⟨[u], []⟩ [(x, u)]) ∧
        (∀ (H : Hp) (a : Addr) (ns : List Int), ns.length ≤ n → Only H → SqL K H a (ns.map V.int) → pr [.ref a] H (fun v _ => v = .bl true) fun _ _ _ => False) ∧
        ∀ base : Heap, K.In base → base.Ns mainGlobals mg → FnG l.prog wd K mg base C k fa fdat [x] pr)
    (noC : ∀ (H : Hp) (s : Shared) (e : Value) (s' : Shared), C [] H s (fun _ _ _ => False) e s' → False) :
    PySem.W.WalkO q loose XP YP l.row.toRowW d [] (fun f vs => PySem.call f vs) := by
  refine Att.attach_call most nodf fun wd s₀ s₁ mg mb fa o pm cd doc a vs ns Gr Y _ _ _ mgd obj intsA len gens => ?_
  obtain ⟨K, fdat, pr, kin, bnd, hpr, hF⟩ := F wd mg fa _ Y Gr.T.g mgd
  exact law_callG kin Gr.T.g Gr.T.b Gr.T.builtins Gr.T.nolimit gens obj intsA (Nat.le_trans len small) room hF bnd (fun H only sq => hpr H a ns len only sq) fun H e s' => noC H s₁ e s'
end
end S2

set_option maxHeartbeats 4000000
/-! S2b: what of the model's heap a datum is. -/
namespace S2
open PySem PySem.Spec PyProof.Rows L2

def KL (K : PySem.W.Frag) (a : Addr) (xs : List V) : Prop :=
  ∃ (o : Obj) (its : Array Value) (n : Nat), K.lookup a = some o ∧ o.cls = .type "list" ∧ o.dict = none ∧ o.data = .seq its n ∧ its.size ≤ sizeLine ∧ Vals xs its.toList
def keyD : Key → D
  | .inl i => .int i
  | .inr x => .str x
/-- the exception that an except suite holds -/
structure XI where
  a : Addr
  cls : Value
  dd : Option Addr
structure Wr where
  K : PySem.W.Frag
  ca : Str → Addr
  cl : Str → Bool
  xi : XI := ⟨0, .none, none⟩
/-- with that exception held -/
def Wr.at_ (w : Wr) (z : XI) : Wr := ⟨w.K, w.ca, w.cl, z⟩
mutual
/-- v stands for the datum; no list, dict or instance of it is one of O's -/
def Rep (w : Wr) (H : Hp) (O : Addr → Prop) : D → V → Prop
  | .non, v => v = .non
  | .bl b, v => v = .bl b
  | .int i, v => v = .int i
  | .str s, v => v = .str s
  | .scr is, v => ∃ a, v = .ref a ∧ ((∃ o, H a = some (.frz o (.lst (is.map V.int)))) ∨ KL w.K a (is.map V.int))
  | .tup l, v => ∃ a vs, v = .ref a ∧ SqT w.K H a vs ∧ Reps w H O l vs
  | .lst l, v => ∃ a vs, v = .ref a ∧ H a = some (.lst vs) ∧ ¬ O a ∧ Reps w H O l vs
  | .dct ks ds, v => ∃ a, v = .ref a ∧ ¬ O a ∧
      ((∃ kvs : List (Key × V), H a = some (.dK kvs) ∧ ks = kvs.map (fun p => keyD p.1) ∧ Reps w H O ds (kvs.map (·.2))) ∨
       (∃ kvs : List (List Key × V), H a = some (.dT kvs) ∧ ks = .non :: kvs.map (fun p => .tup (p.1.map keyD)) ∧ Reps w H O ds (kvs.map (·.2))))
  | .ob c ns ds, v => ∃ a dx fs, v = .ref a ∧ H a = some (.ins (w.ca c) dx fs) ∧ ¬ O a ∧ (w.cl c = true ∧ fs.map (·.1) = ns) ∧ Reps w H O ds (fs.map (·.2))
def Reps (w : Wr) (H : Hp) (O : Addr → Prop) : List D → List V → Prop
  | [], vs => vs = []
  | d :: l, vs => ∃ v r, vs = v :: r ∧ Rep w H O d v ∧ Reps w H O l r
end

/-- the same, the list or the dict itself left out of what is kept off -/
def RepK (w : Wr) (H : Hp) (O : Addr → Prop) : D → V → Prop
  | .lst l, v => ∃ a vs, v = .ref a ∧ H a = some (.lst vs) ∧ Reps w H O l vs
  | .dct ks ds, v => ∃ a, v = .ref a ∧
      ((∃ kvs : List (Key × V), H a = some (.dK kvs) ∧ ks = kvs.map (fun p => keyD p.1) ∧ Reps w H O ds (kvs.map (·.2))) ∨
       (∃ kvs : List (List Key × V), H a = some (.dT kvs) ∧ ks = .non :: kvs.map (fun p => .tup (p.1.map keyD)) ∧ Reps w H O ds (kvs.map (·.2))))
  | .ob c ns ds, v => ∃ a dx fs, v = .ref a ∧ H a = some (.ins (w.ca c) dx fs) ∧ (w.cl c = true ∧ fs.map (·.1) = ns) ∧ Reps w H O ds (fs.map (·.2))
  | d, v => Rep w H O d v
section
variable {w : Wr} {H H' : Hp} {O O' : Addr → Prop}
theorem Rep.k : ∀ {d : D} {v : V}, Rep w H O d v → RepK w H O d v
  | .non, _, h => h
  | .bl _, _, h => h
  | .int _, _, h => h
  | .str _, _, h => h
  | .scr _, _, h => h
  | .tup _, _, h => h
  | .lst _, _, ⟨a, vs, e, h, _, r⟩ => ⟨a, vs, e, h, r⟩
  | .dct _ _, _, ⟨a, e, _, h⟩ => ⟨a, e, h⟩
  | .ob _ _ _, _, ⟨a, dx, fs, e, h, _, k, r⟩ => ⟨a, dx, fs, e, h, k, r⟩
theorem Rd.same {a : Addr} {u : HO} (s : Same H H') (r : Rd H a u) : Rd H' a u := by
  rcases r with r | ⟨o, r⟩
  · exact .inl (s _ _ r)
  · exact .inr ⟨o, s _ _ r⟩
theorem SqT.same {K : PySem.W.Frag} {a : Addr} {xs : List V} (s : Same H H') (h : SqT K H a xs) : SqT K H' a xs := by
  rcases h with h | h
  · exact .inl (Rd.same s h)
  · exact .inr h
mutual
theorem Rep.same (s : Same H H') : ∀ (d : D) (v : V), Rep w H O d v → Rep w H' O d v
  | .non, _, h => h
  | .bl _, _, h => h
  | .int _, _, h => h
  | .str _, _, h => h
  | .scr _, _, ⟨a, e, h⟩ => ⟨a, e, h.imp (fun ⟨o, q⟩ => ⟨o, s _ _ q⟩) id⟩
  | .tup l, _, ⟨a, vs, e, h, r⟩ => ⟨a, vs, e, SqT.same s h, Reps.same s l vs r⟩
  | .lst l, _, ⟨a, vs, e, h, n, r⟩ => ⟨a, vs, e, s _ _ h, n, Reps.same s l vs r⟩
  | .dct _ ds, _, ⟨a, e, n, h⟩ => ⟨a, e, n, h.imp (fun ⟨kvs, q, k, r⟩ => ⟨kvs, s _ _ q, k, Reps.same s ds _ r⟩) (fun ⟨kvs, q, k, r⟩ => ⟨kvs, s _ _ q, k, Reps.same s ds _ r⟩)⟩
  | .ob _ _ ds, _, ⟨a, dx, fs, e, h, n, k, r⟩ => ⟨a, dx, fs, e, s _ _ h, n, k, Reps.same s ds _ r⟩
theorem Reps.same (s : Same H H') : ∀ (l : List D) (vs : List V), Reps w H O l vs → Reps w H' O l vs
  | [], _, h => h
  | d :: l, _, ⟨v, r, e, h, hr⟩ => ⟨v, r, e, Rep.same s d v h, Reps.same s l r hr⟩
end
theorem RepK.same (s : Same H H') : ∀ (d : D) (v : V), RepK w H O d v → RepK w H' O d v
  | .non, _, h => h
  | .bl _, _, h => h
  | .int _, _, h => h
  | .str _, _, h => h
  | .scr l, v, h => Rep.same (O := O) s (.scr l) v h
  | .tup l, v, h => Rep.same s (.tup l) v h
  | .lst l, _, ⟨a, vs, e, h, r⟩ => ⟨a, vs, e, s _ _ h, Reps.same s l vs r⟩
  | .dct _ ds, _, ⟨a, e, h⟩ => ⟨a, e, h.imp (fun ⟨kvs, q, k, r⟩ => ⟨kvs, s _ _ q, k, Reps.same s ds _ r⟩) (fun ⟨kvs, q, k, r⟩ => ⟨kvs, s _ _ q, k, Reps.same s ds _ r⟩)⟩
  | .ob _ _ ds, _, ⟨a, dx, fs, e, h, k, r⟩ => ⟨a, dx, fs, e, s _ _ h, k, Reps.same s ds _ r⟩
mutual
theorem Rep.mono (s : ∀ a, O' a → O a) : ∀ (d : D) (v : V), Rep w H O d v → Rep w H O' d v
  | .non, _, h => h
  | .bl _, _, h => h
  | .int _, _, h => h
  | .str _, _, h => h
  | .scr _, _, h => h
  | .tup l, _, ⟨a, vs, e, h, r⟩ => ⟨a, vs, e, h, Reps.mono s l vs r⟩
  | .lst l, _, ⟨a, vs, e, h, n, r⟩ => ⟨a, vs, e, h, fun z => n (s _ z), Reps.mono s l vs r⟩
  | .dct _ ds, _, ⟨a, e, n, h⟩ => ⟨a, e, fun z => n (s _ z), h.imp (fun ⟨kvs, q, k, r⟩ => ⟨kvs, q, k, Reps.mono s ds _ r⟩) (fun ⟨kvs, q, k, r⟩ => ⟨kvs, q, k, Reps.mono s ds _ r⟩)⟩
  | .ob _ _ ds, _, ⟨a, dx, fs, e, h, n, k, r⟩ => ⟨a, dx, fs, e, h, fun z => n (s _ z), k, Reps.mono s ds _ r⟩
theorem Reps.mono (s : ∀ a, O' a → O a) : ∀ (l : List D) (vs : List V), Reps w H O l vs → Reps w H O' l vs
  | [], _, h => h
  | d :: l, _, ⟨v, r, e, h, hr⟩ => ⟨v, r, e, Rep.mono s d v h, Reps.mono s l r hr⟩
end
/-- a list or a dict stands there -/
def IsLD : Option HO → Prop
  | some (.lst _) => True
  | some (.dK _) => True
  | some (.dT _) => True
  | _ => False
mutual
theorem Rep.up (s : ∀ a, O' a → O a ∨ IsLD (H a)) : ∀ (d : D) (v : V), hasL d = false → Rep w H O d v → Rep w H O' d v
  | .non, _, _, h => h
  | .bl _, _, _, h => h
  | .int _, _, _, h => h
  | .str _, _, _, h => h
  | .scr _, _, _, h => h
  | .tup l, _, z, ⟨a, vs, e, h, r⟩ => ⟨a, vs, e, h, Reps.up s l vs z r⟩
  | .lst l, _, z, _ => Bool.noConfusion z
  | .dct _ ds, _, z, _ => Bool.noConfusion z
  | .ob _ _ ds, _, z, ⟨a, dx, fs, e, h, n, k, r⟩ => ⟨a, dx, fs, e, h, fun q => (s _ q).elim n (fun y => by rw [h] at y; exact y), k, Reps.up s ds _ z r⟩
theorem Reps.up (s : ∀ a, O' a → O a ∨ IsLD (H a)) : ∀ (l : List D) (vs : List V), hasLs l = false → Reps w H O l vs → Reps w H O' l vs
  | [], _, _, h => h
  | d :: l, _, z, ⟨v, r, e, h, hr⟩ => by
    have z1 : hasL d = false ∧ hasLs l = false := by
      have z' : (hasL d || hasLs l) = false := z
      exact Bool.or_eq_false_iff.mp z'
    exact ⟨v, r, e, Rep.up s d v z1.1 h, Reps.up s l r z1.2 hr⟩
end
/-- an object of O's is written -/
theorem nep {α : Type} {f : Addr → α} {a p : Addr} {x : α} (hx : f a = x) (hp : f p ≠ x) : a ≠ p := fun e => hp (by rw [← e]; exact hx)
theorem neO {O : Addr → Prop} {a p : Addr} (n : ¬ O a) (op : O p) : a ≠ p := fun e => n (by rw [e]; exact op)
theorem Rd.write {a p : Addr} {u o : HO} (hp : H p ≠ some u) (hf : ∀ ob, H p ≠ some (.frz ob u)) (r : Rd H a u) : Rd (upd H p o) a u := by
  rcases r with r | ⟨ob, r⟩
  · exact .inl (by rw [upd_ne (nep r hp)]; exact r)
  · exact .inr ⟨ob, by rw [upd_ne (nep r (hf ob))]; exact r⟩
def Wrt (x : Option HO) : Prop := Mut x
theorem Mut.notTup {x : Option HO} (m : Mut x) (xs : List V) : x ≠ some (.tup xs) := by
  intro e; subst e; exact m
theorem Mut.notFrz {x : Option HO} (m : Mut x) (ob : Obj) (u : HO) : x ≠ some (.frz ob u) := by
  intro e; subst e; exact m
mutual
theorem Rep.write {p : Addr} {o : HO} (op : O p) (m : Mut (H p)) : ∀ (d : D) (v : V), Rep w H O d v → Rep w (upd H p o) O d v
  | .non, _, h => h
  | .bl _, _, h => h
  | .int _, _, h => h
  | .str _, _, h => h
  | .scr _, _, ⟨a, e, h⟩ => ⟨a, e, h.imp (fun ⟨ob, q⟩ => ⟨ob, by rw [upd_ne (nep q (Mut.notFrz m _ _))]; exact q⟩) id⟩
  | .tup l, _, ⟨a, vs, e, h, r⟩ => ⟨a, vs, e, h.imp (fun q => Rd.write (Mut.notTup m _) (fun ob => Mut.notFrz m ob _) q) id, Reps.write op m l vs r⟩
  | .lst l, _, ⟨a, vs, e, h, n, r⟩ => ⟨a, vs, e, by rw [upd_ne (neO n op)]; exact h, n, Reps.write op m l vs r⟩
  | .dct _ ds, _, ⟨a, e, n, h⟩ => ⟨a, e, n, h.imp (fun ⟨kvs, q, k, r⟩ => ⟨kvs, by rw [upd_ne (neO n op)]; exact q, k, Reps.write op m ds _ r⟩) (fun ⟨kvs, q, k, r⟩ => ⟨kvs, by rw [upd_ne (neO n op)]; exact q, k, Reps.write op m ds _ r⟩)⟩
  | .ob _ _ ds, _, ⟨a, dx, fs, e, h, n, k, r⟩ => ⟨a, dx, fs, e, by rw [upd_ne (neO n op)]; exact h, n, k, Reps.write op m ds _ r⟩
theorem Reps.write {p : Addr} {o : HO} (op : O p) (m : Mut (H p)) : ∀ (l : List D) (vs : List V), Reps w H O l vs → Reps w (upd H p o) O l vs
  | [], _, h => h
  | d :: l, _, ⟨v, r, e, h, hr⟩ => ⟨v, r, e, Rep.write op m d v h, Reps.write op m l r hr⟩
end

mutual
/-- more is kept off: what is not there yet -/
theorem Rep.wide (s : ∀ a, O' a → O a ∨ H a = none) : ∀ (d : D) (v : V), Rep w H O d v → Rep w H O' d v
  | .non, _, h => h
  | .bl _, _, h => h
  | .int _, _, h => h
  | .str _, _, h => h
  | .scr _, _, h => h
  | .tup l, _, ⟨a, vs, e, h, r⟩ => ⟨a, vs, e, h, Reps.wide s l vs r⟩
  | .lst l, _, ⟨a, vs, e, h, n, r⟩ => ⟨a, vs, e, h, fun z => (s _ z).elim n (fun y => by rw [h] at y; cases y), Reps.wide s l vs r⟩
  | .dct _ ds, _, ⟨a, e, n, h⟩ => ⟨a, e, fun z => (s _ z).elim n (fun y => by rcases h with ⟨_, q, _⟩ | ⟨_, q, _⟩ <;> (rw [q] at y; cases y)), h.imp (fun ⟨kvs, q, k, r⟩ => ⟨kvs, q, k, Reps.wide s ds _ r⟩) (fun ⟨kvs, q, k, r⟩ => ⟨kvs, q, k, Reps.wide s ds _ r⟩)⟩
  | .ob _ _ ds, _, ⟨a, dx, fs, e, h, n, k, r⟩ => ⟨a, dx, fs, e, h, fun z => (s _ z).elim n (fun y => by rw [h] at y; cases y), k, Reps.wide s ds _ r⟩
theorem Reps.wide (s : ∀ a, O' a → O a ∨ H a = none) : ∀ (l : List D) (vs : List V), Reps w H O l vs → Reps w H O' l vs
  | [], _, h => h
  | d :: l, _, ⟨v, r, e, h, hr⟩ => ⟨v, r, e, Rep.wide s d v h, Reps.wide s l r hr⟩
end
theorem RepK.wide (s : ∀ a, O' a → O a ∨ H a = none) : ∀ (d : D) (v : V), RepK w H O d v → RepK w H O' d v
  | .non, _, h => h
  | .bl _, _, h => h
  | .int _, _, h => h
  | .str _, _, h => h
  | .scr l, v, h => h
  | .tup l, v, h => Rep.wide s (.tup l) v h
  | .lst l, _, ⟨a, vs, e, h, r⟩ => ⟨a, vs, e, h, Reps.wide s l vs r⟩
  | .dct _ ds, _, ⟨a, e, h⟩ => ⟨a, e, h.imp (fun ⟨kvs, q, k, r⟩ => ⟨kvs, q, k, Reps.wide s ds _ r⟩) (fun ⟨kvs, q, k, r⟩ => ⟨kvs, q, k, Reps.wide s ds _ r⟩)⟩
  | .ob _ _ ds, _, ⟨a, dx, fs, e, h, k, r⟩ => ⟨a, dx, fs, e, h, k, Reps.wide s ds _ r⟩
def isLD : D → Bool
  | .lst _ => true
  | .dct _ _ => true
  | _ => false
/-- lists, at qs -/
def Kids (w : Wr) (H : Hp) (O : Addr → Prop) : List D → List Addr → Prop
  | [], qs => qs = []
  | d :: l, qs => ∃ m q r us, d = .lst m ∧ qs = q :: r ∧ H q = some (.lst us) ∧ Reps w H O m us ∧ Kids w H O l r
theorem Kids.same (s : Same H H') : ∀ {l : List D} {qs : List Addr}, Kids w H O l qs → Kids w H' O l qs
  | [], _, h => h
  | _ :: _, _, ⟨m, q, r, us, e, e2, h, hr, t⟩ => ⟨m, q, r, us, e, e2, s _ _ h, Reps.same s _ _ hr, Kids.same s t⟩
theorem Kids.wide (s : ∀ a, O' a → O a ∨ H a = none) : ∀ {l : List D} {qs : List Addr}, Kids w H O l qs → Kids w H O' l qs
  | [], _, h => h
  | _ :: _, _, ⟨m, q, r, us, e, e2, h, hr, t⟩ => ⟨m, q, r, us, e, e2, h, Reps.wide s _ _ hr, Kids.wide s t⟩
theorem Kids.write {p : Addr} {o : HO} (op : O p) (mu : Mut (H p)) : ∀ {l : List D} {qs : List Addr}, p ∉ qs → Kids w H O l qs → Kids w (upd H p o) O l qs
  | [], _, _, h => h
  | _ :: _, _, n, ⟨m, q, r, us, e, e2, h, hr, t⟩ => ⟨m, q, r, us, e, e2, by rw [upd_ne (fun z => n (by rw [e2, z]; exact List.mem_cons_self))]; exact h, Reps.write op mu _ _ hr, Kids.write op mu (fun z => n (by rw [e2]; exact List.mem_cons_of_mem _ z)) t⟩
theorem Kids.there : ∀ {l : List D} {qs : List Addr}, Kids w H O l qs → ∀ q ∈ qs, ∃ us, H q = some (.lst us)
  | [], _, h, q, m => by rw [show _ = [] from h] at m; simp at m
  | _ :: _, _, ⟨_, q, r, us, _, e2, h, _, t⟩, q', m => by
    rw [e2] at m
    rcases List.mem_cons.mp m with z | z
    · exact ⟨us, by rw [z]; exact h⟩
    · exact Kids.there t q' z
theorem Kids.reps (n : ∀ q, O' q → O q) : ∀ {l : List D} {qs : List Addr}, (∀ q ∈ qs, ¬ O' q) → Kids w H O l qs → Reps w H O' l (qs.map V.ref)
  | [], _, _, h => by rw [show _ = [] from h]; rfl
  | _ :: _, _, k, ⟨m, q, r, us, e, e2, h, hr, t⟩ => by
    subst e; subst e2
    exact ⟨.ref q, r.map V.ref, rfl, ⟨q, us, rfl, h, k q List.mem_cons_self, Reps.mono n _ _ hr⟩, Kids.reps n (fun x z => k x (List.mem_cons_of_mem _ z)) t⟩
theorem Kids.append : ∀ {l m : List D} {qs rs : List Addr}, Kids w H O l qs → Kids w H O m rs → Kids w H O (l ++ m) (qs ++ rs)
  | [], _, _, _, h, k => by rw [show _ = [] from h]; exact k
  | _ :: _, m', _, rs, ⟨m, q, r, us, e, e2, h, hr, t⟩, k => ⟨m, q, r ++ rs, us, e, by rw [e2]; rfl, h, hr, Kids.append t k⟩
theorem Reps.length : ∀ {l : List D} {vs : List V}, Reps w H O l vs → l.length = vs.length
  | [], _, h => by rw [show _ = [] from h]; rfl
  | _ :: _, _, ⟨_, _, e, _, hr⟩ => by rw [e, List.length_cons, List.length_cons, Reps.length hr]
theorem Reps.get : ∀ {l : List D} {vs : List V} {i : Nat} {d : D}, Reps w H O l vs → l[i]? = some d → ∃ v, vs[i]? = some v ∧ Rep w H O d v
  | [], _, _, _, _, h => by simp at h
  | d :: l, _, 0, _, ⟨v, r, e, h, _⟩, q => by
    have : d = _ := Option.some.inj q
    subst this; subst e
    exact ⟨v, rfl, h⟩
  | _ :: l, _, i + 1, d, ⟨v, r, e, _, hr⟩, q => by
    subst e
    exact Reps.get (i := i) hr q
theorem Reps.get' : ∀ {l : List D} {vs : List V} {i : Nat} {v : V}, Reps w H O l vs → vs[i]? = some v → ∃ d, l[i]? = some d ∧ Rep w H O d v
  | [], _, _, _, h, q => by rw [show _ = [] from h] at q; simp at q
  | d :: l, _, 0, _, ⟨v, r, e, h, _⟩, q => by
    subst e
    have : v = _ := Option.some.inj q
    subst this
    exact ⟨d, rfl, h⟩
  | _ :: l, _, i + 1, v, ⟨_, r, e, _, hr⟩, q => by
    subst e
    exact Reps.get' (i := i) hr q
theorem Reps.append : ∀ {l m : List D} {vs us : List V}, Reps w H O l vs → Reps w H O m us → Reps w H O (l ++ m) (vs ++ us)
  | [], _, _, _, h, k => by rw [show _ = [] from h]; exact k
  | d :: l, m, _, us, ⟨v, r, e, h, hr⟩, k => ⟨v, r ++ us, by rw [e]; rfl, h, Reps.append hr k⟩
theorem Reps.one {d : D} {v : V} (h : Rep w H O d v) : Reps w H O [d] [v] := ⟨v, [], rfl, h, rfl⟩
theorem Reps.take : ∀ {l : List D} {vs : List V} (n : Nat), Reps w H O l vs → Reps w H O (l.take n) (vs.take n)
  | _, _, 0, _ => by simp [Reps]
  | [], _, n + 1, h => by rw [show _ = [] from h]; simp [Reps]
  | d :: l, _, n + 1, ⟨v, r, e, h, hr⟩ => by subst e; exact ⟨v, r.take n, rfl, h, Reps.take n hr⟩
theorem Reps.drop : ∀ {l : List D} {vs : List V} (n : Nat), Reps w H O l vs → Reps w H O (l.drop n) (vs.drop n)
  | _, _, 0, h => h
  | [], _, n + 1, h => by rw [show _ = [] from h]; simp [Reps]
  | d :: l, _, n + 1, ⟨v, r, e, h, hr⟩ => by subst e; exact Reps.drop n hr
theorem Reps.set : ∀ {l : List D} {vs : List V} (n : Nat) {d : D} {v : V}, Reps w H O l vs → Rep w H O d v → Reps w H O (l.set n d) (vs.set n v)
  | [], _, n, _, _, h, _ => by rw [show _ = [] from h]; simp [Reps]
  | _ :: l, _, 0, d, v, ⟨_, r, e, _, hr⟩, k => by subst e; exact ⟨v, r, rfl, k, hr⟩
  | _ :: l, _, n + 1, d, v, ⟨_, r, e, h, hr⟩, k => by subst e; exact ⟨_, _, rfl, h, Reps.set n hr k⟩
theorem Reps.reverse : ∀ {l : List D} {vs : List V}, Reps w H O l vs → Reps w H O l.reverse vs.reverse
  | [], _, h => by rw [show _ = [] from h]; simp [Reps]
  | d :: l, _, ⟨v, r, e, h, hr⟩ => by
    subst e
    rw [List.reverse_cons, List.reverse_cons]
    exact Reps.append (Reps.reverse hr) (Reps.one h)
theorem Reps.erase : ∀ {l : List D} {vs : List V} (n : Nat), Reps w H O l vs → Reps w H O (l.eraseIdx n) (vs.eraseIdx n)
  | [], _, n, h => by rw [show _ = [] from h]; simp [Reps]
  | _ :: l, _, 0, ⟨_, r, e, _, hr⟩ => by subst e; exact hr
  | _ :: l, _, n + 1, ⟨_, r, e, h, hr⟩ => by subst e; exact ⟨_, _, rfl, h, Reps.erase n hr⟩
theorem Reps.flat : ∀ (k : Nat) {l : List D} {vs : List V}, Reps w H O l vs → Reps w H O (List.replicate k l).flatten (List.replicate k vs).flatten
  | 0, _, _, _ => by simp [Reps]
  | k + 1, _, _, h => by
    rw [List.replicate_succ, List.replicate_succ, List.flatten_cons, List.flatten_cons]
    exact Reps.append h (Reps.flat k h)
theorem Reps.ints : ∀ {is : List Int} {vs : List V}, Reps w H O (is.map D.int) vs → vs = is.map V.int
  | [], _, h => h
  | i :: is, _, ⟨v, r, e, h, hr⟩ => by
    subst e
    rw [show v = V.int i from h, Reps.ints hr, List.map_cons]
theorem Reps.strs : ∀ {is : List Str} {vs : List V}, Reps w H O (is.map D.str) vs → vs = is.map V.str
  | [], _, h => h
  | i :: is, _, ⟨v, r, e, h, hr⟩ => by
    subst e
    rw [show v = V.str i from h, Reps.strs hr, List.map_cons]
theorem Reps.bls : ∀ {is : List Bool} {vs : List V}, Reps w H O (is.map D.bl) vs → vs = is.map V.bl
  | [], _, h => h
  | i :: is, _, ⟨v, r, e, h, hr⟩ => by
    subst e
    rw [show v = V.bl i from h, Reps.bls hr, List.map_cons]
theorem Reps.of_ints : ∀ (is : List Int), Reps w H O (is.map D.int) (is.map V.int)
  | [] => rfl
  | i :: is => ⟨.int i, _, rfl, rfl, Reps.of_ints is⟩
theorem Reps.of_strs : ∀ (is : List Str), Reps w H O (is.map D.str) (is.map V.str)
  | [] => rfl
  | i :: is => ⟨.str i, _, rfl, rfl, Reps.of_strs is⟩
theorem intsOf_eq : ∀ {l : List D} {is : List Int}, intsOf l = some is → l = is.map D.int
  | [], is, h => by cases h; rfl
  | .int i :: l, is, h => by
    cases e : intsOf l with
    | none => simp [intsOf, e] at h
    | some js =>
      simp [intsOf, e] at h
      subst h
      rw [intsOf_eq e]; rfl
  | .non :: _, _, h => by simp [intsOf] at h
  | .bl _ :: _, _, h => by simp [intsOf] at h
  | .str _ :: _, _, h => by simp [intsOf] at h
  | .tup _ :: _, _, h => by simp [intsOf] at h
  | .lst _ :: _, _, h => by simp [intsOf] at h
  | .dct _ _ :: _, _, h => by simp [intsOf] at h
  | .scr _ :: _, _, h => by simp [intsOf] at h
  | .ob _ _ _ :: _, _, h => by simp [intsOf] at h
theorem strsOf_eq : ∀ {l : List D} {is : List Str}, strsOf l = some is → l = is.map D.str
  | [], is, h => by cases h; rfl
  | .str i :: l, is, h => by
    cases e : strsOf l with
    | none => simp [strsOf, e] at h
    | some js =>
      simp [strsOf, e] at h
      subst h
      rw [strsOf_eq e]; rfl
  | .non :: _, _, h => by simp [strsOf] at h
  | .bl _ :: _, _, h => by simp [strsOf] at h
  | .int _ :: _, _, h => by simp [strsOf] at h
  | .tup _ :: _, _, h => by simp [strsOf] at h
  | .lst _ :: _, _, h => by simp [strsOf] at h
  | .dct _ _ :: _, _, h => by simp [strsOf] at h
  | .scr _ :: _, _, h => by simp [strsOf] at h
  | .ob _ _ _ :: _, _, h => by simp [strsOf] at h
theorem blsOf_eq : ∀ {l : List D} {is : List Bool}, blsOf l = some is → l = is.map D.bl
  | [], is, h => by cases h; rfl
  | .bl i :: l, is, h => by
    cases e : blsOf l with
    | none => simp [blsOf, e] at h
    | some js =>
      simp [blsOf, e] at h
      subst h
      rw [blsOf_eq e]; rfl
  | .non :: _, _, h => by simp [blsOf] at h
  | .str _ :: _, _, h => by simp [blsOf] at h
  | .int _ :: _, _, h => by simp [blsOf] at h
  | .tup _ :: _, _, h => by simp [blsOf] at h
  | .lst _ :: _, _, h => by simp [blsOf] at h
  | .dct _ _ :: _, _, h => by simp [blsOf] at h
  | .scr _ :: _, _, h => by simp [blsOf] at h
  | .ob _ _ _ :: _, _, h => by simp [blsOf] at h

mutual
theorem Rep.xi (z : XI) : ∀ (d : D) (v : V), Rep w H O d v → Rep (w.at_ z) H O d v
  | .non, _, h => h
  | .bl _, _, h => h
  | .int _, _, h => h
  | .str _, _, h => h
  | .scr _, _, h => h
  | .tup l, _, ⟨a, vs, e, h, r⟩ => ⟨a, vs, e, h, Reps.xi z l vs r⟩
  | .lst l, _, ⟨a, vs, e, h, n, r⟩ => ⟨a, vs, e, h, n, Reps.xi z l vs r⟩
  | .dct _ ds, _, ⟨a, e, n, h⟩ => ⟨a, e, n, h.imp (fun ⟨kvs, q, k, r⟩ => ⟨kvs, q, k, Reps.xi z ds _ r⟩) (fun ⟨kvs, q, k, r⟩ => ⟨kvs, q, k, Reps.xi z ds _ r⟩)⟩
  | .ob _ _ ds, _, ⟨a, dx, fs, e, h, n, k, r⟩ => ⟨a, dx, fs, e, h, n, k, Reps.xi z ds _ r⟩
theorem Reps.xi (z : XI) : ∀ (l : List D) (vs : List V), Reps w H O l vs → Reps (w.at_ z) H O l vs
  | [], _, h => h
  | d :: l, _, ⟨v, r, e, h, hr⟩ => ⟨v, r, e, Rep.xi z d v h, Reps.xi z l r hr⟩
end
theorem RepK.xi (z : XI) : ∀ (d : D) (v : V), RepK w H O d v → RepK (w.at_ z) H O d v
  | .non, _, h => h
  | .bl _, _, h => h
  | .int _, _, h => h
  | .str _, _, h => h
  | .scr _, _, h => h
  | .tup l, v, h => Rep.xi z (.tup l) v h
  | .lst l, _, ⟨a, vs, e, h, r⟩ => ⟨a, vs, e, h, Reps.xi z l vs r⟩
  | .dct _ ds, _, ⟨a, e, h⟩ => ⟨a, e, h.imp (fun ⟨kvs, q, k, r⟩ => ⟨kvs, q, k, Reps.xi z ds _ r⟩) (fun ⟨kvs, q, k, r⟩ => ⟨kvs, q, k, Reps.xi z ds _ r⟩)⟩
  | .ob _ _ ds, _, ⟨a, dx, fs, e, h, k, r⟩ => ⟨a, dx, fs, e, h, k, Reps.xi z ds _ r⟩
theorem Kids.xi (z : XI) : ∀ {l : List D} {qs : List Addr}, Kids w H O l qs → Kids (w.at_ z) H O l qs
  | [], _, h => h
  | _ :: _, _, ⟨m, q, r, us, e, e2, h, hr, t⟩ => ⟨m, q, r, us, e, e2, h, Reps.xi z _ _ hr, Kids.xi z t⟩

/-! ### data in the library's sense -/
mutual
theorem Rep.dp : ∀ (d : D) (v : V), (py d).plain = true → Rep w H O d v → Dp w.K H v (py d)
  | .non, _, _, h => by rw [show _ = V.non from h]; exact .non
  | .bl b, _, _, h => by rw [show _ = V.bl b from h]; exact .bl b
  | .int b, _, _, h => by rw [show _ = V.int b from h]; exact .int b
  | .str b, _, _, h => by rw [show _ = V.str b from h]; exact .str b
  | .scr _, _, z, _ => Bool.noConfusion z
  | .dct _ _, _, z, _ => Bool.noConfusion z
  | .ob _ _ _, _, z, _ => Bool.noConfusion z
  | .tup l, _, z, ⟨a, vs, e, h, r⟩ => by
    subst e
    exact .tup h (Reps.dp l vs z r)
  | .lst l, _, z, ⟨a, vs, e, h, _, r⟩ => by
    subst e
    exact .lst (SqL.of h) (Reps.dp l vs z r)
theorem Reps.dp : ∀ (l : List D) (vs : List V), PyData.plainAll (pys l) = true → Reps w H O l vs → DpAll w.K H vs (pys l)
  | [], _, _, h => by rw [show _ = [] from h]; exact .nil
  | d :: l, _, z, ⟨v, r, e, h, hr⟩ => by
    subst e
    have z' : ((py d).plain && PyData.plainAll (pys l)) = true := z
    rw [Bool.and_eq_true] at z'
    exact .cons (Rep.dp d v z'.1 h) (Reps.dp l r z'.2 hr)
end
end
end S2

set_option maxHeartbeats 4000000
/-! S2c: the operations by values. -/
namespace S2
open PySem PySem.Spec PyProof.Rows L2

/-- how new a value is -/
def Frs (w : Wr) (H H' : Hp) (O : Addr → Prop) : OD → V → Prop
  | (.sh, _), _ => True
  | (.o1, d), x => ∃ p, x = .ref p ∧ H p = none ∧ isLD d = true ∧ RepK w H' (fun a => O a ∨ a = p) d x
  | (.o2, d), x => ∃ p qs l, d = .lst l ∧ x = .ref p ∧ H p = none ∧ H' p = some (.lst (qs.map V.ref)) ∧ (p :: qs).Nodup ∧ (∀ q ∈ qs, H q = none) ∧ Kids w H' (fun a => O a ∨ a ∈ p :: qs) l qs
  | (.oi, _), _ => False
  | (.ex, _), _ => False
/-- a value of an expression: from H to H' -/
def VR (w : Wr) (H H' : Hp) (O : Addr → Prop) (v : OD) (x : V) : Prop := Rep w H' O v.2 x ∧ Frs w H H' O v x
def Dom (O : Addr → Prop) (H : Hp) : Prop := ∀ p, O p → H p ≠ none
theorem same_new {H : Hp} {p : Addr} {o : HO} (h : H p = none) : Same H (upd H p o) := fun b x e => by
  rw [upd_ne (ne_of_none e h)]; exact e
theorem Dom.same {O : Addr → Prop} {H H' : Hp} (d : Dom O H) (s : Same H H') : Dom O H' := fun p o => by
  cases e : H p with
  | none => exact absurd e (d p o)
  | some x => rw [s _ _ e]; exact fun z => by cases z
theorem Dom.free {O : Addr → Prop} {H : Hp} (d : Dom O H) {p : Addr} (h : H p = none) : ¬ O p := fun o => d p o h
theorem szL_eq : szL = sizeLine := by rw [sizeLine_eq]; rfl
/-- what is handed out by an operation: a new list is this value's alone -/
def HO1 (w : Wr) (H : Hp) (O : Addr → Prop) (d : D) (Q : VK) : Prop := ∀ z H', Same H H' → VR w H H' O (if isLst d then .o1 else .sh, d) z → Q z H'
section
variable {w : Wr} {H : Hp} {O : Addr → Prop} {Q : VK}
theorem HO1.sc {d : D} {z : V} (q : HO1 w H O d Q) (hl : isLst d = false) (h : Rep w H O d z) : Q z H := q z H (Same.refl H) ⟨h, by rw [hl]; exact True.intro⟩
theorem HO1.lst {l : List D} {vs : List V} (q : HO1 w H O (.lst l) Q) (dom : Dom O H) (h : Reps w H O l vs) : ∀ p, H p = none → Q (.ref p) (upd H p (.lst vs)) := fun p hp =>
  q _ _ (same_new hp) ⟨⟨p, vs, rfl, upd_same, dom.free hp, Reps.same (same_new hp) _ _ h⟩, p, rfl, hp, rfl, p, vs, rfl, upd_same, Reps.same (same_new hp) _ _ (Reps.wide (fun a z => z.imp id fun z => by rw [z]; exact hp) _ _ h)⟩
theorem HO1.tup {l : List D} {vs : List V} (q : HO1 w H O (.tup l) Q) (h : Reps w H O l vs) : ∀ p, H p = none → Q (.ref p) (upd H p (.tup vs)) := fun p hp =>
  q _ _ (same_new hp) ⟨⟨p, vs, rfl, .inl (.inl upd_same), Reps.same (same_new hp) _ _ h⟩, True.intro⟩
end

theorem pys_any (f : PyData → Bool) : ∀ l : List D, (pys l).any f = l.any fun z => f (py z)
  | [] => rfl
  | d :: l => by
    show (py d :: pys l).any f = _
    rw [List.any_cons, List.any_cons, pys_any f l]
def RB (w : Wr) (f : D → D → R D) : R2 := fun x y H Q => ∃ a b O, Dom O H ∧ Rep w H O a x ∧ Rep w H O b y ∧ ∃ d, f a b = .ok d ∧ HO1 w H O d Q
def RC (w : Wr) (f : D → D → R Bool) : R2 := fun x y H Q => ∃ a b O, Dom O H ∧ Rep w H O a x ∧ Rep w H O b y ∧ ∃ d, f a b = .ok d ∧ Q (.bl d) H

def opOf : Bop → Operator
  | .add => .Add | .sub => .Sub | .mul => .Mult | .fdiv => .FloorDiv | .mod => .Mod | .pow => .Pow | .xor => .BitXor
def cmpOf : Cop → CmpOp
  | .eq => .Eq | .ne => .NotEq | .lt => .Lt | .le => .LtE | .gt => .Gt | .ge => .GtE | .is_ => .Is | .isnot => .IsNot | .in_ => .In | .notin => .NotIn
section
variable {X : Cx} {w : Wr} (hw : w.K = X.K)
include hw
theorem op_add' : OpR X (binaryOp .Add) (RB w addD) := by
  intro pins s σ H x y v u Q I rx ry ⟨a, b, O, dom, ra, rb, d, e, q⟩
  cases a with
  | int i =>
    cases b with
    | int j =>
      cases e
      exact op_add pins s σ H x y v u Q I rx ry ⟨i, j, ra, rb, HO1.sc q rfl rfl⟩
    | _ => simp [addD] at e
  | str i =>
    cases b with
    | str j =>
      simp only [addD] at e
      split at e
      · rename_i hz
        cases e
        rw [szL_eq] at hz
        exact op_add_str pins s σ H x y v u Q I rx ry ⟨i, j, ra, rb, hz, HO1.sc q rfl rfl⟩
      · cases e
    | _ => simp [addD] at e
  | tup i =>
    cases b with
    | tup j =>
      simp only [addD] at e
      split at e
      · rename_i hz
        cases e
        rw [szL_eq] at hz
        obtain ⟨p, xs, rfl, hp, r1⟩ := ra
        obtain ⟨p', ys, rfl, hp', r2⟩ := rb
        rw [hw] at hp hp'
        have h1 := Reps.length r1
        have h2 := Reps.length r2
        refine op_catA pins s σ H _ _ v u Q I rx ry ⟨p, p', xs, ys, rfl, rfl, hp, hp', by omega, fun z => ?_, fun _ z => ?_, fun _ _ => HO1.tup q (Reps.append r1 r2)⟩
        · subst z
          have z' : i = [] := List.eq_nil_of_length_eq_zero (by simpa using h1)
          subst z'
          exact HO1.sc q rfl ⟨p', ys, rfl, by rw [hw]; exact hp', r2⟩
        · subst z
          have z' : j = [] := List.eq_nil_of_length_eq_zero (by simpa using h2)
          subst z'
          refine HO1.sc q rfl ⟨p, xs, rfl, by rw [hw]; exact hp, by rw [List.append_nil]; exact r1⟩
      · cases e
    | _ => simp [addD] at e
  | lst i =>
    cases b with
    | lst j =>
      simp only [addD] at e
      split at e
      · rename_i hz
        cases e
        rw [szL_eq] at hz
        obtain ⟨p, xs, rfl, hp, _, r1⟩ := ra
        obtain ⟨p', ys, rfl, hp', _, r2⟩ := rb
        have h1 := Reps.length r1
        have h2 := Reps.length r2
        exact op_cat pins s σ H _ _ v u Q I rx ry ⟨p, p', xs, ys, rfl, rfl, hp, hp', by omega, HO1.lst q dom (Reps.append r1 r2)⟩
      · cases e
    | _ => simp [addD] at e
  | _ => simp [addD] at e
omit hw in
theorem mulOk_ok {i j : Int} (h : mulOk i j = true) : CMul i j := by
  unfold mulOk at h
  rw [Bool.or_eq_true] at h
  rcases h with h | h
  · have := absLe_ok h
    exact .inl ⟨by omega, by omega⟩
  · have := absLe_ok h
    exact .inr ⟨by omega, by omega⟩
theorem op_mul' : OpR X (binaryOp .Mult) (RB w mulD) := by
  intro pins s σ H x y v u Q I rx ry ⟨a, b, O, dom, ra, rb, d, e, q⟩
  cases a with
  | int i =>
    cases b with
    | int j =>
      simp only [mulD] at e
      split at e
      · rename_i hz
        cases e
        exact op_mul pins s σ H x y v u Q I rx ry ⟨i, j, ra, rb, mulOk_ok hz, HO1.sc q rfl rfl⟩
      · cases e
    | _ => exact nomatch (show (R.no : R D) = R.ok d from e)
  | lst i =>
    cases b with
    | int j =>
      simp only [mulD] at e
      split at e
      · rename_i hz
        cases e
        simp only [Bool.and_eq_true, decide_eq_true_eq] at hz
        obtain ⟨p, xs, rfl, hp, _, r1⟩ := ra
        have h1 := Reps.length r1
        have hz2 := hz.2
        rw [szL_eq, h1] at hz2
        have hz3 := absLe_ok hz.1
        exact op_rep pins s σ H _ _ v u Q I rx ry ⟨p, j, xs, rfl, rb, hp, by omega, by omega, hz2, HO1.lst q dom (Reps.flat _ r1)⟩
      · cases e
    | _ => exact nomatch (show (R.no : R D) = R.ok d from e)
  | tup i =>
    cases b with
    | int j =>
      simp only [mulD] at e
      split at e
      · rename_i hz
        cases e
        simp only [Bool.and_eq_true, decide_eq_true_eq, Bool.not_eq_true'] at hz
        obtain ⟨⟨⟨z1, z2⟩, z3⟩, z4⟩ := hz
        obtain ⟨p, xs, rfl, hp, r1⟩ := ra
        rw [hw] at hp
        have h1 := Reps.length r1
        have hz3 := absLe_ok z2
        refine op_repT pins s σ H _ _ v u Q I rx ry ⟨p, j, xs, rfl, rb, hp, fun z => ?_, z1, by omega, by omega, HO1.tup q (Reps.flat _ r1)⟩
        rw [z] at h1
        have : i = [] := List.eq_nil_of_length_eq_zero h1
        rw [this] at z3
        cases z3
      · cases e
    | _ => exact nomatch (show (R.no : R D) = R.ok d from e)
  | _ => cases b <;> exact nomatch (show (R.no : R D) = R.ok d from e)
omit hw in
theorem op_ints {o : Bop} {C : Int → Int → Prop} {f : Int → Int → Int} (rule : OpR X (binaryOp (opOf o)) (rI C fun i j => .int (f i j)))
    (h : ∀ a b d, binD o a b = .ok d → ∃ i j, a = .int i ∧ b = .int j ∧ C i j ∧ d = .int (f i j)) : OpR X (binaryOp (opOf o)) (RB w (binD o)) := by
  intro pins s σ H x y v u Q I rx ry ⟨a, b, O, dom, ra, rb, d, e, q⟩
  obtain ⟨i, j, rfl, rfl, hc, rfl⟩ := h a b d e
  exact rule pins s σ H x y v u Q I rx ry ⟨i, j, ra, rb, hc, HO1.sc q rfl rfl⟩
omit hw in
theorem opI0' {f : Value → Value → Sem Value} {g : Int → Int → V} (h : OpR X f (rI0 g)) : OpR X f (rI (fun _ _ => True) g) := fun pins s σ H x y v u Q I rx ry ⟨i, j, e1, e2, _, q⟩ => h pins s σ H x y v u Q I rx ry ⟨i, j, e1, e2, q⟩
theorem op_bin (o : Bop) : OpR X (binaryOp (opOf o)) (RB w (binD o)) := by
  cases o with
  | add => exact op_add' hw
  | mul => exact op_mul' hw
  | sub =>
    refine op_ints (o := .sub) (opI0' op_sub) fun a b d e => ?_
    cases a <;> cases b <;> simp only [binD, reduceCtorEq, R.ok.injEq] at e
    exact ⟨_, _, rfl, rfl, trivial, e.symm⟩
  | xor =>
    refine op_ints (o := .xor) (opI0' op_xor) fun a b d e => ?_
    cases a <;> cases b <;> simp only [binD, reduceCtorEq, R.ok.injEq] at e
    exact ⟨_, _, rfl, rfl, trivial, e.symm⟩
  | fdiv =>
    refine op_ints (o := .fdiv) op_fdiv fun a b d e => ?_
    cases a <;> cases b <;> simp only [binD, reduceCtorEq] at e
    split at e
    · rename_i hz
      simp only [Bool.and_eq_true, decide_eq_true_eq] at hz
      injection e with e
      have hz2 := absLe_ok hz.2
      exact ⟨_, _, rfl, rfl, ⟨hz.1, by omega⟩, e.symm⟩
    · cases e
  | mod =>
    refine op_ints (o := .mod) op_mod fun a b d e => ?_
    cases a <;> cases b <;> simp only [binD, reduceCtorEq] at e
    split at e
    · rename_i hz
      simp only [decide_eq_true_eq] at hz
      injection e with e
      exact ⟨_, _, rfl, rfl, hz, e.symm⟩
    · cases e
  | pow =>
    refine op_ints (o := .pow) op_pow fun a b d e => ?_
    cases a <;> cases b <;> simp only [binD, reduceCtorEq] at e
    split at e
    · rename_i hz
      simp only [Bool.and_eq_true, decide_eq_true_eq] at hz
      injection e with e
      have hz2 := absLe_ok hz.1.2
      have hz3 := absLe_ok hz.2
      exact ⟨_, _, rfl, rfl, ⟨hz.1.1, by omega, by omega⟩, e.symm⟩
    · cases e

/-! ### comparisons -/
omit hw in
theorem bind_not {r : R Bool} {d : Bool} (h : (r.bind fun c => .ok (!c)) = .ok d) : r = .ok (!d) := by
  cases r with
  | ok c =>
    have : (!c) = d := R.ok.inj h
    rw [← this, Bool.not_not]
  | exc _ => cases h
  | no => cases h
omit hw in
theorem RC.neg {f : D → D → R Bool} {x y : V} {H : Hp} {Q : VK} (h : RC w (fun a b => (f a b).bind fun c => .ok (!c)) x y H Q) : RC w f x y H fun z H' => ∃ c, z = .bl c ∧ Q (.bl (!c)) H' := by
  obtain ⟨a, b, O, dom, ra, rb, d, e, q⟩ := h
  exact ⟨a, b, O, dom, ra, rb, !d, bind_not e, _, rfl, by rw [Bool.not_not]; exact q⟩
omit hw in
theorem scV_ok {H : Hp} {O : Addr → Prop} {a : D} {x v : V} (h : scV a = some v) (r : Rep w H O a x) : x = v := by
  cases a <;> simp only [scV, reduceCtorEq, Option.some.injEq] at h <;> (subst h; exact r)
omit hw in
theorem keyK_D (k : Key) : keyK (keyD k) = some k := by cases k <;> rfl
omit hw in
theorem keyK_inv {d : D} {q : Key} (h : keyK d = some q) : d = keyD q := by
  cases d <;> simp only [keyK, reduceCtorEq, Option.some.injEq] at h <;> (subst h; rfl)
omit hw in
theorem rep_keyD {H : Hp} {O : Addr → Prop} {q : Key} {x : V} (r : Rep w H O (keyD q) x) : x = kV q := by
  cases q <;> exact r
omit hw in
theorem keyB_D (q k : Key) : keyB q (keyD k) = decide (k = q) := by
  unfold keyB
  rw [keyK_D]
  by_cases h : k = q
  · subst h; simp
  · rw [decide_eq_false h, decide_eq_false (fun z => h (Option.some.inj z))]
omit hw in
theorem any_key (q : Key) : ∀ kvs : List (Key × V), (kvs.map (fun p => keyD p.1)).any (keyB q) = kvs.any fun kv => decide (kv.1 = q)
  | [] => rfl
  | p :: r => by rw [List.map_cons, List.any_cons, List.any_cons, keyB_D, any_key q r]
omit hw in
theorem get_key {H : Hp} {O : Addr → Prop} (q : Key) : ∀ {kvs : List (Key × V)} {ds : List D} {d : D}, Reps w H O ds (kvs.map (·.2)) → getKD (kvs.map (fun p => keyD p.1)) ds q = some d → ∃ v, valV kvs q = some v ∧ Rep w H O d v
  | [], ds, d, _, h => by unfold getKD at h; cases h
  | p :: r, [], d, _, h => by unfold getKD at h; cases h
  | p :: r, x :: ds, d, ⟨v, vs, e, h1, h2⟩, h => by
    rw [List.map_cons] at e
    injection e with e1 e2
    subst e1 e2
    rw [List.map_cons] at h
    unfold getKD at h
    rw [keyB_D] at h
    by_cases z : p.1 = q
    · rw [if_pos (decide_eq_true z)] at h
      cases h
      exact ⟨p.2, valV_pos z, h1⟩
    · rw [if_neg (by rw [decide_eq_false z]; exact Bool.false_ne_true)] at h
      obtain ⟨v, e1, e2⟩ := get_key q h2 h
      exact ⟨v, by rw [valV_neg z]; exact e1, e2⟩
omit hw in
theorem zip_key {H : Hp} {O : Addr → Prop} {q : Key} {d : D} {v : V} (rd : Rep w H O d v) : ∀ {kvs : List (Key × V)} {ds : List D}, Reps w H O ds (kvs.map (·.2)) → Reps w H O (List.zipWith (fun a b => if keyB q a = true then d else b) (kvs.map (fun p => keyD p.1)) ds) ((kvs.map fun kv => if kv.1 = q then (kv.1, v) else kv).map (·.2))
  | [], _, _ => rfl
  | p :: r, [], h => by cases (show (p :: r).map (·.2) = [] from h)
  | p :: r, x :: ds, ⟨u, us, e, h1, h2⟩ => by
    rw [List.map_cons] at e
    injection e with e1 e2
    subst e1 e2
    rw [List.map_cons, List.zipWith_cons_cons, List.map_cons, List.map_cons, keyB_D]
    refine ⟨_, _, rfl, ?_, zip_key rd h2⟩
    by_cases z : p.1 = q
    · rw [if_pos (decide_eq_true z), if_pos z]; exact rd
    · rw [if_neg (by rw [decide_eq_false z]; exact Bool.false_ne_true), if_neg z]; exact h1
omit hw in
theorem map_key (q : Key) (v : V) (kvs : List (Key × V)) : (kvs.map fun kv => if kv.1 = q then (kv.1, v) else kv).map (fun p => keyD p.1) = kvs.map (fun p => keyD p.1) := by
  rw [List.map_map]
  refine List.map_congr_left fun p _ => ?_
  show keyD (if p.1 = q then (p.1, v) else p).1 = _
  by_cases z : p.1 = q
  · rw [if_pos z]
  · rw [if_neg z]
omit hw in
theorem reps_app {H : Hp} {O : Addr → Prop} : ∀ {l : List D} {vs : List V} {d : D} {v : V}, Reps w H O l vs → Rep w H O d v → Reps w H O (l ++ [d]) (vs ++ [v])
  | [], _, d, v, h, r => by rw [show _ = [] from h]; exact ⟨v, [], rfl, r, rfl⟩
  | _ :: _, _, d, v, ⟨x, xs, e, h1, h2⟩, r => by subst e; exact ⟨x, _, rfl, h1, reps_app h2 r⟩
omit hw in
theorem put_key {H : Hp} {O : Addr → Prop} {q : Key} {d : D} {v : V} {kvs : List (Key × V)} {ds : List D} (r : Reps w H O ds (kvs.map (·.2))) (rd : Rep w H O d v) :
    (putKD (kvs.map (fun p => keyD p.1)) ds q (keyD q) d).1 = (putK kvs q v).map (fun p => keyD p.1) ∧ Reps w H O (putKD (kvs.map (fun p => keyD p.1)) ds q (keyD q) d).2 ((putK kvs q v).map (·.2)) := by
  unfold putKD putK
  rw [any_key]
  split
  · exact ⟨(map_key q v kvs).symm, zip_key rd r⟩
  · refine ⟨by rw [List.map_append]; rfl, ?_⟩
    rw [List.map_append]
    exact reps_app r rd
omit hw in
theorem dct_k {H : Hp} {O : Addr → Prop} {ks ds : List D} {x : V} (r : RepK w H O (.dct ks ds) x) (h : isTk ks = false) : ∃ a, ∃ kvs : List (Key × V), x = .ref a ∧ H a = some (.dK kvs) ∧ ks = kvs.map (fun p => keyD p.1) ∧ Reps w H O ds (kvs.map (·.2)) := by
  obtain ⟨a, e, h2⟩ := r
  rcases h2 with ⟨kvs, h1, h3, h4⟩ | ⟨kvs, h1, h3, h4⟩
  · exact ⟨a, kvs, e, h1, h3, h4⟩
  · subst h3
    cases h
omit hw in
theorem in_dct {H : Hp} {O : Addr → Prop} {a : D} {ks ds : List D} {x y : V} {d : Bool} (ra : Rep w H O a x) (rb : Rep w H O (.dct ks ds) y) (e : (match keyK a with
    | some q => if isTk ks = true then R.no else .ok (ks.any (keyB q))
    | none => .no) = .ok d) : ∃ (k : Key) (p : Addr) (o : Option V), x = kV k ∧ y = .ref p ∧ DGet H p (kV k) o ∧ d = o.isSome := by
  split at e
  · rename_i q hq
    split at e
    · cases e
    · rename_i ht
      cases e
      obtain ⟨p, kvs, e1, h1, h2, h3⟩ := dct_k (Rep.k rb) (Bool.eq_false_iff.mpr ht)
      have ea := keyK_inv hq
      subst ea
      refine ⟨q, p, valV kvs q, rep_keyD ra, e1, DGet.k h1, ?_⟩
      rw [h2, any_key, valV_any]
  · cases e
theorem reads_of {pins : List (Addr × Obj)} {s : Shared} {σ : L2.St} {H : Hp} {O : Addr → Prop} {a : D} {x : V} {v : Value} (I : Inv X pins σ H s) (rx : RelV x v) (h : plainB a = true) (r : Rep w H O a x) : ∃ as, Reads s.heap v (py a) as ∧ (py a).plain = true ∧ (py a).depth ≤ 64 := by
  unfold plainB at h
  rw [Bool.and_eq_true] at h
  obtain ⟨as, q⟩ := Dp.reads I _ x v (by rw [← hw]; exact Rep.dp a x h.1 r) rx
  exact ⟨as, q, h.1, of_decide_eq_true h.2⟩
theorem op_eqP (hu : X.A.units + 64 < cLine) : OpR X (compareOp .Eq) (RC w eqP) := by
  intro pins s σ H x y v u Q I rx ry ⟨a, b, O, dom, ra, rb, d, e, q⟩
  unfold eqP at e
  split at e
  · rename_i hz
    rw [Bool.and_eq_true] at hz
    obtain ⟨as, r1, p1, d1⟩ := reads_of hw I rx hz.1 ra
    obtain ⟨bs, r2, p2, d2⟩ := reads_of hw I ry hz.2 rb
    cases e
    exact PySem.SeqAt.eq_plain r1 r2 p1 p2 (by have := Nat.min_le_left (py a).depth (py b).depth; omega) ⟨.bl _, H, I, rfl, q⟩
  · cases e
theorem op_neP (hu : X.A.units + 64 < cLine) : OpR X (compareOp .NotEq) (RC w fun a b => (eqP a b).bind fun c => .ok (!c)) := by
  intro pins s σ H x y v u Q I rx ry h
  obtain ⟨a, b, O, dom, ra, rb, d, e, c, ec, q⟩ := RC.neg h
  cases ec
  unfold eqP at e
  split at e
  · rename_i hz
    rw [Bool.and_eq_true] at hz
    obtain ⟨as, r1, p1, d1⟩ := reads_of hw I rx hz.1 ra
    obtain ⟨bs, r2, p2, d2⟩ := reads_of hw I ry hz.2 rb
    cases e
    exact PySem.SeqAt.ne_plain r1 r2 p1 p2 (by have := Nat.min_le_left (py a).depth (py b).depth; omega) ⟨.bl _, H, I, rfl, q⟩
  · cases e
theorem op_eq' (hu : X.A.units + 64 < cLine) : OpR X (compareOp .Eq) (RC w eqD) := by
  intro pins s σ H x y v u Q I rx ry ⟨a, b, O, dom, ra, rb, d, e, q⟩
  unfold eqD at e
  split at e
  · rename_i x' y' h1 h2
    have e1 := scV_ok h1 ra
    have e2 := scV_ok h2 rb
    subst e1; subst e2
    split at e
    · rename_i hs
      cases e
      exact op_eq pins s σ H x y v u Q I rx ry ⟨hs, q⟩
    · exact op_eqP hw hu pins s σ H x y v u Q I rx ry ⟨a, b, O, dom, ra, rb, d, e, q⟩
  · exact op_eqP hw hu pins s σ H x y v u Q I rx ry ⟨a, b, O, dom, ra, rb, d, e, q⟩
theorem op_ne' (hu : X.A.units + 64 < cLine) : OpR X (compareOp .NotEq) (RC w fun a b => (eqD a b).bind fun c => .ok (!c)) := by
  intro pins s σ H x y v u Q I rx ry h
  obtain ⟨a, b, O, dom, ra, rb, d, e, c, ec, q⟩ := RC.neg h
  cases ec
  unfold eqD at e
  split at e
  · rename_i x' y' h1 h2
    have e1 := scV_ok h1 ra
    have e2 := scV_ok h2 rb
    subst e1; subst e2
    split at e
    · rename_i hs
      cases e
      exact op_ne pins s σ H x y v u Q I rx ry ⟨hs, q⟩
    · exact op_neP hw hu pins s σ H _ _ v u Q I rx ry ⟨a, b, O, dom, ra, rb, _, by show (eqP a b).bind _ = _; rw [e]; rfl, q⟩
  · exact op_neP hw hu pins s σ H x y v u Q I rx ry ⟨a, b, O, dom, ra, rb, _, by show (eqP a b).bind _ = _; rw [e]; rfl, q⟩
/-! ### order, in -/
omit hw in
theorem isNon_py {a : D} (h : (!isNonD a) = true) : py a ≠ .none := by
  cases a <;> first | (exact fun z => PyData.noConfusion z) | (exact absurd h Bool.false_ne_true)
theorem ord_run {pins : List (Addr × Obj)} {s : Shared} {σ : L2.St} {H : Hp} {O : Addr → Prop} {a b : D} {x y : V} {v u : Value} (I : Inv X pins σ H s) (rx : RelV x v) (ry : RelV y u) (ra : Rep w H O a x) (rb : Rep w H O b y) (hu : X.A.units + 64 < cLine)
    (h : (PySem.W.alike (py a) (py b) && plainB a && plainB b && !isNonD a) = true) : ∃ as bs, Reads s.heap v (py a) as ∧ Reads s.heap u (py b) bs ∧ PySem.W.alike (py a) (py b) = true ∧ py a ≠ .none ∧ X.A.units + min (py a).depth (py b).depth < cLine := by
  simp only [Bool.and_eq_true] at h
  obtain ⟨as, r1, p1, d1⟩ := reads_of hw I rx h.1.1.2 ra
  obtain ⟨bs, r2, p2, d2⟩ := reads_of hw I ry h.1.2 rb
  exact ⟨as, bs, r1, r2, h.1.1.1, isNon_py h.2, by have := Nat.min_le_left (py a).depth (py b).depth; omega⟩
theorem op_cmp (hu : X.A.units + 66 < cLine) (o : Cop) : OpR X (compareOp (cmpOf o)) (RC w (cmpD o)) := by
  have hu' : X.A.units + 64 < cLine := by omega
  cases o with
  | eq => exact op_eq' hw hu'
  | ne => exact op_ne' hw hu'
  | lt =>
    intro pins s σ H x y v u Q I rx ry ⟨a, b, O, dom, ra, rb, d, e, q⟩
    simp only [cmpD, ltD] at e
    split at e
    · rename_i hz
      obtain ⟨as, bs, r1, r2, h1, h2, h3⟩ := ord_run hw I rx ry ra rb hu' hz
      cases e
      exact PySem.W.lt_data r1 r2 h1 h2 h3 ⟨.bl _, H, I, rfl, q⟩
    · cases e
  | gt =>
    intro pins s σ H x y v u Q I rx ry ⟨a, b, O, dom, ra, rb, d, e, q⟩
    simp only [cmpD] at e
    split at e
    · rename_i hz
      obtain ⟨as, bs, r1, r2, h1, h2, h3⟩ := ord_run hw I rx ry ra rb hu' hz
      cases e
      exact PySem.W.gt_data r1 r2 h1 h2 h3 ⟨.bl _, H, I, rfl, q⟩
    · cases e
  | le =>
    intro pins s σ H x y v u Q I rx ry ⟨a, b, O, dom, ra, rb, d, e, q⟩
    simp only [cmpD, nltD] at e
    split at e
    · rename_i hz
      obtain ⟨as, bs, r1, r2, h1, h2, h3⟩ := ord_run hw I rx ry ra rb hu' (by simp only [Bool.and_eq_true] at hz ⊢; exact ⟨⟨⟨hz.1.1.1, hz.1.2⟩, hz.1.1.2⟩, hz.2⟩)
      cases e
      exact PySem.W.le_data r1 r2 h1 h2 h3 ⟨.bl _, H, I, rfl, q⟩
    · cases e
  | ge =>
    intro pins s σ H x y v u Q I rx ry ⟨a, b, O, dom, ra, rb, d, e, q⟩
    simp only [cmpD] at e
    split at e
    · rename_i hz
      obtain ⟨as, bs, r1, r2, h1, h2, h3⟩ := ord_run hw I rx ry ra rb hu' hz
      cases e
      exact PySem.W.ge_data r1 r2 h1 h2 h3 ⟨.bl _, H, I, rfl, q⟩
    · cases e
  | is_ =>
    intro pins s σ H x y v u Q I rx ry ⟨a, b, O, dom, ra, rb, d, e, q⟩
    cases b <;> simp only [cmpD, reduceCtorEq, R.ok.injEq] at e
    subst e
    refine op_isN pins s σ H x y v u Q I rx ry ⟨rb, ?_⟩
    have : decide (x = V.non) = isNonD a := by
      cases a <;> first
        | (rw [show x = _ from ra]; rfl)
        | (obtain ⟨p, r⟩ := ra; first | rw [r.1] | (obtain ⟨_, r⟩ := r; first | rw [r.1] | (obtain ⟨_, r⟩ := r; rw [r.1]))); rfl
    rw [this]; exact q
  | isnot =>
    intro pins s σ H x y v u Q I rx ry ⟨a, b, O, dom, ra, rb, d, e, q⟩
    cases b <;> simp only [cmpD, reduceCtorEq, R.ok.injEq] at e
    subst e
    refine op_notN pins s σ H x y v u Q I rx ry ⟨rb, ?_⟩
    have : decide (x = V.non) = isNonD a := by
      cases a <;> first
        | (rw [show x = _ from ra]; rfl)
        | (obtain ⟨p, r⟩ := ra; first | rw [r.1] | (obtain ⟨_, r⟩ := r; first | rw [r.1] | (obtain ⟨_, r⟩ := r; rw [r.1]))); rfl
    rw [this]; exact q
  | in_ =>
    intro pins s σ H x y v u Q I rx ry ⟨a, b, O, dom, ra, rb, d, e, q⟩
    cases b <;> simp only [cmpD, inD, reduceCtorEq] at e
    case dct ks vs =>
      obtain ⟨k, p, o, e1, ep, gd, eo⟩ := in_dct ra rb e
      subst e1 ep eo
      cases (show u = Value.ref p from ry)
      exact d_in (X := X) (A := X.A) (E := X.xe) (Q := EP X pins σ Q) (by omega) I gd rx fun s3 I3 => ⟨.bl _, H, I3, rfl, q⟩
    · rename_i j
      cases a <;> simp only [reduceCtorEq, R.ok.injEq] at e
      rename_i i
      subst e
      exact op_in_str pins s σ H x y v u Q I rx ry ⟨i, j, ra, rb, q⟩
    · rename_i l
      split at e
      · rename_i hz
        rw [Bool.and_eq_true] at hz
        obtain ⟨as, r1, p1, d1⟩ := reads_of hw I rx hz.1 ra
        obtain ⟨bs, r2, p2, d2⟩ := reads_of hw I ry hz.2 rb
        cases e
        refine PySem.SeqAt.in_tuple_data r2 r1 p2 p1 ?_ ⟨.bl _, H, I, rfl, ?_⟩
        · have := Nat.min_le_right (PyData.depthAll (pys l)) (py a).depth; omega
        · rw [pys_any]; exact q
      · cases e
    · rename_i l
      split at e
      · rename_i hz
        rw [Bool.and_eq_true] at hz
        obtain ⟨as, r1, p1, d1⟩ := reads_of hw I rx hz.1 ra
        obtain ⟨bs, r2, p2, d2⟩ := reads_of hw I ry hz.2 rb
        cases e
        refine PySem.SeqAt.in_list_data r2 r1 p2 p1 ?_ ⟨.bl _, H, I, rfl, ?_⟩
        · have := Nat.min_le_right (PyData.depthAll (pys l)) (py a).depth; omega
        · rw [pys_any]; exact q
      · cases e
  | notin =>
    intro pins s σ H x y v u Q I rx ry h
    have h' : RC w (fun a b => (inD a b).bind fun c => .ok (!c)) x y H Q := h
    obtain ⟨a, b, O, dom, ra, rb, d, e, c, ec, q⟩ := RC.neg h'
    cases ec
    cases b <;> simp only [inD, reduceCtorEq] at e
    case dct ks vs =>
      obtain ⟨k, p, o, e1, ep, gd, eo⟩ := in_dct ra rb e
      subst e1 ep eo
      cases (show u = Value.ref p from ry)
      exact d_notIn (X := X) (A := X.A) (E := X.xe) (Q := EP X pins σ Q) (by omega) I gd rx fun s3 I3 => ⟨.bl _, H, I3, rfl, q⟩
    · rename_i j
      cases a <;> simp only [reduceCtorEq, R.ok.injEq] at e
      rename_i i
      subst e
      exact op_notin_str pins s σ H x y v u Q I rx ry ⟨i, j, ra, rb, q⟩
    · rename_i l
      split at e
      · rename_i hz
        rw [Bool.and_eq_true] at hz
        obtain ⟨as, r1, p1, d1⟩ := reads_of hw I rx hz.1 ra
        obtain ⟨bs, r2, p2, d2⟩ := reads_of hw I ry hz.2 rb
        cases e
        refine PySem.SeqAt.notIn_tuple_data r2 r1 p2 p1 ?_ ⟨.bl _, H, I, rfl, ?_⟩
        · have := Nat.min_le_right (PyData.depthAll (pys l)) (py a).depth; omega
        · rw [pys_any]; exact q
      · cases e
    · rename_i l
      split at e
      · rename_i hz
        rw [Bool.and_eq_true] at hz
        obtain ⟨as, r1, p1, d1⟩ := reads_of hw I rx hz.1 ra
        obtain ⟨bs, r2, p2, d2⟩ := reads_of hw I ry hz.2 rb
        cases e
        refine PySem.SeqAt.notIn_list_data r2 r1 p2 p1 ?_ ⟨.bl _, H, I, rfl, ?_⟩
        · have := Nat.min_le_right (PyData.depthAll (pys l)) (py a).depth; omega
        · rw [pys_any]; exact q
      · cases e
end
end S2

set_option maxHeartbeats 4000000
/-! S2d: truth, items, slices, built-in functions by values. -/
namespace S2
open PySem PySem.Spec PyProof.Rows L2

def RX (w : Wr) : R2 := fun x y H Q => ∃ a b O, RepK w H O a x ∧ Rep w H O b y ∧ ∃ d, ixD a b = .ok d ∧ ∀ z, Rep w H O d z → Q z H
mutual
theorem py_inj : ∀ (a b : D), (py a).plain = true → (py b).plain = true → py a = py b → a = b
  | .non, b, _, hb, e => by cases b <;> first | rfl | (exact PyData.noConfusion e) | (exact nomatch (show false = true from hb))
  | .bl x, b, _, hb, e => by cases b <;> first | (injection e with e; rw [e]) | (exact PyData.noConfusion e) | (exact nomatch (show false = true from hb))
  | .int x, b, _, hb, e => by cases b <;> first | (injection e with e; rw [e]) | (exact PyData.noConfusion e) | (exact nomatch (show false = true from hb))
  | .str x, b, _, hb, e => by cases b <;> first | (injection e with e; rw [e]) | (exact PyData.noConfusion e) | (exact nomatch (show false = true from hb))
  | .tup l, b, ha, hb, e => by
    cases b with
    | tup m =>
      injection e with e
      rw [pys_inj l m ha hb e]
    | _ => first | (exact PyData.noConfusion e) | (exact nomatch (show false = true from hb))
  | .lst l, b, ha, hb, e => by
    cases b with
    | lst m =>
      injection e with e
      rw [pys_inj l m ha hb e]
    | _ => first | (exact PyData.noConfusion e) | (exact nomatch (show false = true from hb))
  | .dct _ _, _, ha, _, _ => nomatch (show false = true from ha)
  | .scr _, _, ha, _, _ => nomatch (show false = true from ha)
  | .ob _ _ _, _, ha, _, _ => nomatch (show false = true from ha)
theorem pys_inj : ∀ (l m : List D), PyData.plainAll (pys l) = true → PyData.plainAll (pys m) = true → pys l = pys m → l = m
  | [], [], _, _, _ => rfl
  | [], _ :: _, _, _, e => by cases e
  | _ :: _, [], _, _, e => by cases e
  | a :: l, b :: m, ha, hb, e => by
    injection e with e1 e2
    have ha : ((py a).plain && PyData.plainAll (pys l)) = true := ha
    have hb : ((py b).plain && PyData.plainAll (pys m)) = true := hb
    rw [Bool.and_eq_true] at ha hb
    rw [py_inj a b ha.1 hb.1 e1, pys_inj l m ha.2 hb.2 e2]
end
mutual
theorem plain_noDict : ∀ {a : D}, (py a).plain = true → (py a).hasDict = false
  | .non, _ => rfl
  | .bl _, _ => rfl
  | .int _, _ => rfl
  | .str _, _ => rfl
  | .tup l, h => plain_noDicts (l := l) h
  | .lst l, h => plain_noDicts (l := l) h
  | .dct _ _, h => nomatch (show false = true from h)
  | .scr _, h => nomatch (show false = true from h)
  | .ob _ _ _, h => nomatch (show false = true from h)
theorem plain_noDicts : ∀ {l : List D}, PyData.plainAll (pys l) = true → PyData.hasDictAll (pys l) = false
  | [], _ => rfl
  | a :: l, h => by
    have h : ((py a).plain && PyData.plainAll (pys l)) = true := h
    rw [Bool.and_eq_true] at h
    show ((py a).hasDict || PyData.hasDictAll (pys l)) = false
    rw [plain_noDict h.1, plain_noDicts h.2]
    rfl
end
section
variable {X : Cx} {w : Wr} (hw : w.K = X.K)
include hw
/-- a datum's truth in the layer's words -/
theorem tru_of {H : Hp} {O : Addr → Prop} {d : D} {x : V} {k : Bool} (r : Rep w H O d x) (e : truthD d = .ok k) : TruV X.K x H k := by
  cases d with
  | non => cases e; rw [show x = _ from r]; exact rfl
  | bl b => cases e; rw [show x = _ from r]; exact rfl
  | int i => cases e; rw [show x = _ from r]; exact rfl
  | str s =>
    simp only [truthD] at e
    split at e
    · rename_i hz
      cases e
      rw [show x = _ from r]
      rw [szL_eq] at hz
      exact ⟨hz, rfl⟩
    · cases e
  | tup l =>
    cases e
    obtain ⟨p, xs, rfl, hp, r1⟩ := r
    refine .inr (.inl ⟨xs, hw ▸ hp, ?_⟩)
    have := Reps.length r1
    cases l <;> cases xs <;> first | rfl | (simp at this)
  | lst l =>
    cases e
    obtain ⟨p, xs, rfl, hp, _, r1⟩ := r
    refine .inl ⟨xs, SqL.of hp, ?_⟩
    have := Reps.length r1
    cases l <;> cases xs <;> first | rfl | (simp at this)
  | _ => cases e
omit hw in
theorem atI_map {α β : Type} (f : α → β) (l : List α) (i : Int) : atI (l.map f) i = (atI l i).map f := by
  unfold atI
  rw [List.length_map]
  cases ixN l.length i with
  | none => rfl
  | some j => simp [List.getElem?_map]
omit hw in
theorem Reps.atI {H : Hp} {O : Addr → Prop} {l : List D} {vs : List V} {i : Int} {d : D} (r : Reps w H O l vs) (h : L2.atI l i = some d) : ∃ v, L2.atI vs i = some v ∧ Rep w H O d v := by
  unfold L2.atI at h ⊢
  rw [← Reps.length r]
  cases e : ixN l.length i with
  | none => rw [e] at h; cases h
  | some j =>
    rw [e] at h
    exact Reps.get r h
/-- d[k] -/
theorem ix_dct {value slice : Expr} {pins : List (Addr × Obj)} {s : Shared} {σ : L2.St} {H : Hp} {p : Addr} {y z : V} {v u : Value} {Q : VK} (hu : X.A.units + 1 < cLine) (I : Inv X pins σ H s) (rx : RelV (.ref p) v) (ry : RelV y u) (g : DGet H p y (some z)) (q : Q z H)
    (hs : subscripted slice false v u = operate [v, u] (getItem v u)) : wpAny (model X.prog X.w) X.A (subscriptTail value slice v u) (EP X pins σ Q) X.xe s := by
  cases (show v = Value.ref p from rx)
  have hT := dict_typeIs I g
  unfold subscriptTail
  refine wpAny_bind ?_
  rw [getitemInPython_of_ne hT.not_modules]
  refine wpAny_bind (wpAny_specialOf hT PySem.F.slot_dict_getitem.lookup ?_)
  have h2 : wpAny (model X.prog X.w) X.A (getItem (.ref p) u) (EP X pins σ Q) X.xe s := d_getItem hu I g ry fun w' s3 I3 rw' => ⟨z, H, I3, rw', q⟩
  have fin : wpAny (model X.prog X.w) X.A (subscripted slice false (.ref p) u) (fun r s₃ => wpAny (model X.prog X.w) X.A (letTemporaryGo value (.ref p) r >>= fun _ => pure r) (EP X pins σ Q) X.xe s₃) X.xe s := by
    rw [hs]
    exact wpAny_operating (wpAny_mono h2 (fun r s₃ h₃ => wpAny_bind (wpAny_letTemporaryGo (wpAny_pure h₃))) fun _ _ x => x)
  first
    | exact wpAny_pure (wpAny_bind fin)
    | exact wpAny_bind (wpAny_pure (wpAny_bind fin))
    | exact wpAny_bind fin
/-- a[b] -/
theorem ix_any (hu : X.A.units + 66 < cLine) : IxR X (RX w) := by
  intro value slice pins s σ H x y v u Q I rx ry ⟨a, b, O, ra, rb, d, e, fin⟩ hs
  · cases a with
    | lst l =>
      cases b <;> simp only [ixD, reduceCtorEq] at e
      rename_i i
      split at e
      · rename_i d' hd
        cases e
        obtain ⟨p, xs, rfl, hp, r1⟩ := ra
        obtain ⟨z, hz, rz⟩ := Reps.atI r1 hd
        exact ix_list value slice pins s σ H _ y v u Q I rx ry ⟨p, xs, i, z, rfl, rb, SqL.of hp, hz, fin _ rz⟩ hs
      · cases e
    | tup l =>
      cases b <;> simp only [ixD, reduceCtorEq] at e
      rename_i i
      split at e
      · rename_i d' hd
        cases e
        obtain ⟨p, xs, rfl, hp, r1⟩ := ra
        obtain ⟨z, hz, rz⟩ := Reps.atI r1 hd
        exact ix_tup value slice pins s σ H _ y v u Q I rx ry ⟨p, xs, i, z, rfl, rb, hw ▸ hp, hz, fin _ rz⟩ hs
      · cases e
    | scr l =>
      cases b <;> simp only [ixD, reduceCtorEq] at e
      rename_i i
      split at e
      · rename_i d' hd
        cases e
        obtain ⟨p, rfl, hp⟩ := ra
        refine ix_list value slice pins s σ H _ y v u Q I rx ry ⟨p, l.map V.int, i, .int d', rfl, rb, ?_, by rw [atI_map, hd]; rfl, fin _ rfl⟩ hs
        rcases hp with ⟨o, hp⟩ | hp
        · exact .inl (.inr ⟨o, hp⟩)
        · exact .inr (hw ▸ hp)
      · cases e
    | str z =>
      cases b <;> simp only [ixD, reduceCtorEq] at e
      rename_i i
      split at e
      · rename_i hz
        split at e
        · rename_i c hc
          cases e
          rw [szL_eq] at hz
          exact ix_str value slice pins s σ H _ y v u Q I rx ry ⟨z, i, c, ra, rb, hz, hc, fin _ rfl⟩ hs
        · cases e
      · cases e
    | dct ks ds =>
      have e : (match keyK b with
        | some q => if isTk ks = true then R.no else (match getKD ks ds q with
          | some d => R.ok d
          | none => .no)
        | none => .no) = .ok d := by
        cases b <;> exact e
      split at e
      · rename_i k hk
        split at e
        · cases e
        · rename_i ht
          split at e
          · rename_i d' hd
            cases e
            obtain ⟨p, kvs, rfl, hp, h2, r2⟩ := dct_k ra (Bool.eq_false_iff.mpr ht)
            have eb := keyK_inv hk
            subst eb
            have ey := rep_keyD rb
            subst ey
            rw [h2] at hd
            obtain ⟨z, hz, rz⟩ := get_key k r2 hd
            have g : DGet H p (kV k) (some z) := by rw [← hz]; exact DGet.k hp
            exact ix_dct hw (by omega) I rx ry g (fin _ rz) hs
          · cases e
      · cases e
    | _ => cases b <;> simp only [ixD, reduceCtorEq] at e

/-! ### slices -/
omit hw in
theorem cut_map {H : Hp} {O : Addr → Prop} {l : List D} {vs : List V} (lo hi : Option Int) (r : Reps w H O l vs) : Reps w H O (cut l lo hi) (cutV vs lo hi) := by
  unfold cut cutV
  rw [← Reps.length r]
  exact Reps.take _ (Reps.drop _ r)
def RS (w : Wr) : V → Option Int → Option Int → Hp → VK → Prop := fun x lo hi H Q => ∃ a O, Dom O H ∧ Rep w H O a x ∧ ∃ d, slD a lo hi = .ok d ∧ HO1 w H O d Q
omit hw in
theorem cut_whole {α : Type} {l : List α} {lo hi : Option Int} (h : HT.sIx l.length 0 lo = 0 ∧ HT.sIx l.length l.length hi = l.length) : cut l lo hi = l := by
  unfold cut
  rw [h.1, h.2]
  simp
theorem sl_any : SlR X (RS w) := by
  intro pins s σ H x v vl vu lo hi sl Q I rx hs pl pu ⟨a, O, dom, ra, d, e, q⟩
  cases a with
  | lst l =>
    cases e
    obtain ⟨p, xs, rfl, hp, _, r1⟩ := ra
    exact sl_list pins s σ H _ v vl vu lo hi sl Q I rx hs pl pu ⟨p, xs, rfl, SqL.of hp, HO1.lst q dom (cut_map lo hi r1)⟩
  | tup l =>
    cases e
    obtain ⟨p, xs, rfl, hp, r1⟩ := ra
    have hl := Reps.length r1
    refine sl_tupA pins s σ H _ v vl vu lo hi sl Q I rx hs pl pu ⟨p, xs, rfl, hw ▸ hp, fun z => ?_, fun _ => HO1.tup q (cut_map lo hi r1)⟩
    rw [← hl] at z
    refine HO1.sc q rfl ⟨p, xs, rfl, hp, ?_⟩
    rw [cut_whole z]; exact r1
  | str z =>
    simp only [slD] at e
    split at e
    · rename_i hz
      cases e
      rw [szL_eq] at hz
      refine sl_str pins s σ H _ v vl vu lo hi sl Q I rx hs pl pu ⟨z, ra, hz, HO1.sc q rfl ?_⟩
      show V.str _ = V.str _
      first | rfl | (congr 1; unfold cutS cut; simp [Str.length])
    · cases e
  | _ => cases e

/-! ### built-in functions -/
def idOf : Bi → Value
  | .len => .builtin "len" | .int => .type "int" | .str => .type "str" | .abs => .builtin "abs" | .tuple => .type "tuple" | .list => .type "list" | .sum => .builtin "sum" | .max => .builtin "max"
  | .min => .builtin "min" | .repr => .builtin "repr" | .sorted => .builtin "sorted" | .all => .builtin "all" | .any => .builtin "any" | _ => .none
def RL (w : Wr) (f : List D → R D) : List V → Hp → VK → Prop := fun xs H Q => ∃ ds O, Dom O H ∧ Reps w H O ds xs ∧ ∃ d, f ds = .ok d ∧ HO1 w H O d Q
omit hw in
theorem seqOf_ok {d : D} {l : List D} (h : seqOf d = some l) : d = .tup l ∨ d = .lst l := by
  cases d <;> simp only [seqOf, reduceCtorEq, Option.some.injEq] at h
  · exact .inl (by rw [h])
  · exact .inr (by rw [h])
omit hw in
theorem Reps.one_of {H : Hp} {O : Addr → Prop} {d : D} {xs : List V} (r : Reps w H O [d] xs) : ∃ x, xs = [x] ∧ Rep w H O d x := by
  obtain ⟨x, r', e, h, e'⟩ := r
  cases (show r' = [] from e')
  exact ⟨x, e, h⟩
omit hw in
theorem Reps.two_of {H : Hp} {O : Addr → Prop} {d d' : D} {xs : List V} (r : Reps w H O [d, d'] xs) : ∃ x y, xs = [x, y] ∧ Rep w H O d x ∧ Rep w H O d' y := by
  obtain ⟨x, r', e, h, r2⟩ := r
  obtain ⟨y, e2, h2⟩ := Reps.one_of r2
  exact ⟨x, y, by rw [e, e2], h, h2⟩
theorem bi_len : CallR X (idOf .len) (RL w (biD .len)) := by
  intro pins s σ H xs us Q I r ⟨ds, O, dom, rr, d, e, q⟩
  match ds, e with
  | [.tup l], e =>
    cases e
    obtain ⟨x, rfl, p, vs, rfl, hp, r1⟩ := Reps.one_of rr
    refine call_len pins s σ H _ us Q I r ⟨_, _, rfl, .inr ⟨vs, hw ▸ hp, rfl⟩, ?_⟩
    rw [← Reps.length r1]; exact HO1.sc q rfl rfl
  | [.lst l], e =>
    cases e
    obtain ⟨x, rfl, p, vs, rfl, hp, _, r1⟩ := Reps.one_of rr
    refine call_len pins s σ H _ us Q I r ⟨_, _, rfl, .inl ⟨vs, SqL.of hp, rfl⟩, ?_⟩
    rw [← Reps.length r1]; exact HO1.sc q rfl rfl
  | [.scr l], e =>
    cases e
    obtain ⟨x, rfl, p, rfl, hp⟩ := Reps.one_of rr
    refine call_len pins s σ H _ us Q I r ⟨_, l.length, rfl, .inl ⟨l.map V.int, ?_, by rw [List.length_map]⟩, HO1.sc q rfl rfl⟩
    rcases hp with ⟨o, hp⟩ | hp
    · exact .inl (.inr ⟨o, hp⟩)
    · exact .inr (hw ▸ hp)
  | [.dct ks ds], e =>
    obtain ⟨x, rfl, r1⟩ := Reps.one_of rr
    simp only [biD] at e
    split at e
    · cases e
    · rename_i ht
      cases e
      obtain ⟨p, kvs, rfl, hp, h2, r2⟩ := dct_k (Rep.k r1) (Bool.eq_false_iff.mpr ht)
      obtain ⟨u, rfl, ru⟩ := vals1 r
      cases (show u = Value.ref p from ru)
      refine d_len I (.inl hp) fun t s' I' => ⟨.int kvs.length, H, I', ⟨t, rfl⟩, ?_⟩
      have : (ks.length : Int) = kvs.length := by rw [h2, List.length_map]
      rw [← this]
      exact HO1.sc q rfl rfl
  | [.str z], e =>
    obtain ⟨x, rfl, r1⟩ := Reps.one_of rr
    simp only [biD] at e
    split at e
    · rename_i hz
      cases e
      rw [szL_eq] at hz
      rw [show x = _ from r1] at r
      exact call_len pins s σ H [.str z] us Q I r ⟨.str z, z.length, rfl, ⟨hz, rfl⟩, HO1.sc q rfl rfl⟩
    · cases e
theorem bi_int : CallR X (idOf .int) (RL w (biD .int)) := by
  intro pins s σ H xs us Q I r ⟨ds, O, dom, rr, d, e, q⟩
  match ds, e with
  | [.int i], e =>
    cases e
    obtain ⟨x, rfl, r1⟩ := Reps.one_of rr
    exact call_int1 pins s σ H _ us Q I r (.inl ⟨i, by rw [show x = _ from r1], HO1.sc q rfl rfl⟩)
  | [.bl i], e =>
    cases e
    obtain ⟨x, rfl, r1⟩ := Reps.one_of rr
    exact call_int1 pins s σ H _ us Q I r (.inr ⟨i, by rw [show x = _ from r1], HO1.sc q rfl rfl⟩)
theorem bi_str : CallR X (idOf .str) (RL w (biD .str)) := by
  intro pins s σ H xs us Q I r ⟨ds, O, dom, rr, d, e, q⟩
  match ds, e with
  | [.int i], e =>
    obtain ⟨x, rfl, r1⟩ := Reps.one_of rr
    simp only [biD] at e
    split at e
    · rename_i hz
      cases e
      exact call_str_int pins s σ H _ us Q I r ⟨i, by rw [show x = _ from r1], of_decide_eq_true hz, HO1.sc q rfl rfl⟩
    · cases e
theorem bi_abs : CallR X (idOf .abs) (RL w (biD .abs)) := by
  intro pins s σ H xs us Q I r ⟨ds, O, dom, rr, d, e, q⟩
  match ds, e with
  | [.int i], e =>
    cases e
    obtain ⟨x, rfl, r1⟩ := Reps.one_of rr
    exact call_abs pins s σ H _ us Q I r ⟨i, by rw [show x = _ from r1], HO1.sc q rfl rfl⟩
theorem bi_tuple : CallR X (idOf .tuple) (RL w (biD .tuple)) := by
  intro pins s σ H xs us Q I r ⟨ds, O, dom, rr, d, e, q⟩
  match ds, e with
  | [a], e =>
    obtain ⟨x, rfl, r1⟩ := Reps.one_of rr
    simp only [biD] at e
    split at e
    · rename_i l hl
      cases e
      rcases seqOf_ok hl with rfl | rfl
      · obtain ⟨p, vs, rfl, hp, r2⟩ := r1
        exact call_tuple_of pins s σ H _ us Q I r ⟨p, vs, rfl, .inr ⟨hw ▸ hp, HO1.sc q rfl ⟨p, vs, rfl, hp, r2⟩⟩⟩
      · obtain ⟨p, vs, rfl, hp, _, r2⟩ := r1
        exact call_tuple_of pins s σ H _ us Q I r ⟨p, vs, rfl, .inl ⟨SqL.of hp, HO1.tup q r2⟩⟩
    · cases e
theorem bi_list : CallR X (idOf .list) (RL w (biD .list)) := by
  intro pins s σ H xs us Q I r ⟨ds, O, dom, rr, d, e, q⟩
  match ds, e with
  | [a], e =>
    obtain ⟨x, rfl, r1⟩ := Reps.one_of rr
    simp only [biD] at e
    split at e
    · rename_i l hl
      cases e
      rcases seqOf_ok hl with rfl | rfl
      · obtain ⟨p, vs, rfl, hp, r2⟩ := r1
        exact call_list_of pins s σ H _ us Q I r ⟨p, vs, rfl, .inr (hw ▸ hp), HO1.lst q dom r2⟩
      · obtain ⟨p, vs, rfl, hp, _, r2⟩ := r1
        exact call_list_of pins s σ H _ us Q I r ⟨p, vs, rfl, .inl (SqL.of hp), HO1.lst q dom r2⟩
    · cases e
omit hw in
theorem bi_sum (hc : X.calm = true) : CallR X (idOf .sum) (RL w (biD .sum)) := by
  intro pins s σ H xs us Q I r ⟨ds, O, dom, rr, d, e, q⟩
  match ds, e with
  | [.lst l], e =>
    obtain ⟨x, rfl, p, vs, rfl, hp, _, r1⟩ := Reps.one_of rr
    simp only [biD] at e
    split at e
    · rename_i is hi
      cases e
      have el := intsOf_eq hi
      subst el
      cases Reps.ints r1
      exact cr_sum hc pins s σ H _ us Q I r ⟨p, is, rfl, SqL.of hp, HO1.sc q rfl rfl⟩
    · cases e
omit hw in
theorem bi_all (hc : X.calm = true) : CallR X (idOf .all) (RL w (biD .all)) := by
  intro pins s σ H xs us Q I r ⟨ds, O, dom, rr, d, e, q⟩
  match ds, e with
  | [.lst l], e =>
    obtain ⟨x, rfl, p, vs, rfl, hp, _, r1⟩ := Reps.one_of rr
    simp only [biD] at e
    split at e
    · rename_i is hi
      cases e
      have el := blsOf_eq hi
      subst el
      cases Reps.bls r1
      exact cr_all hc pins s σ H _ us Q I r ⟨p, is, rfl, SqL.of hp, HO1.sc q rfl rfl⟩
    · cases e
omit hw in
theorem bi_any (hc : X.calm = true) : CallR X (idOf .any) (RL w (biD .any)) := by
  intro pins s σ H xs us Q I r ⟨ds, O, dom, rr, d, e, q⟩
  match ds, e with
  | [.lst l], e =>
    obtain ⟨x, rfl, p, vs, rfl, hp, _, r1⟩ := Reps.one_of rr
    simp only [biD] at e
    split at e
    · rename_i is hi
      cases e
      have el := blsOf_eq hi
      subst el
      cases Reps.bls r1
      exact cr_any hc pins s σ H _ us Q I r ⟨p, is, rfl, SqL.of hp, HO1.sc q rfl rfl⟩
    · cases e
omit hw in
theorem readsAll_ints {h : Heap} : ∀ {vs : List Value} {ns : List Int}, IntsAre vs ns → ReadsAll h vs (ns.map PyData.int) []
  | _, _, .nil => .nil
  | _, _, .cons n t r => .cons (.int n t) (readsAll_ints r)
omit hw in
theorem alike_ints (ns : List Int) : PySem.W.AlikeAll (ns.map PyData.int) := by
  refine ⟨fun x hx y hy => ?_, fun x hx => ?_⟩
  · obtain ⟨i, _, rfl⟩ := List.mem_map.mp hx
    obtain ⟨j, _, rfl⟩ := List.mem_map.mp hy
    rfl
  · obtain ⟨i, _, rfl⟩ := List.mem_map.mp hx
    intro h; cases h
omit hw in
theorem depth_ints : ∀ ns : List Int, PyData.depthAll (ns.map PyData.int) = 0
  | [] => rfl
  | n :: ns => by rw [List.map_cons, PyData.depthAll, depth_ints ns]; rfl
omit hw in
theorem isNonD_py {a : D} (h : isNonD a = false) : py a ≠ .none := by
  cases a <;> first | (exact absurd h (by decide)) | (intro z; exact PyData.noConfusion z)
omit hw in
theorem minF_py (x : D) (l : List D) : py (minF x l) = PySem.W.minD (py x) (pys l) := by
  unfold minF PySem.W.minD
  induction l generalizing x with
  | nil => rfl
  | cons y l ih =>
    rw [List.foldl_cons, ih]
    show _ = List.foldl _ _ (py y :: pys l)
    rw [List.foldl_cons]
    split <;> rfl
omit hw in
theorem maxF_py (x : D) (l : List D) : py (maxF x l) = PySem.W.maxD (py x) (pys l) := by
  unfold maxF PySem.W.maxD
  induction l generalizing x with
  | nil => rfl
  | cons y l ih =>
    rw [List.foldl_cons, ih]
    show _ = List.foldl _ _ (py y :: pys l)
    rw [List.foldl_cons]
    split <;> rfl
omit hw in
theorem minF_mem (x : D) (l : List D) : minF x l ∈ x :: l := by
  unfold minF
  induction l generalizing x with
  | nil => exact List.mem_cons_self
  | cons y l ih =>
    rw [List.foldl_cons]
    rcases List.mem_cons.mp (ih (if PySem.W.dataLt (py y) (py x) then y else x)) with h | h
    · rw [h]; split
      · exact List.mem_cons_of_mem _ List.mem_cons_self
      · exact List.mem_cons_self
    · exact List.mem_cons_of_mem _ (List.mem_cons_of_mem _ h)
omit hw in
theorem maxF_mem (x : D) (l : List D) : maxF x l ∈ x :: l := by
  unfold maxF
  induction l generalizing x with
  | nil => exact List.mem_cons_self
  | cons y l ih =>
    rw [List.foldl_cons]
    rcases List.mem_cons.mp (ih (if PySem.W.dataLt (py x) (py y) then y else x)) with h | h
    · rw [h]; split
      · exact List.mem_cons_of_mem _ List.mem_cons_self
      · exact List.mem_cons_self
    · exact List.mem_cons_of_mem _ (List.mem_cons_of_mem _ h)
omit hw in
theorem alikeOk_at {l : List D} (h : alikeOk l = true) : ∀ a ∈ l, plainB a = true ∧ isNonD a = false ∧ isLst a = false ∧ ∀ b ∈ l, PySem.W.alike (py a) (py b) = true := fun a m => by
  unfold alikeOk at h
  rw [List.all_eq_true] at h
  have q := h a m
  simp only [Bool.and_eq_true, Bool.not_eq_true', List.all_eq_true] at q
  exact ⟨q.1.1.1, q.1.1.2, q.1.2, q.2⟩
omit hw in
theorem pys_mem : ∀ {l : List D} {x : PyData}, x ∈ pys l → ∃ a ∈ l, py a = x
  | a :: l, x, h => by
    have h : x ∈ py a :: pys l := h
    rcases List.mem_cons.mp h with e | e
    · exact ⟨a, List.mem_cons_self, e.symm⟩
    · obtain ⟨b, m, q⟩ := pys_mem e
      exact ⟨b, List.mem_cons_of_mem _ m, q⟩
omit hw in
theorem alikeOk_data {l : List D} (h : alikeOk l = true) : PySem.W.AlikeAll (pys l) := by
  refine ⟨fun x hx y hy => ?_, fun x hx => ?_⟩
  · obtain ⟨a, ma, rfl⟩ := pys_mem hx
    obtain ⟨b, mb, rfl⟩ := pys_mem hy
    exact (alikeOk_at h a ma).2.2.2 b mb
  · obtain ⟨a, ma, rfl⟩ := pys_mem hx
    exact isNonD_py (alikeOk_at h a ma).2.1
omit hw in
theorem depth_pys : ∀ {l : List D}, (∀ a ∈ l, plainB a = true) → PyData.depthAll (pys l) ≤ 64
  | [], _ => Nat.zero_le _
  | a :: l, h => by
    have h1 := h a List.mem_cons_self
    unfold plainB depth64 at h1
    rw [Bool.and_eq_true, decide_eq_true_eq] at h1
    exact Nat.max_le.mpr ⟨h1.2, depth_pys fun b m => h b (List.mem_cons_of_mem _ m)⟩
theorem reads_pys {pins : List (Addr × Obj)} {s : Shared} {σ : L2.St} {H : Hp} {O : Addr → Prop} (I : Inv X pins σ H s) : ∀ {l : List D} {vs : List V} {its : List Value}, (∀ a ∈ l, plainB a = true) → Reps w H O l vs → Vals vs its → ∃ as, ReadsAll s.heap its (pys l) as
  | [], _, _, _, r, rv => by
    cases (show _ = [] from r)
    cases rv
    exact ⟨_, .nil⟩
  | a :: l, _, _, h, ⟨v, r', e, r1, r2⟩, rv => by
    subst e
    cases rv with
    | cons q t =>
      obtain ⟨as, k, _⟩ := reads_of hw I q (h a List.mem_cons_self) r1
      obtain ⟨bs, k2⟩ := reads_pys I (fun b m => h b (List.mem_cons_of_mem _ m)) r2 t
      exact ⟨_, .cons k k2⟩
/-- the value that was read is the datum's -/
theorem mm_back {pins : List (Addr × Obj)} {s : Shared} {σ : L2.St} {H : Hp} {O : Addr → Prop} (I : Inv X pins σ H s) {l : List D} {vs : List V} {its : List Value} {d : D} {i : Nat} {v : Value} {h' : Heap} {bs : List Addr} (hp : ∀ a ∈ l, plainB a = true) (r : Reps w H O l vs) (rv : Vals vs its) (hd : d ∈ l)
    (hi : its[i]? = some v) (rd : Reads h' v (py d) bs) (hk : ∀ b o, s.heap.get? b = some o → h'.get? b = some o) : ∃ z, RelV z v ∧ Rep w H O d z := by
  have hl := rv.length
  have hil := (List.getElem?_eq_some_iff.mp hi).1
  have hvi : vs[i]? = some vs[i] := List.getElem?_eq_getElem (by omega)
  obtain ⟨u, hu, ru⟩ := rv.get hvi
  rw [hi] at hu
  cases hu
  obtain ⟨d', hd', rd'⟩ := Reps.get' r hvi
  have m' : d' ∈ l := List.mem_of_getElem? hd'
  obtain ⟨as, k, p1, _⟩ := reads_of hw I ru (hp d' m') rd'
  have e := (PySem.Reads.unique (PyProof.Rows.Reads.keeps hk k) _ _ rd).1
  have p2 : (py d).plain = true := by
    have := hp d hd
    unfold plainB at this
    rw [Bool.and_eq_true] at this
    exact this.1
  have e2 := py_inj d' d p1 p2 e
  subst e2
  exact ⟨_, ru, rd'⟩
theorem mm_seq {id : String} (F : D → List D → D) (G : PyData → List PyData → PyData) (hFG : ∀ x l, py (F x l) = G (py x) (pys l)) (hmem : ∀ x l, F x l ∈ x :: l)
    {pins : List (Addr × Obj)} {s : Shared} {σ : L2.St} {H : Hp} {O : Addr → Prop} {l : List D} {vs : List V} {its : List Value} {p : Addr} {d : D} {Q : VK} (I : Inv X pins σ H s) (r : Reps w H O l vs) (rv : Vals vs its)
    (e : (match l with | x :: l => if alikeOk (x :: l) then R.ok (F x l) else .no | [] => .no) = .ok d) (q : HO1 w H O d Q) (hu : X.A.units + 66 < cLine)
    (rule : ∀ (x : PyData) (xs : List PyData) (as : List Addr), ReadsAll s.heap its (x :: xs) as → PySem.W.AlikeAll (x :: xs) → X.A.units + 1 + PyData.depthAll (x :: xs) < cLine →
      (∀ (i : Nat) v h' tk bs, its.toArray[i]? = some v → Reads h' v (G x xs) bs → (∀ b o, s.heap.get? b = some o → h'.get? b = some o) → (EP X pins σ Q) v { s with heap := h', toks := tk }) → wpAny (model X.prog X.w) X.A (call (.builtin id) [.ref p]) (EP X pins σ Q) X.xe s) :
    wpAny (model X.prog X.w) X.A (call (.builtin id) [.ref p]) (EP X pins σ Q) X.xe s := by
  cases l with
  | nil => cases e
  | cons x l =>
    have e : (if alikeOk (x :: l) = true then R.ok (F x l) else .no) = .ok d := e
    split at e
    case isFalse => cases e
    rename_i ho
    cases e
    have hp : ∀ a ∈ x :: l, plainB a = true := fun a m => (alikeOk_at ho a m).1
    obtain ⟨as, ra⟩ := reads_pys hw I hp r rv
    have hd := depth_pys hp
    refine rule (py x) (pys l) as ra (alikeOk_data ho) (by show X.A.units + 1 + PyData.depthAll (pys (x :: l)) < cLine; omega) fun i v h' tk bs hi rd hk => ?_
    obtain ⟨z, rz, rz2⟩ := mm_back hw I hp r rv (hmem x l) (by simpa using hi) (by rw [hFG]; exact rd) hk
    exact ⟨z, H, I.kept hk, rz, HO1.sc q (alikeOk_at ho _ (hmem x l)).2.2.1 rz2⟩
omit hw in
theorem ints_case {l : List D} : (∃ x is, intsOf l = some (x :: is)) ∨ intsOf l = some [] ∨ intsOf l = none := by
  cases h : intsOf l with
  | none => exact .inr (.inr rfl)
  | some is => cases is with
    | nil => exact .inr (.inl rfl)
    | cons x is => exact .inl ⟨x, is, rfl⟩
theorem bi_max (hc : X.calm = true) (hu : X.A.units + 66 < cLine) : CallR X (idOf .max) (RL w (biD .max)) := by
  intro pins s σ H xs us Q I r ⟨ds, O, dom, rr, d, e, q⟩
  match ds, e with
  | [.int i, .int j], e =>
    cases e
    obtain ⟨x, y, rfl, r1, r2⟩ := Reps.two_of rr
    exact call_max2 hc pins s σ H _ us Q I r ⟨i, j, by rw [show x = _ from r1, show y = _ from r2], HO1.sc q rfl rfl⟩
  | [.lst l], e =>
    obtain ⟨x, rfl, p, vs, rfl, hp, _, r1⟩ := Reps.one_of rr
    simp only [biD] at e
    split at e
    · rename_i y is hi
      cases e
      have el := intsOf_eq hi
      subst el
      cases Reps.ints r1
      obtain ⟨its, rv, hl, _⟩ := I.list (SqL.of hp)
      rw [Vals.ref1 r]
      refine PySem.W.max_list_data (I.ok.hd hc) hl.isList (readsAll_ints rv.ints) (alike_ints (y :: is)) (by rw [show PyData.int y :: is.map PyData.int = (y :: is).map PyData.int from rfl, depth_ints]; omega) fun i v h' tk bs _ rd hk => ?_
      rw [PySem.W.maxD_ints] at rd
      cases rd
      exact ⟨.int _, H, I.kept hk, ⟨_, rfl⟩, HO1.sc q rfl rfl⟩
    · obtain ⟨its, rv, hl, _⟩ := I.list (SqL.of hp)
      rw [Vals.ref1 r]
      exact mm_seq hw maxF PySem.W.maxD maxF_py maxF_mem I r1 rv e q hu fun x xs as h1 h2 h3 h4 => PySem.W.max_list_data (I.ok.hd hc) hl.isList h1 h2 h3 h4
  | [.tup l], e =>
    obtain ⟨x, rfl, p, vs, rfl, hp, r1⟩ := Reps.one_of rr
    obtain ⟨its, rv, hl, _⟩ := I.tuple (hw ▸ hp)
    rw [Vals.ref1 r]
    simp only [biD] at e
    split at e
    · rename_i y is hi
      cases e
      have el := intsOf_eq hi
      subst el
      cases Reps.ints r1
      refine PySem.W.max_tuple_data (I.ok.hd hc) hl (readsAll_ints rv.ints) (alike_ints (y :: is)) (by rw [show PyData.int y :: is.map PyData.int = (y :: is).map PyData.int from rfl, depth_ints]; omega) fun i v h' tk bs _ rd hk => ?_
      rw [PySem.W.maxD_ints] at rd
      cases rd
      exact ⟨.int _, H, I.kept hk, ⟨_, rfl⟩, HO1.sc q rfl rfl⟩
    · exact mm_seq hw maxF PySem.W.maxD maxF_py maxF_mem I r1 rv e q hu fun x xs as h1 h2 h3 h4 => PySem.W.max_tuple_data (I.ok.hd hc) hl h1 h2 h3 h4
theorem bi_min (hc : X.calm = true) (hu : X.A.units + 66 < cLine) : CallR X (idOf .min) (RL w (biD .min)) := by
  intro pins s σ H xs us Q I r ⟨ds, O, dom, rr, d, e, q⟩
  match ds, e with
  | [.int i, .int j], e =>
    cases e
    obtain ⟨x, y, rfl, r1, r2⟩ := Reps.two_of rr
    exact call_min2 hc pins s σ H _ us Q I r ⟨i, j, by rw [show x = _ from r1, show y = _ from r2], HO1.sc q rfl rfl⟩
  | [.lst l], e =>
    obtain ⟨x, rfl, p, vs, rfl, hp, _, r1⟩ := Reps.one_of rr
    simp only [biD] at e
    split at e
    · rename_i y is hi
      cases e
      have el := intsOf_eq hi
      subst el
      cases Reps.ints r1
      obtain ⟨its, rv, hl, _⟩ := I.list (SqL.of hp)
      rw [Vals.ref1 r]
      refine PySem.W.min_list_data (I.ok.hd hc) hl.isList (readsAll_ints rv.ints) (alike_ints (y :: is)) (by rw [show PyData.int y :: is.map PyData.int = (y :: is).map PyData.int from rfl, depth_ints]; omega) fun i v h' tk bs _ rd hk => ?_
      rw [PySem.W.minD_ints] at rd
      cases rd
      exact ⟨.int _, H, I.kept hk, ⟨_, rfl⟩, HO1.sc q rfl rfl⟩
    · obtain ⟨its, rv, hl, _⟩ := I.list (SqL.of hp)
      rw [Vals.ref1 r]
      exact mm_seq hw minF PySem.W.minD minF_py minF_mem I r1 rv e q hu fun x xs as h1 h2 h3 h4 => PySem.W.min_list_data (I.ok.hd hc) hl.isList h1 h2 h3 h4
  | [.tup l], e =>
    obtain ⟨x, rfl, p, vs, rfl, hp, r1⟩ := Reps.one_of rr
    obtain ⟨its, rv, hl, _⟩ := I.tuple (hw ▸ hp)
    rw [Vals.ref1 r]
    simp only [biD] at e
    split at e
    · rename_i y is hi
      cases e
      have el := intsOf_eq hi
      subst el
      cases Reps.ints r1
      refine PySem.W.min_tuple_data (I.ok.hd hc) hl (readsAll_ints rv.ints) (alike_ints (y :: is)) (by rw [show PyData.int y :: is.map PyData.int = (y :: is).map PyData.int from rfl, depth_ints]; omega) fun i v h' tk bs _ rd hk => ?_
      rw [PySem.W.minD_ints] at rd
      cases rd
      exact ⟨.int _, H, I.kept hk, ⟨_, rfl⟩, HO1.sc q rfl rfl⟩
    · exact mm_seq hw minF PySem.W.minD minF_py minF_mem I r1 rv e q hu fun x xs as h1 h2 h3 h4 => PySem.W.min_tuple_data (I.ok.hd hc) hl h1 h2 h3 h4
/-- max(xs, default=d), min(xs, default=d) -/
def RK (w : Wr) (f : List D → R D) : List V → List V → Hp → VK → Prop := fun xs zs H Q => ∃ a b O, Dom O H ∧ Reps w H O [a] xs ∧ Reps w H O [b] zs ∧ ∃ d, f [a, b] = .ok d ∧ HO1 w H O d Q
omit hw in
theorem lit_rel {b : D} {z : V} {wv : Value} {H : Hp} {O : Addr → Prop} {Q : VK} (hb : litD b = true) (r : Rep w H O b z) (rv : RelV z wv) (q : HO1 w H O b Q) : Q z H := by
  cases b with
  | int i => rw [show z = _ from r]; exact HO1.sc q rfl rfl
  | non => rw [show z = _ from r]; exact HO1.sc q rfl rfl
  | _ => cases hb
omit hw in
theorem vals_one {z : V} {ws : List Value} (r : Vals [z] ws) : ∃ wv, ws = [wv] ∧ RelV z wv := by
  cases r with
  | cons r t => cases t; exact ⟨_, rfl, r⟩
theorem bi_maxd (hc : X.calm = true) (hu : X.A.units + 66 < cLine) : CallRK X (.builtin "max") [Str.ofString "default"] (RK w (biD .maxd)) := by
  intro pins s σ H xs zs us ws Q I r rz ⟨a, b, O, dom, ra, rb, d, e, q⟩
  match a, e with
  | .lst l, e =>
    obtain ⟨x, rfl, p, vs, rfl, hp, _, r1⟩ := Reps.one_of ra
    obtain ⟨z, rfl, rb2⟩ := Reps.one_of rb
    obtain ⟨wv, rfl, rw_⟩ := vals_one rz
    simp only [biD] at e
    split at e
    · rename_i hb
      cases hn : intsOf l with
      | none =>
        rw [hn] at e
        have e : maxR l = .ok d := e
        obtain ⟨its, rv, hl, _⟩ := I.list (SqL.of hp)
        rw [Vals.ref1 r]
        cases l with
        | nil => cases hn
        | cons x l =>
          have e : (if alikeOk (x :: l) = true then R.ok (maxF x l) else .no) = .ok d := e
          split at e
          case isFalse => cases e
          rename_i ho
          cases e
          have hpl : ∀ a ∈ x :: l, plainB a = true := fun a m => (alikeOk_at ho a m).1
          obtain ⟨as, ra⟩ := reads_pys hw I hpl r1 rv
          have hd := depth_pys hpl
          refine PySem.W.max_list_default (d := wv) (I.ok.hd hc) hl.isList ra (alikeOk_data ho) (by omega) (fun h0 => by cases h0) fun y ys i v h' tk bs h1 hi rd hk => ?_
          have h1 : py x :: pys l = y :: ys := h1
          injection h1 with h1 h2
          subst h1 h2
          obtain ⟨z, rz, rz2⟩ := mm_back hw I hpl r1 rv (maxF_mem x l) (by simpa using hi) (by rw [maxF_py]; exact rd) hk
          exact ⟨z, H, I.kept hk, rz, HO1.sc q (alikeOk_at ho _ (maxF_mem x l)).2.2.1 rz2⟩
      | some ns =>
      rw [hn] at e
      have el := intsOf_eq hn
      subst el
      cases Reps.ints r1
      obtain ⟨its, rv, hl, _⟩ := I.list (SqL.of hp)
      rw [Vals.ref1 r]
      refine PySem.W.max_list_default (d := wv) (I.ok.hd hc) hl.isList (readsAll_ints rv.ints) (alike_ints ns) (by rw [depth_ints]; omega) (fun h0 h' tk hk => ?_) fun y ys i v h' tk bs h1 _ rd hk => ?_
      · cases ns with
        | nil => cases e; exact ⟨z, H, I.kept hk, rw_, lit_rel hb rb2 rw_ q⟩
        | cons n ns => cases h0
      · cases ns with
        | nil => cases h1
        | cons n ns =>
          rw [List.map_cons] at h1
          injection h1 with h1 h2
          subst h1 h2
          cases e
          rw [PySem.W.maxD_ints] at rd
          cases rd
          exact ⟨.int _, H, I.kept hk, ⟨_, rfl⟩, HO1.sc q rfl rfl⟩
    · cases e
theorem bi_mind (hc : X.calm = true) (hu : X.A.units + 66 < cLine) : CallRK X (.builtin "min") [Str.ofString "default"] (RK w (biD .mind)) := by
  intro pins s σ H xs zs us ws Q I r rz ⟨a, b, O, dom, ra, rb, d, e, q⟩
  match a, e with
  | .lst l, e =>
    obtain ⟨x, rfl, p, vs, rfl, hp, _, r1⟩ := Reps.one_of ra
    obtain ⟨z, rfl, rb2⟩ := Reps.one_of rb
    obtain ⟨wv, rfl, rw_⟩ := vals_one rz
    simp only [biD] at e
    split at e
    · rename_i hb
      cases hn : intsOf l with
      | none =>
        rw [hn] at e
        have e : minR l = .ok d := e
        obtain ⟨its, rv, hl, _⟩ := I.list (SqL.of hp)
        rw [Vals.ref1 r]
        cases l with
        | nil => cases hn
        | cons x l =>
          have e : (if alikeOk (x :: l) = true then R.ok (minF x l) else .no) = .ok d := e
          split at e
          case isFalse => cases e
          rename_i ho
          cases e
          have hpl : ∀ a ∈ x :: l, plainB a = true := fun a m => (alikeOk_at ho a m).1
          obtain ⟨as, ra⟩ := reads_pys hw I hpl r1 rv
          have hd := depth_pys hpl
          refine PySem.W.min_list_default (d := wv) (I.ok.hd hc) hl.isList ra (alikeOk_data ho) (by omega) (fun h0 => by cases h0) fun y ys i v h' tk bs h1 hi rd hk => ?_
          have h1 : py x :: pys l = y :: ys := h1
          injection h1 with h1 h2
          subst h1 h2
          obtain ⟨z, rz, rz2⟩ := mm_back hw I hpl r1 rv (minF_mem x l) (by simpa using hi) (by rw [minF_py]; exact rd) hk
          exact ⟨z, H, I.kept hk, rz, HO1.sc q (alikeOk_at ho _ (minF_mem x l)).2.2.1 rz2⟩
      | some ns =>
      rw [hn] at e
      have el := intsOf_eq hn
      subst el
      cases Reps.ints r1
      obtain ⟨its, rv, hl, _⟩ := I.list (SqL.of hp)
      rw [Vals.ref1 r]
      refine PySem.W.min_list_default (d := wv) (I.ok.hd hc) hl.isList (readsAll_ints rv.ints) (alike_ints ns) (by rw [depth_ints]; omega) (fun h0 h' tk hk => ?_) fun y ys i v h' tk bs h1 _ rd hk => ?_
      · cases ns with
        | nil => cases e; exact ⟨z, H, I.kept hk, rw_, lit_rel hb rb2 rw_ q⟩
        | cons n ns => cases h0
      · cases ns with
        | nil => cases h1
        | cons n ns =>
          rw [List.map_cons] at h1
          injection h1 with h1 h2
          subst h1 h2
          cases e
          rw [PySem.W.minD_ints] at rd
          cases rd
          exact ⟨.int _, H, I.kept hk, ⟨_, rfl⟩, HO1.sc q rfl rfl⟩
    · cases e
omit hw in
theorem idxS_ok {z : Str} : ∀ {ys : List Str} {k j : Nat}, idxS z ys k = some j → ∃ i, j = k + i ∧ ys[i]? = some z ∧ ∀ m y, m < i → ys[m]? = some y → y ≠ z
  | [], _, _, h => by cases h
  | y :: ys, k, j, h => by
    have h : (if y = z then some k else idxS z ys (k + 1)) = some j := h
    split at h
    · rename_i e
      cases h
      exact ⟨0, rfl, by rw [e]; rfl, fun m y hm => absurd hm (Nat.not_lt_zero _)⟩
    · rename_i e
      obtain ⟨i, e1, e2, e3⟩ := idxS_ok h
      refine ⟨i + 1, by omega, e2, fun m u hm hu => ?_⟩
      cases m with
      | zero => cases hu; exact e
      | succ m => exact e3 m u (by omega) hu
theorem bi_repr (ng : NoG X.A) (hu : X.A.units + 66 < cLine) : CallR X (idOf .repr) (RL w (biD .repr)) := by
  intro pins s σ H xs us Q I r ⟨ds, O, dom, rr, d, e, q⟩
  match ds, e with
  | [a], e =>
    obtain ⟨x, rfl, r1⟩ := Reps.one_of rr
    obtain ⟨u, rfl, ru⟩ := vals1 r
    simp only [biD] at e
    split at e
    case isFalse => cases e
    rename_i hz
    cases e
    unfold shB0 at hz
    simp only [Bool.and_eq_true, decide_eq_true_eq] at hz
    obtain ⟨⟨h1, h2⟩, h3⟩ := hz
    rw [szL_eq] at h3
    obtain ⟨as, k, p1, p2⟩ := reads_of hw I ru h1 r1
    have fin : ∀ (h' : Heap) (t : Tok) (tk : Nat), (∀ b o, s.heap.get? b = some o → h'.get? b = some o) → (EP X pins σ Q) (.str (py a).shown t) { s with heap := h', toks := tk } := fun h' t tk hk => ⟨.str _, H, I.kept hk, ⟨t, rfl⟩, HO1.sc q rfl rfl⟩
    cases a with
    | tup l =>
      obtain ⟨p, vs, rfl, _⟩ := r1
      cases (show u = Value.ref p from ru)
      exact repr_of_reads' k h2 (fun e => by rw [plain_noDict p1] at e; cases e) ng (by omega) (fun _ _ e => e) (fun h' t tk hk => fin h' t tk hk) h3
    | lst l =>
      obtain ⟨p, vs, rfl, _⟩ := r1
      cases (show u = Value.ref p from ru)
      exact repr_of_reads' k h2 (fun e => by rw [plain_noDict p1] at e; cases e) ng (by omega) (fun _ _ e => e) (fun h' t tk hk => fin h' t tk hk) h3
    | non =>
      cases (show x = V.non from r1)
      cases (show u = Value.none from ru)
      exact PySem.P.repr_of_none (fin _ _ _ fun _ _ e => e)
    | bl b =>
      cases (show x = V.bl b from r1)
      cases (show u = Value.bool b from ru)
      exact PySem.P.repr_of_bool (fin _ _ _ fun _ _ e => e)
    | int i =>
      cases (show x = V.int i from r1)
      obtain ⟨t, rfl⟩ := ru
      exact PySem.P.repr_of_int (by simpa [py, PyData.showable] using h2) (fin _ _ _ fun _ _ e => e)
    | str z =>
      cases (show x = V.str z from r1)
      obtain ⟨t, rfl⟩ := ru
      exact PySem.P.repr_of_str (fin _ _ _ fun _ _ e => e) h3
    | _ => exact nomatch (show false = true from p1)
def RM (w : Wr) (f : D → List D → R D) : V → List V → Hp → VK → Prop := fun x xs H Q => ∃ a ds O, Dom O H ∧ Rep w H O a x ∧ Reps w H O ds xs ∧ ∃ d, f a ds = .ok d ∧ HO1 w H O d Q
theorem bm_join : MtR X "str.join" (RM w (bmD .join)) := by
  intro pins s σ H x xs v us Q I rx r ⟨a, ds, O, dom, ra, rr, d, e, q⟩
  match a, ds, e with
  | .str z, [b], e =>
    obtain ⟨y, rfl, r1⟩ := Reps.one_of rr
    simp only [bmD] at e
    split at e
    · rename_i l hl
      split at e
      · rename_i ss hs
        split at e
        · rename_i hz
          cases e
          have el := strsOf_eq hs
          subst el
          have hz := of_decide_eq_true hz
          rcases seqOf_ok hl with rfl | rfl
          · obtain ⟨p, vs, rfl, hp, r2⟩ := r1
            cases Reps.strs r2
            exact mt_join pins s σ H x _ v us Q I rx r ⟨z, p, ss, ra, rfl, .inr (hw ▸ hp), hz, HO1.sc q rfl rfl⟩
          · obtain ⟨p, vs, rfl, hp, _, r2⟩ := r1
            cases Reps.strs r2
            exact mt_join pins s σ H x _ v us Q I rx r ⟨z, p, ss, ra, rfl, .inl (SqL.of hp), hz, HO1.sc q rfl rfl⟩
        · cases e
      · cases e
    · cases e
omit hw in
theorem bm_upper : MtR X "str.upper" (RM w (bmD .upper)) := by
  intro pins s σ H x xs v us Q I rx r ⟨a, ds, O, dom, ra, rr, d, e, q⟩
  match a, ds, e with
  | .str z, [], e =>
    simp only [bmD] at e
    split at e
    · rename_i hz
      cases e
      exact mt_upper pins s σ H x xs v us Q I rx r ⟨z, ra, rr, of_decide_eq_true hz, HO1.sc q rfl rfl⟩
    · cases e
omit hw in
theorem bm_six : MtR X "str.index" (RM w (bmD .six)) := by
  intro pins s σ H x xs v us Q I rx r ⟨a, ds, O, dom, ra, rr, d, e, q⟩
  match a, ds, e with
  | .str z, [.str y], e =>
    obtain ⟨u, rfl, r1⟩ := Reps.one_of rr
    simp only [bmD] at e
    split at e
    · rename_i i rest hz
      cases e
      exact mt_sindex pins s σ H x _ v us Q I rx r ⟨z, y, i, rest, ra, by rw [show u = _ from r1], hz, HO1.sc q rfl rfl⟩
    · cases e
omit hw in
theorem bm_split : MtR X "str.split" (RM w (bmD .split)) := by
  intro pins s σ H x xs v us Q I rx r ⟨a, ds, O, dom, ra, rr, d, e, q⟩
  match a, ds, e with
  | .str z, [.str y], e =>
    obtain ⟨u, rfl, r1⟩ := Reps.one_of rr
    simp only [bmD] at e
    split at e
    · rename_i hz
      cases e
      rw [szL_eq] at hz
      exact mt_split pins s σ H x _ v us Q I rx r ⟨z, y, ra, by rw [show u = _ from r1], hz.1, hz.2, HO1.lst q dom (Reps.of_strs _)⟩
    · cases e
omit hw in
theorem bm_index : MtR X "list.index" (RM w (bmD .index)) := by
  intro pins s σ H x xs v us Q I rx r ⟨a, ds, O, dom, ra, rr, d, e, q⟩
  match a, ds, e with
  | .lst l, [.str z], e =>
    obtain ⟨y, rfl, r1⟩ := Reps.one_of rr
    simp only [bmD] at e
    split at e
    · rename_i ss hs
      split at e
      · rename_i k hk
        cases e
        have el := strsOf_eq hs
        subst el
        obtain ⟨p, vs, rfl, hp, _, r2⟩ := ra
        cases Reps.strs r2
        obtain ⟨i, e1, e2, e3⟩ := idxS_ok hk
        have e1 : k = i := by omega
        subst e1
        refine mt_index pins s σ H _ _ v us Q I rx r ⟨p, ss.map V.str, y, k, .str z, rfl, rfl, SqL.of hp, by rw [show y = _ from r1]; rfl, ?_, by rw [List.getElem?_map, e2]; rfl, by rw [show y = V.str z from r1]; simp [eqV], fun m z' hm hz' => ?_, HO1.sc q rfl rfl⟩
        · rw [List.all_map]; exact List.all_eq_true.mpr fun _ _ => rfl
        · rw [List.getElem?_map] at hz'
          cases hq : ss[m]? with
          | none => rw [hq] at hz'; cases hz'
          | some u =>
            rw [hq] at hz'
            cases hz'
            rw [show y = V.str z from r1]
            have := e3 m u hm hq
            simp [eqV, this]
      · cases e
    · cases e
end
end S2

set_option maxHeartbeats 4000000
/-! S2e: readings of expressions by the evaluator. -/
namespace S2
open PySem PySem.Spec PyProof.Rows L2

section
variable {w : Wr} {H H1 H' H2 : Hp} {O : Addr → Prop}
theorem Frs.post (s : Same H' H2) : ∀ {v : OD} {x : V}, Frs w H H' O v x → Frs w H H2 O v x
  | (.sh, _), _, _ => True.intro
  | (.o1, _), _, ⟨p, e, n, l, r⟩ => ⟨p, e, n, l, RepK.same s _ _ r⟩
  | (.o2, _), _, ⟨p, qs, l, e0, e, n, k, nd, q, t⟩ => ⟨p, qs, l, e0, e, n, s _ _ k, nd, q, t.same s⟩
  | (.oi, _), _, h => h
  | (.ex, _), _, h => h
theorem Frs.pre (s : Same H H1) : ∀ {v : OD} {x : V}, Frs w H1 H' O v x → Frs w H H' O v x
  | (.sh, _), _, _ => True.intro
  | (.o1, _), _, ⟨p, e, n, r⟩ => ⟨p, e, s.free n, r⟩
  | (.o2, _), _, ⟨p, qs, l, e0, e, n, k, nd, q, t⟩ => ⟨p, qs, l, e0, e, s.free n, k, nd, fun x m => s.free (q x m), t⟩
  | (.oi, _), _, h => h
  | (.ex, _), _, h => h
theorem VR.post (s : Same H' H2) {v : OD} {x : V} (h : VR w H H' O v x) : VR w H H2 O v x := ⟨Rep.same s _ _ h.1, h.2.post s⟩
theorem VR.pre (s : Same H H1) {v : OD} {x : V} (h : VR w H1 H' O v x) : VR w H H' O v x := ⟨h.1, h.2.pre s⟩
/-- what is kept off once the value is there -/
def grow (O : Addr → Prop) (v : OD) (x : V) : Addr → Prop := fun a => O a ∨ (v.1 = .o1 ∧ x = .ref a)
theorem grow_new {v : OD} {x : V} (h : VR w H H1 O v x) : ∀ a, grow O v x a → O a ∨ H a = none := fun a z => z.imp id fun ⟨e, ex⟩ => by
  obtain ⟨o, d⟩ := v
  cases (show o = .o1 from e)
  obtain ⟨_, p, e2, n, _⟩ := h
  rw [ex] at e2
  cases e2
  exact n
theorem grow_dom {v : OD} {x : V} (dom : Dom O H) (s : Same H H1) (h : VR w H H1 O v x) : Dom (grow O v x) H1 := fun a z => by
  rcases z with z | ⟨e, ex⟩
  · exact dom.same s a z
  · obtain ⟨o, d⟩ := v
    cases (show o = .o1 from e)
    obtain ⟨_, p, e2, n, l, r⟩ := h
    rw [ex] at e2
    cases e2
    cases d <;> simp only [isLD, Bool.false_eq_true] at l
    · obtain ⟨_, vs, e3, hp, _⟩ := r
      rw [ex] at e3; cases e3
      rw [hp]; exact fun z => by cases z
    · obtain ⟨_, e3, hp⟩ := r
      rw [ex] at e3; cases e3
      rcases hp with ⟨_, hp, _⟩ | ⟨_, hp, _⟩ <;> (rw [hp]; exact fun z => by cases z)
def VRs (w : Wr) : (Addr → Prop) → Hp → Hp → List OD → List V → Prop
  | _, _, _, [], xs => xs = []
  | O, H, H', v :: l, xs => ∃ x r H1, xs = x :: r ∧ Same H H1 ∧ Same H1 H' ∧ VR w H H1 O v x ∧ VRs w (grow O v x) H1 H' l r
theorem VRs.reps : ∀ {l : List OD} {O : Addr → Prop} {H : Hp} {xs : List V}, VRs w O H H' l xs → Reps w H' O (l.map (·.2)) xs
  | [], _, _, _, h => h
  | _ :: _, _, _, _, ⟨x, r, H1, e, _, s2, v, t⟩ => ⟨x, r, e, Rep.same s2 _ _ v.1, Reps.mono (fun a z => .inl z) _ _ (VRs.reps t)⟩
theorem VRs.pre : ∀ {l : List OD} {O : Addr → Prop} {H H1 : Hp} {xs : List V}, Same H H1 → VRs w O H1 H' l xs → VRs w O H H' l xs
  | [], _, _, _, _, _, h => h
  | _ :: _, _, _, _, _, s, ⟨x, r, H2, e, s1, s2, v, t⟩ => ⟨x, r, H2, e, s.trans s1, s2, v.pre s, t⟩
theorem VRs.length {l : List OD} {xs : List V} (h : VRs w O H H' l xs) : l.length = xs.length := by
  have := h.reps.length
  rwa [List.length_map] at this
/-- all are lists of their own: where they stand -/
theorem VRs.own : ∀ {l : List OD} {O : Addr → Prop} {H : Hp} {xs : List V}, VRs w O H H' l xs → l.all (fun p => decide (p.1 = .o1) && isLst p.2) = true →
    ∃ qs : List Addr, xs = qs.map V.ref ∧ qs.Nodup ∧ (∀ q ∈ qs, H q = none) ∧ Kids w H' (fun a => O a ∨ a ∈ qs) (l.map (·.2)) qs
  | [], _, _, _, h, _ => ⟨[], h, .nil, fun _ z => absurd z (by simp), rfl⟩
  | (o, d) :: l, O, H, _, ⟨x, r, H1, e, s1, s2, v, t⟩, a => by
    rw [List.all_cons, Bool.and_eq_true, Bool.and_eq_true, decide_eq_true_eq] at a
    obtain ⟨⟨a1, a2⟩, a3⟩ := a
    obtain ⟨qs, e2, nd, q, ks⟩ := VRs.own t a3
    obtain ⟨r1, f⟩ := v
    have a1 : o = .o1 := a1
    subst a1
    obtain ⟨p, e3, n, _, rk⟩ := f
    have a2 : isLst d = true := a2
    cases d <;> simp only [isLst, Bool.false_eq_true] at a2
    obtain ⟨p', vs, e4, hp, rr⟩ := rk
    have e5 : p = p' := by rw [e3] at e4; injection e4
    subst e5
    subst e3
    refine ⟨p :: qs, by rw [e, e2]; rfl, List.nodup_cons.mpr ⟨fun z => ?_, nd⟩, fun q' z => ?_, _, p, qs, vs, rfl, rfl, s2 _ _ hp, ?_, ?_⟩
    · have := q p z
      rw [hp] at this; cases this
    · rcases List.mem_cons.mp z with z | z
      · subst z; exact n
      · exact s1.free (q q' z)
    · refine Reps.same s2 _ _ (Reps.wide (fun b z => ?_) _ _ rr)
      rcases z with z | z
      · exact .inl (.inl z)
      · rcases List.mem_cons.mp z with z | z
        · exact .inl (.inr z)
        · exact .inr (q b z)
    · refine Kids.wide (fun b z => .inl ?_) ks
      rcases z with z | z
      · exact .inl (.inl z)
      · rcases List.mem_cons.mp z with z | z
        · subst z; exact .inl (.inr ⟨rfl, rfl⟩)
        · exact .inr z

/-- an exception that is of the datum's making -/
def XR (w : Wr) (H : Hp) (O : Addr → Prop) (cls : Value) (dd : Option Addr) : D → Prop
  | .ob c ns vs => cls = .ref (w.ca c) ∧ ((ns = [] ∧ vs = [] ∧ dd = none) ∨ ∃ a fs, dd = some a ∧ H a = some (.xd fs) ∧ fs.map (·.1) = ns ∧ Reps w H O vs (fs.map (·.2)))
  | _ => False
theorem XR.mono {O' : Addr → Prop} (s : ∀ a, O' a → O a) {cls : Value} {dd : Option Addr} : ∀ {d : D}, XR w H O cls dd d → XR w H O' cls dd d
  | .ob _ _ _, ⟨e, h⟩ => ⟨e, h.imp id fun ⟨a, fs, h1, h2, h3, h4⟩ => ⟨a, fs, h1, h2, h3, Reps.mono s _ _ h4⟩⟩

theorem XR.same (s : Same H H') {cls : Value} {dd : Option Addr} : ∀ {d : D}, XR w H O cls dd d → XR w H' O cls dd d
  | .ob _ _ _, ⟨e, h⟩ => ⟨e, h.imp id fun ⟨a, fs, h1, h2, h3, h4⟩ => ⟨a, fs, h1, s _ _ h2, h3, Reps.same s _ _ h4⟩⟩
theorem XR.wide {O' : Addr → Prop} (s : ∀ a, O' a → O a ∨ H a = none) {cls : Value} {dd : Option Addr} : ∀ {d : D}, XR w H O cls dd d → XR w H O' cls dd d
  | .ob _ _ _, ⟨e, h⟩ => ⟨e, h.imp id fun ⟨a, fs, h1, h2, h3, h4⟩ => ⟨a, fs, h1, h2, h3, Reps.wide s _ _ h4⟩⟩
theorem XR.write {p : Addr} {u : HO} (op : O p) (m : Mut (H p)) {cls : Value} {dd : Option Addr} : ∀ {d : D}, XR w H O cls dd d → XR w (upd H p u) O cls dd d
  | .ob _ _ _, ⟨e, h⟩ => ⟨e, h.imp id fun ⟨a, fs, h1, h2, h3, h4⟩ => ⟨a, fs, h1, by rw [upd_ne (fun z => by subst z; rw [h2] at m; exact m)]; exact h2, h3, Reps.write op m _ _ h4⟩⟩
/-- the slots: what each that is read holds -/
def EnvX (w : Wr) (H : Hp) (O : Addr → Prop) (σ : L2.St) (env : Env) (is : List (Nat × Bool)) : Prop := ∀ i ∈ is, ∀ d, env[i.1]? = some (some (.ex, d)) → σ[i.1]? = some (some (.ref w.xi.a)) ∧ XR w H O w.xi.cls w.xi.dd d
def EnvE (w : Wr) (H : Hp) (O : Addr → Prop) (σ : L2.St) (env : Env) (is : List (Nat × Bool)) : Prop := (env.length = σ.length ∧ EnvX w H O σ env is) ∧ ∀ i ∈ is, ∀ o d, env[i.1]? = some (some (o, d)) → o ≠ .ex → (i.2 = true → o ≠ .oi) → ∃ v, σ[i.1]? = some (some v) ∧ if i.2 = true then Rep w H O d v else RepK w H O d v
variable {σ : L2.St} {env : Env} {is js : List (Nat × Bool)}
theorem EnvE.same (s : Same H H') (h : EnvE w H O σ env is) : EnvE w H' O σ env is := ⟨⟨h.1.1, fun i m d e => ⟨(h.1.2 i m d e).1, (h.1.2 i m d e).2.same s⟩⟩, fun i m o d e x y => (h.2 i m o d e x y).imp fun _ z => ⟨z.1, by
  have z2 := z.2
  split
  · rename_i hi
    rw [if_pos hi] at z2
    exact Rep.same s _ _ z2
  · rename_i hi
    rw [if_neg hi] at z2
    exact RepK.same s _ _ z2⟩⟩
theorem EnvE.sub (h : EnvE w H O σ env is) (s : ∀ i ∈ js, i ∈ is) : EnvE w H O σ env js := ⟨⟨h.1.1, fun i m => h.1.2 i (s i m)⟩, fun i m => h.2 i (s i m)⟩
theorem EnvE.wide {O' : Addr → Prop} (s : ∀ a, O' a → O a ∨ H a = none) (h : EnvE w H O σ env is) : EnvE w H O' σ env is := ⟨⟨h.1.1, fun i m d e => ⟨(h.1.2 i m d e).1, (h.1.2 i m d e).2.wide s⟩⟩, fun i m o d e x y => (h.2 i m o d e x y).imp fun _ z => ⟨z.1, by
  have z2 := z.2
  split
  · rename_i hi
    rw [if_pos hi] at z2
    exact Rep.wide s _ _ z2
  · rename_i hi
    rw [if_neg hi] at z2
    exact RepK.wide s _ _ z2⟩⟩
theorem EnvE.l (h : EnvE w H O σ env (is ++ js)) : EnvE w H O σ env is := h.sub fun _ m => List.mem_append_left _ m
theorem EnvE.r (h : EnvE w H O σ env (is ++ js)) : EnvE w H O σ env js := h.sub fun _ m => List.mem_append_right _ m
theorem EnvE.get (h : EnvE w H O σ env is) {i : Nat} {o : Own} {d : D} (m : (i, true) ∈ is) (e : env[i]? = some (some (o, d))) (x : o ≠ .ex) (y : o ≠ .oi) : ∃ v, σ[i]? = some (some v) ∧ Rep w H O d v := by simpa using h.2 (i, true) m o d e x fun _ => y
theorem EnvE.getK (h : EnvE w H O σ env is) {i : Nat} {o : Own} {d : D} (m : (i, false) ∈ is) (e : env[i]? = some (some (o, d))) (x : o ≠ .ex) : ∃ v, σ[i]? = some (some v) ∧ RepK w H O d v := by simpa using h.2 (i, false) m o d e x fun z => by cases z

/-- a result, and what is wanted of it -/
def fR {α β : Type} (w : Wr) (W : WX) (σ : L2.St) (O : Addr → Prop) (rel : Hp → Hp → α → β → Prop) (H : Hp) (r : R α) (Q : β → Hp → Prop) : Prop := match r with
  | .ok a => ∀ b H', Same H H' → rel H H' a b → Q b H'
  | .exc d => ∀ cls dd H', Same H H' → XR w H' O cls dd d → W cls dd σ H'
  | .no => False
structure RelOk {α β : Type} (rel : Hp → Hp → α → β → Prop) : Prop where
  up : ∀ {H H1 H' a b}, Same H H1 → rel H1 H' a b → rel H H' a b
variable {W : WX} {α β α' β' : Type} {rel : Hp → Hp → α → β → Prop} {rel' : Hp → Hp → α' → β' → Prop}
theorem fR.later (k : RelOk rel) (s : Same H H1) {r : R α} {Q : β → Hp → Prop} (h : fR w W σ O rel H r Q) : fR w W σ O rel H1 r Q := by
  cases r with
  | ok a => exact fun b H' s' q => h b H' (s.trans s') (k.up s q)
  | exc d => exact fun c dd H' s' q => h c dd H' (s.trans s') q
  | no => exact h
theorem fR.bind {r : R α'} {f : α' → R α} {Q : β → Hp → Prop} {Q' : β' → Hp → Prop} (h : fR w W σ O rel H (r.bind f) Q) (k : ∀ a b H1, Same H H1 → rel' H H1 a b → fR w W σ O rel H (f a) Q → Q' b H1) : fR w W σ O rel' H r Q' := by
  cases r with
  | ok a => exact fun b H1 s q => k a b H1 s q h
  | exc d => exact h
  | no => exact h
/-- a step that raises nothing -/
theorem fR.tame {r : R α'} {f : α' → R α} {Q : β → Hp → Prop} (h : fR w W σ O rel H (r.tame.bind f) Q) : ∃ a, r = .ok a ∧ fR w W σ O rel H (f a) Q := by
  cases r with
  | ok a => exact ⟨a, rfl, h⟩
  | exc d => exact h.elim
  | no => exact h.elim
theorem fR.ok {a : α} {b : β} {Q : β → Hp → Prop} (h : fR w W σ O rel H (.ok a) Q) (q : rel H H a b) : Q b H := h b H (Same.refl H) q
def rV (w : Wr) (O : Addr → Prop) : Hp → Hp → OD → V → Prop := fun H H' v x => VR w H H' O v x
def rVs (w : Wr) (O : Addr → Prop) : Hp → Hp → List OD → List V → Prop := fun H H' v x => VRs w O H H' v x
def rI (α : Type) (_ : Addr → Prop) : Hp → Hp → α → α → Prop := fun _ _ a b => b = a
theorem rV_ok : RelOk (rV w O) := ⟨fun s h => VR.pre s h⟩
theorem rVs_ok : RelOk (rVs w O) := ⟨fun s h => VRs.pre s h⟩
theorem rI_ok : RelOk (rI α O) := ⟨fun _ h => h⟩
end

/-- the reading: there are slots -/
def tF {α β : Type} (w : Wr) (W : WX) (rel : (Addr → Prop) → Hp → Hp → α → β → Prop) (r : Env → R α) (is : List (Nat × Bool)) : L2.St → Hp → (β → Hp → Prop) → Prop := fun σ H Q =>
  ∃ env O, Dom O H ∧ EnvE w H O σ env is ∧ fR w W σ O (rel O) H (r env) Q
abbrev tE (g : G) (C : Cal) (w : Wr) (W : WX) (e : E) : TE := tF w W (rV w) (ev g C e) (rd e)
abbrev tEs (g : G) (C : Cal) (w : Wr) (W : WX) (e : Es) : TA := tF w W (rVs w) (evs g C e) (rds e)
abbrev tT (g : G) (C : Cal) (w : Wr) (W : WX) (e : E) : TT := tF w W (rI Bool) (tst g C e) (rd e)
abbrev tO (g : G) (C : Cal) (w : Wr) (W : WX) (e : Eo) : TO := tF w W (rI (Option Int)) (evo g C e) (rdo e)

theorem PE.imp {X : Cx} {e : Expr} {t t' : TE} (h : PE X e t) (k : ∀ σ H Q, t' σ H Q → t σ H Q) : PE X e t' := ⟨fun pins s σ H Q I q => h.run pins s σ H Q I (k σ H Q q)⟩
theorem PT.imp {X : Cx} {e : Expr} {t t' : TT} (h : PT X e t) (k : ∀ σ H Q, t' σ H Q → t σ H Q) : PT X e t' := ⟨fun pins s σ H Q I q => h.run pins s σ H Q I (k σ H Q q)⟩
theorem PA.imp {X : Cx} {e : List Expr} {t t' : TA} (h : PA X e t) (k : ∀ σ H Q, t' σ H Q → t σ H Q) : PA X e t' := ⟨fun pos pins s σ H Q I q => h.run pos pins s σ H Q I (k σ H Q q)⟩
theorem PO.imp {X : Cx} {e : Option Expr} {t t' : TO} (h : PO X e t) (k : ∀ σ H Q, t' σ H Q → t σ H Q) : PO X e t' := ⟨fun pins s σ H Q I q => h.run pins s σ H Q I (k σ H Q q)⟩

/-! ### what the defs promise -/
/-- a def's promise: the evaluator's answer -/
def spF (g : G) (w : Wr) (n : Nat) (f : Str) : Sp := fun vs H Q E => ∃ ds O, Dom O H ∧ Reps w H O ds vs ∧ match callD g n f ds with
  | .ok v => ∀ x H', Same H H' → VR w H H' O v x → Q x H'
  | .exc d => ∀ cls dd H', Same H H' → XR w H' O cls dd d → E cls dd H'
  | .no => False
/-- an __init__'s: n levels below -/
def spI (g : G) (w : Wr) (n : Nat) (c : Str) : Sp := fun vs H Q E => ∃ x dx us ds O, vs = V.ref x :: us ∧ H x = some (.ins (w.ca c) dx []) ∧ ¬ O x ∧ Dom O H ∧ Reps w H (fun a => O a ∨ a = x) ds us ∧ match makeD g (n + 1) c ds with
  | .ok d => ∀ H', (∀ b o, H b = some o → b ≠ x → H' b = some o) → Rep w H' O d (.ref x) → Q .non H'
  | .exc d => ∀ cls dd H', (∀ b o, H b = some o → b ≠ x → H' b = some o) → XR w H' O cls dd d → E cls dd H'
  | .no => False
/-- the promise of a def that is called with the caught exception -/
def spH (g : G) (w : Wr) (f : Str) : SpH := fun p xs H Q => ∃ d O cls dd, xs = [V.ref p.1] ∧ L2N.Zn cls dd p.2 ∧ (∃ vs, p.2.data = .fields vs) ∧ Dom O H ∧ XR w H O cls dd d ∧ match hotR g f d with
  | .ok v => ∀ x H', Same H H' → VR w H H' O v x → Q x H'
  | _ => False
def HLv (P : Program) (wd : World) (K : PySem.W.Frag) (mg : Str → Option Value) (base : Heap) (g : G) (w : Wr) : Prop :=
  ∀ f, g.hf f = true → ∃ a fd ps, mg f = some (.ref a) ∧ PySem.W.keepIn K (.ref a) = true ∧ Binds K fd ps [] ∧ FnHG P wd K mg base 1 a fd ps (spH g w f)
structure Lv (P : Program) (wd : World) (K : PySem.W.Frag) (mg : Str → Option Value) (base : Heap) (g : G) (w : Wr) (n : Nat) : Prop where
  fn : ∀ f, g.top f = true → ∃ a fd ps, mg f = some (.ref a) ∧ PySem.W.keepIn K (.ref a) = true ∧ Binds K fd ps [] ∧ FnG P wd K mg base (L2N.CX P wd) n a fd ps (spF g w n f)
  mt : ∀ c m f, g.mth c m = some f → ∃ a fd ps, Cls K (w.ca c) ∧ Meth K (w.ca c) m a ∧ Binds K fd ps [] ∧ FnG P wd K mg base (L2N.CX P wd) n a fd ps (spF g w n f)
  mkr : ∀ c k, g.cl c = true → n = k + 1 → ∃ a fd ps, mg c = some (.ref (w.ca c)) ∧ Mk K (w.ca c) a ∧ Binds K fd ps [] ∧ FnG P wd K mg base (L2N.CX P wd) k a fd ps (spI g w k c)
/-- what is known of the module -/
structure Fx (K : PySem.W.Frag) (mg : Str → Option Value) (g : G) (w : Wr) : Prop where
  hK : w.K = K
  free : ∀ x, g.fr x = true → mg x = none
  con : ∀ x d, g.con x = some d → ∃ v u, mg x = some u ∧ RelV v u ∧ ∀ H O, Rep w H O d v
  cls : ∀ c, w.cl c = true → Cls K (w.ca c)
  nf : ∀ c f, w.cl c = true → g.nf f = true → NoAttr K (w.ca c) f
/-- what an except suite may ask of its exception -/
structure Sx (X : Cx) (g : G) (w : Wr) : Prop where
  isx : ∀ (C : Cal) (W : WX) (i : Nat) (x c : Str) (p p1 p2 pos : Pos), X.N[i]? = some x → Vis X.env.scope x → (x == ("__debug__" : Str)) = false → (x == ("__classdict__" : Str)) = false → Gl X "isinstance" → g.fr "isinstance" = true → Gl X c →
    (((g.exf c).isSome = true ∧ (c == ("__debug__" : Str)) = false) ∨ (c = Str.ofString "ValueError" ∧ g.fr (Str.ofString "ValueError") = true)) → PE X (.Call (.Name "isinstance" p) [.Name x p1, .Name c p2] [] pos) (tE g C w W (.isx i c))
  xfl : ∀ (C : Cal) (W : WX) (i : Nat) (x f : Str) (p1 pos : Pos), X.N[i]? = some x → Vis X.env.scope x → (x == ("__debug__" : Str)) = false → (x == ("__classdict__" : Str)) = false → g.nf f = true → PE X (.Attribute (.Name x p1) f pos) (tE g C w W (.xfl i f))
structure Gd (X : Cx) (W : WX) (g : G) (w : Wr) (n : Nat) (hot : Bool := false) : Prop where
  fx : Fx X.K X.mg g w
  nd : X.N.Nodup
  calm : hot = false → X.calm = true
  room2 : hot = false → Room2 n X.A
  takes : L2N.Takes X W
  ng : NoG X.A
  hc : hot = true → ∃ p, L2H.Hot1 X.A p ∧ p ∈ X.pn ∧ p.1 = w.xi.a ∧ L2N.Zn w.xi.cls w.xi.dd p.2 ∧ ∃ vs, p.2.data = .fields vs
  hl : n ≠ 0 → HLv X.prog X.w X.K X.mg X.base g w
  rmH : hot = true → n ≠ 0 → L2H.RoomH 1 X.A
  lv : hot = false → Lv X.prog X.w X.K X.mg X.base g w n
  sx : hot = true → Sx X g w
theorem Gd.room {X : Cx} {W : WX} {g : G} {w : Wr} {n : Nat} {hot : Bool} (gd : Gd X W g w n hot) (h : hot = false) : Room n X.A := (gd.room2 h).out
end S2

set_option maxHeartbeats 4000000
/-! S2f: one rule for each form of expression. -/
namespace S2
open PySem PySem.Spec PyProof.Rows L2

section
variable {X : Cx} {W : WX} {g : G} {w : Wr} {n : Nat} {C : Cal} {a b c : Expr} {ia ib ic : E} {pos : Pos}
theorem VR.sh {H H' : Hp} {O : Addr → Prop} {d : D} {x : V} (h : Rep w H' O d x) : VR w H H' O (.sh, d) x := ⟨h, True.intro⟩
/-- the value is known -/
theorem sE_val {e : Expr} {ir : E} {d : D} {v : V} (h : PE X e (tC v)) (he : ∀ env, ev g C ir env = .ok (.sh, d)) (r : ∀ H O, Rep w H O d v) : PE X e (tE g C w W ir) :=
  PE.imp h fun σ H Q ⟨env, O, dom, en, f⟩ => by
    rw [he] at f
    exact f.ok (VR.sh (r H O))
theorem look_ok {env : Env} {i : Nat} {v : OD} (h : look env i = .ok v) : ∃ o d, env[i]? = some (some (o, d)) ∧ v = (.sh, d) ∧ o ≠ .ex ∧ o ≠ .oi := by
  unfold look at h
  split at h
  · cases h
  · cases h
  · rename_i o d n1 n e
    cases h
    exact ⟨_, _, e, rfl, fun z => by subst z; exact n rfl, fun z => by subst z; exact n1 rfl⟩
  · cases h
theorem look_tame {env : Env} {i : Nat} : (∃ v, look env i = .ok v) ∨ look env i = .no := by
  unfold look
  split <;> simp
theorem sE_var {i : Nat} {x : Str} (hN : X.N[i]? = some x) (hv : Vis X.env.scope x) (hd : (x == ("__debug__" : Str)) = false) (hcd : (x == ("__classdict__" : Str)) = false) : PE X (.Name x pos) (tE g C w W (.var i)) :=
  PE.imp (pe_var hN hv hd hcd) fun σ H Q ⟨env, O, dom, en, f⟩ => by
    have f : fR w W σ O (rV w O) H (look env i) Q := f
    rcases look_tame (env := env) (i := i) with ⟨v, e⟩ | e
    · rw [e] at f
      obtain ⟨o, d, e1, rfl, ox, oy⟩ := look_ok e
      obtain ⟨v, hv, r⟩ := en.get (List.mem_singleton.mpr rfl) e1 ox oy
      exact ⟨v, hv, f.ok (VR.sh r)⟩
    · rw [e] at f; exact f.elim
theorem sE_g {x : Str} (fx : Fx X.K X.mg g w) (hg : Gl X x) (hd : (x == ("__debug__" : Str)) = false) (hc : (g.con x).isSome = true) : PE X (.Name x pos) (tE g C w W (.g x)) := by
  obtain ⟨d, e⟩ := Option.isSome_iff_exists.mp hc
  obtain ⟨v, u, h1, h2, h3⟩ := fx.con x d e
  exact sE_val (pe_glob hg h1 h2 hd) (fun env => by show (match g.con x with | some d => R.ok (Own.sh, d) | none => .no) = _; rw [e]) h3
theorem ownL_fin {σ : L2.St} {O : Addr → Prop} {H : Hp} {r : R D} {Q : VK} (h : fR w W σ O (rV w O) H (ownL r) Q) : ∃ d, r = .ok d ∧ HO1 w H O d Q := by
  unfold ownL at h
  obtain ⟨d, e, h⟩ := h.tame
  exact ⟨d, e, fun z H' s q => h z H' s q⟩
theorem asB_fin {σ : L2.St} {O : Addr → Prop} {H : Hp} {r : R Bool} {Q : VK} (h : fR w W σ O (rV w O) H (asB r) Q) : ∃ d, r = .ok d ∧ Q (.bl d) H := by
  unfold asB at h
  obtain ⟨d, e, h⟩ := h.tame
  exact ⟨d, e, h.ok (VR.sh rfl)⟩
theorem tame_fin {σ : L2.St} {O : Addr → Prop} {H : Hp} {r : R Bool} {Q : Bool → Hp → Prop} (h : fR w W σ O (rI Bool O) H r.tame Q) : ∃ d, r = .ok d ∧ Q d H := by
  cases r with
  | ok d => exact ⟨d, rfl, fR.ok (rel := rI Bool O) h rfl⟩
  | exc _ => exact h.elim
  | no => exact h.elim
/-- one value, then something -/
theorem one_in {σ : L2.St} {H : Hp} {α' β' : Type} {rel2 : Hp → Hp → α' → β' → Prop} {Q : β' → Hp → Prop} {env : Env} {O : Addr → Prop} {is : List (Nat × Bool)} {f : OD → R α'} {R1 : V → Hp → Prop}
    (ro : RelOk rel2) (dom : Dom O H) (en : EnvE w H O σ env (rd ia ++ is)) (h : fR w W σ O rel2 H ((ev g C ia env).bind f) Q)
    (k : ∀ v x H1, Dom O H1 → EnvE w H1 O σ env is → VR w H H1 O v x → Same H H1 → fR w W σ O rel2 H1 (f v) Q → R1 x H1) : tE g C w W ia σ H R1 :=
  ⟨env, O, dom, en.l, h.bind (rel' := rV w O) fun v x H1 s1 r1 h1 => k v x H1 (dom.same s1) (en.r.same s1) r1 s1 (h1.later ro s1)⟩
theorem two_in {σ : L2.St} {H : Hp} {α' β' : Type} {rel2 : Hp → Hp → α' → β' → Prop} {Q : β' → Hp → Prop} {env : Env} {O : Addr → Prop} {is : List (Nat × Bool)} {f : OD → OD → R α'} {R1 : V → V → Hp → Prop}
    (ro : RelOk rel2) (dom : Dom O H) (en : EnvE w H O σ env (rd ia ++ (rd ib ++ is))) (h : fR w W σ O rel2 H ((ev g C ia env).bind fun v => (ev g C ib env).bind fun u => f v u) Q)
    (k : ∀ v u x y H2, Dom O H2 → EnvE w H2 O σ env is → Rep w H2 O v.2 x → Rep w H2 O u.2 y → fR w W σ O rel2 H2 (f v u) Q → R1 x y H2) : tE g C w W ia σ H fun x H1 => tE g C w W ib σ H1 fun y H2 => R1 x y H2 :=
  one_in ro dom en h fun v x H1 d1 e1 r1 _ h1 => one_in ro d1 e1 h1 fun u y H2 d2 e2 r2 s2 h2 => k v u x y H2 d2 e2 (Rep.same s2 _ _ r1.1) r2.1 h2
theorem chain_in {β' : Type} {σ : L2.St} {H : Hp} {α' : Type} {rel2 : Hp → Hp → α' → β' → Prop} {Q : β' → Hp → Prop} {env : Env} {O : Addr → Prop} {o : Cop} {f : OD → OD → R α'} {z : R α'} {Q2 : VK} {r' : R2}
    (ro : RelOk rel2) (dom : Dom O H) (en : EnvE w H O σ env (rd ia ++ (rd ib ++ rd ic)))
    (h : fR w W σ O rel2 H ((ev g C ia env).bind fun x => (ev g C ib env).bind fun y => (cmpD o x.2 y.2).tame.bind fun k => if k = true then (ev g C ic env).bind fun z => f y z else z) Q)
    (k1 : ∀ v u x y H2, Dom O H2 → Rep w H2 O v.2 x → Rep w H2 O u.2 y → fR w W σ O rel2 H2 (f v u) Q → r' x y H2 Q2) (k2 : ∀ H2, fR w W σ O rel2 H2 z Q → Q2 (.bl false) H2) :
    tChain (RC w (cmpD o)) r' (tE g C w W ia) (tE g C w W ib) (tE g C w W ic) σ H Q2 := by
  refine one_in ro dom en h fun v x H1 d1 e1 r1 _ h1 => one_in ro d1 e1 h1 fun u y H2 d2 e2 r2 s2 h2 => ?_
  obtain ⟨k, e, h2⟩ := h2.tame
  refine ⟨_, _, O, d2, Rep.same s2 _ _ r1.1, r2.1, k, e, k, rfl, ?_⟩
  cases k with
  | false =>
    simp only [Bool.false_eq_true, if_false] at h2 ⊢
    exact k2 H2 h2
  | true =>
    simp only [if_true] at h2 ⊢
    exact one_in (is := []) ro d2 (by rw [List.append_nil]; exact e2) h2 fun z' z H3 d3 _ r3 s3 h3 => k1 u z' y z H3 d3 (Rep.same s3 _ _ r2.1) r3.1 h3
theorem sh_in {σ : L2.St} {H : Hp} {Q : VK} {env : Env} {O : Addr → Prop} (dom : Dom O H) (en : EnvE w H O σ env (rd ia)) (h : fR w W σ O (rV w O) H (shD (fst1 (ev g C ia env))) Q) : tE g C w W ia σ H Q := by
  refine ⟨env, O, dom, en, ?_⟩
  cases e : ev g C ia env with
  | ok v =>
    rw [e] at h
    exact fun x H' s q => h x H' s (VR.sh q.1)
  | exc d => rw [e] at h; exact h
  | no => rw [e] at h; exact h
theorem PW.imp {X : Cx} {e : Expr} {t t' : TT} (h : PW X e t) (k : ∀ σ H Q, t' σ H Q → t σ H Q) : PW X e t' := ⟨fun wh pins s σ H Q I q => h.run wh pins s σ H Q I (k σ H Q q)⟩
variable (ha : PE X a (tE g C w W ia)) (hb : PE X b (tE g C w W ib)) (hc : PE X c (tE g C w W ic))
include ha hb
theorem sE_bin (hw : w.K = X.K) (o : Bop) : PE X (.BinOp a (opOf o) b pos) (tE g C w W (.bin o ia ib)) :=
  PE.imp (pe_op (op_bin hw o) ha hb) fun σ H Q ⟨env, O, dom, en, f⟩ => by
    refine two_in (is := []) rV_ok dom (en.sub fun i m => by simpa [rd] using m) f fun v u x y H2 d2 e2 r1 r2 h2 => ?_
    obtain ⟨d, e, q⟩ := ownL_fin h2
    exact ⟨_, _, O, d2, r1, r2, d, e, q⟩
theorem sE_cmp (hw : w.K = X.K) (hu : X.A.units + 66 < cLine) (o : Cop) (hm : behindInMarks (cmpOf o) b = false) : PE X (.Compare a [cmpOf o] [b] pos) (tE g C w W (.cmp o ia ib)) :=
  PE.imp (pe_cmpR (op_cmp hw hu o) ha hb hm) fun σ H Q ⟨env, O, dom, en, f⟩ => by
    refine two_in (is := []) rV_ok dom (en.sub fun i m => by simpa [rd] using m) f fun v u x y H2 d2 e2 r1 r2 h2 => ?_
    obtain ⟨d, e, q⟩ := asB_fin h2
    exact ⟨_, _, O, d2, r1, r2, d, e, q⟩
theorem sT_cmp (hw : w.K = X.K) (hu : X.A.units + 66 < cLine) (o : Cop) (hm : behindInMarks (cmpOf o) b = false) : PT X (.Compare a [cmpOf o] [b] pos) (tT g C w W (.cmp o ia ib)) :=
  PT.imp (pt_cmpR (op_cmp hw hu o) ha hb hm) fun σ H Q ⟨env, O, dom, en, f⟩ => by
    refine two_in (is := []) rI_ok dom (en.sub fun i m => by simpa [rd] using m) f fun v u x y H2 d2 e2 r1 r2 h2 => ?_
    obtain ⟨d, e, q⟩ := tame_fin h2
    exact ⟨_, _, O, d2, r1, r2, d, e, d, rfl, q⟩
theorem sE_ix (hw : w.K = X.K) (hu : X.A.units + 66 < cLine) (hs : PlainIx b) (hv : ∀ i, ia ≠ .var i) : PE X (.Subscript a b pos) (tE g C w W (.ix ia ib)) :=
  PE.imp (pe_ix (ix_any hw hu) ha hb hs) fun σ H Q ⟨env, O, dom, en, f⟩ => by
    refine two_in (is := []) rV_ok dom (en.sub fun i m => ?_) f fun v u x y H2 d2 e2 r1 r2 h2 => ?_
    · rw [List.append_nil] at m
      cases ia <;> first | exact m | exact absurd rfl (hv _)
    · have h2 : fR w W σ O (rV w O) H2 ((ixD v.2 u.2).tame.bind fun d => .ok (.sh, d)) Q := h2
      obtain ⟨d, e, h2⟩ := h2.tame
      exact ⟨_, _, O, r1.k, r2, d, e, fun z r => h2.ok (VR.sh r)⟩
omit ha in
/-- x[b]: x's own list is only looked into -/
theorem sE_ixv {i : Nat} {x : Str} {p : Pos} (hw : w.K = X.K) (hu : X.A.units + 66 < cLine) (hN : X.N[i]? = some x) (hv : Vis X.env.scope x) (hd : (x == ("__debug__" : Str)) = false) (hcd : (x == ("__classdict__" : Str)) = false) (hs : PlainIx b) : PE X (.Subscript (.Name x p) b pos) (tE g C w W (.ix (.var i) ib)) :=
  PE.imp (pe_ix (ix_any hw hu) (pe_var hN hv hd hcd) hb hs) fun σ H Q ⟨env, O, dom, en, f⟩ => by
    have f : fR w W σ O (rV w O) H ((look env i).bind fun x => (ev g C ib env).bind fun y => shD (ixD x.2 y.2).tame) Q := f
    rcases look_tame (env := env) (i := i) with ⟨v, e⟩ | e
    · rw [e] at f
      obtain ⟨o, d, e1, rfl, ox, oy⟩ := look_ok e
      obtain ⟨v, hv, r⟩ := en.getK (List.mem_append_left _ (List.mem_singleton.mpr rfl)) e1 ox
      refine ⟨v, hv, one_in (is := []) rV_ok dom (by rw [List.append_nil]; exact en.r) f fun u y H2 d2 e2 r2 s2 h2 => ?_⟩
      have h2 : fR w W σ O (rV w O) H2 ((ixD d u.2).tame.bind fun d => .ok (.sh, d)) Q := h2
      obtain ⟨d', e', h2⟩ := h2.tame
      exact ⟨_, _, O, RepK.same s2 _ _ r, r2.1, d', e', fun z r => h2.ok (VR.sh r)⟩
    · rw [e] at f; exact f.elim
include hc
theorem sE_chain (hw : w.K = X.K) (hu : X.A.units + 66 < cLine) (o p : Cop) (hm : lastMarks [cmpOf o, cmpOf p] [b, c] = false) : PE X (.Compare a [cmpOf o, cmpOf p] [b, c] pos) (tE g C w W (.chain o p ia ib ic)) :=
  PE.imp (pe_chain (op_cmp hw hu o) (op_cmp hw hu p) ha hb hc hm) fun σ H Q ⟨env, O, dom, en, f⟩ => by
    refine chain_in (f := fun y z => asB (cmpD p y.2 z.2)) (z := .ok (.sh, .bl false)) rV_ok dom en f (fun v u x y H2 d2 r1 r2 h2 => ?_) fun H2 h2 => h2.ok (VR.sh rfl)
    obtain ⟨d, e, q⟩ := asB_fin h2
    exact ⟨_, _, O, d2, r1, r2, d, e, q⟩
theorem sT_chain (hw : w.K = X.K) (hu : X.A.units + 66 < cLine) (o p : Cop) (hm : lastMarks [cmpOf o, cmpOf p] [b, c] = false) : PT X (.Compare a [cmpOf o, cmpOf p] [b, c] pos) (tT g C w W (.chain o p ia ib ic)) :=
  PT.imp (pt_chain (op_cmp hw hu o) (op_cmp hw hu p) ha hb hc hm) fun σ H Q ⟨env, O, dom, en, f⟩ => by
    refine chain_in (f := fun y z => (cmpD p y.2 z.2).tame) (z := .ok false) rI_ok dom en f (fun v u x y H2 d2 r1 r2 h2 => ?_) fun H2 h2 => ⟨false, rfl, h2.ok rfl⟩
    obtain ⟨d, e, q⟩ := tame_fin h2
    exact ⟨_, _, O, d2, r1, r2, d, e, d, rfl, q⟩
omit hb hc
theorem sE_neg : PE X (.UnaryOp .USub a pos) (tE g C w W (.neg ia)) :=
  PE.imp (pe_un un_neg ha) fun σ H Q ⟨env, O, dom, en, f⟩ => by
    refine one_in (is := []) rV_ok dom (by rw [List.append_nil]; exact en) f fun v x H1 d1 e1 r1 _ h1 => ?_
    obtain ⟨o, d⟩ := v
    cases d with
    | int i => exact ⟨i, r1.1, h1.ok (VR.sh rfl)⟩
    | _ => exact h1.elim
theorem sE_not (hw : w.K = X.K) : PE X (.UnaryOp .Not a pos) (tE g C w W (.not ia)) :=
  PE.imp (pe_notT ha) fun σ H Q ⟨env, O, dom, en, f⟩ => by
    refine one_in (is := []) rV_ok dom (by rw [List.append_nil]; exact en) f fun v x H1 d1 e1 r1 _ h1 => ?_
    obtain ⟨d, e, q⟩ := asB_fin h1
    cases e2 : truthD v.2 with
    | ok k =>
      rw [e2] at e
      have e : R.ok (!k) = R.ok d := e
      cases e
      exact ⟨k, tru_of hw r1.1 e2, q⟩
    | exc _ => rw [e2] at e; cases e
    | no => rw [e2] at e; cases e
theorem sT_val (hw : w.K = X.K) (he : ∀ whole, isTrue a X.env whole = (do let v ← whole; standAt a.pos; holding [v] (truthy v))) (k : ∀ env, tst g C ia env = (ev g C ia env).bind fun x => (truthD x.2).tame) : PT X a (tT g C w W ia) :=
  PT.imp (pt_truth ha he) fun σ H Q ⟨env, O, dom, en, f⟩ => by
    rw [k] at f
    refine one_in (is := []) rI_ok dom (by rw [List.append_nil]; exact en) f fun v x H1 d1 e1 r1 _ h1 => ?_
    obtain ⟨d, e, q⟩ := tame_fin h1
    exact ⟨d, tru_of hw r1.1 e, q⟩
omit ha in
theorem sT_not (hp : PT X a (tT g C w W ia)) : PT X (.UnaryOp .Not a pos) (tT g C w W (.not ia)) :=
  PT.imp (pt_not hp) fun σ H Q ⟨env, O, dom, en, f⟩ => ⟨env, O, dom, en, f.bind fun v x H1 s1 r1 h1 => by
    have r1 : x = v := r1
    subst r1
    exact (h1.later rI_ok s1).ok rfl⟩

/-! ### and, or, if -/
omit ha in
theorem okB_split {σ : L2.St} {O : Addr → Prop} {H : Hp} {α' β' : Type} {rel2 : Hp → Hp → α' → β' → Prop} {Q : β' → Hp → Prop} {r : R Bool} {f : Bool → R α'} {Q' : Bool → Hp → Prop} (ro : RelOk rel2) (h : fR w W σ O rel2 H (r.bind f) Q)
    (k : ∀ v H1, Same H H1 → fR w W σ O rel2 H1 (f v) Q → Q' v H1) : fR w W σ O (rI Bool O) H r Q' := h.bind (rel' := rI Bool O) fun v x H1 s1 r1 h1 => by
  have r1 : x = v := r1
  subst r1
  exact k x H1 s1 (h1.later ro s1)
theorem sE_and {rest : List Expr} (hw : w.K = X.K) (hb : PE X (.BoolOp .And (b :: rest) pos) (tE g C w W ib)) : PE X (.BoolOp .And (a :: b :: rest) pos) (tE g C w W (.and ia ib)) :=
  PE.imp (pe_andT ha hb) fun σ H Q ⟨env, O, dom, en, f⟩ => by
    refine one_in rV_ok dom en f fun v x H1 d1 e1 r1 _ h1 => ?_
    obtain ⟨k, e, h1⟩ := h1.tame
    refine ⟨k, tru_of hw r1.1 e, ?_⟩
    cases k with
    | false =>
      simp only [Bool.false_eq_true, if_false] at h1 ⊢
      exact h1.ok (VR.sh r1.1)
    | true =>
      simp only [if_true] at h1 ⊢
      exact sh_in d1 e1 h1
theorem sE_or {rest : List Expr} (hw : w.K = X.K) (hb : PE X (.BoolOp .Or (b :: rest) pos) (tE g C w W ib)) : PE X (.BoolOp .Or (a :: b :: rest) pos) (tE g C w W (.or ia ib)) :=
  PE.imp (pe_orT ha hb) fun σ H Q ⟨env, O, dom, en, f⟩ => by
    refine one_in rV_ok dom en f fun v x H1 d1 e1 r1 _ h1 => ?_
    obtain ⟨k, e, h1⟩ := h1.tame
    refine ⟨k, tru_of hw r1.1 e, ?_⟩
    cases k with
    | false =>
      simp only [Bool.false_eq_true, if_false] at h1 ⊢
      exact sh_in d1 e1 h1
    | true =>
      simp only [if_true] at h1 ⊢
      exact h1.ok (VR.sh r1.1)
omit ha in
theorem sT_and {rest : List Expr} (hp : PT X a (tT g C w W ia)) (hq : PW X (.BoolOp .And (b :: rest) pos) (tT g C w W ib)) : PW X (.BoolOp .And (a :: b :: rest) pos) (tT g C w W (.and ia ib)) :=
  PW.imp (pw_and hp hq) fun σ H Q ⟨env, O, dom, en, f⟩ => ⟨env, O, dom, en.l, okB_split rI_ok f fun v H1 s1 h1 => by
    cases v with
    | false =>
      simp only [Bool.false_eq_true, if_false] at h1 ⊢
      exact h1.ok rfl
    | true =>
      simp only [if_true] at h1 ⊢
      exact ⟨env, O, dom.same s1, en.r.same s1, h1⟩⟩
omit ha in
theorem sT_or {rest : List Expr} (hp : PT X a (tT g C w W ia)) (hq : PW X (.BoolOp .Or (b :: rest) pos) (tT g C w W ib)) : PW X (.BoolOp .Or (a :: b :: rest) pos) (tT g C w W (.or ia ib)) :=
  PW.imp (pw_or hp hq) fun σ H Q ⟨env, O, dom, en, f⟩ => ⟨env, O, dom, en.l, okB_split rI_ok f fun v H1 s1 h1 => by
    cases v with
    | false =>
      simp only [Bool.false_eq_true, if_false] at h1 ⊢
      exact ⟨env, O, dom.same s1, en.r.same s1, h1⟩
    | true =>
      simp only [if_true] at h1 ⊢
      exact h1.ok rfl⟩
include hb
omit ha in
theorem sE_ife (hp : PT X c (tT g C w W ic)) (ha : PE X a (tE g C w W ia)) : PE X (.IfExp c a b pos) (tE g C w W (.ife ic ia ib)) :=
  PE.imp (pe_ifExp hp ha hb) fun σ H Q ⟨env, O, dom, en, f⟩ => ⟨env, O, dom, en.l, okB_split rV_ok f fun v H1 s1 h1 => by
    cases v with
    | false =>
      simp only [Bool.false_eq_true, if_false] at h1 ⊢
      exact ⟨env, O, dom.same s1, en.r.r.same s1, h1⟩
    | true =>
      simp only [if_true] at h1 ⊢
      exact ⟨env, O, dom.same s1, en.r.l.same s1, h1⟩⟩
end
section
variable {X : Cx} {W : WX} {g : G} {w : Wr} {n : Nat} {C : Cal} {a : Expr} {ia : E} {es : List Expr} {is : Es} {pos : Pos}
/-! ### lists of values -/
theorem sA_nil : PA X [] (tEs g C w W .nil) := PA.imp pa_nil fun σ H Q ⟨env, O, dom, en, f⟩ => fR.ok (rel := rVs w O) (a := []) (b := []) f rfl
theorem sA_cons (ha : PE X a (tE g C w W ia)) (hs : PA X es (tEs g C w W is)) (h : starEach (a :: es) X.env = (false, eval a X.env) :: starEach es X.env) : PA X (a :: es) (tEs g C w W (.cons ia is)) :=
  PA.imp (pa_cons ha hs h) fun σ H Q ⟨env, O, dom, en, f⟩ => by
    have f : fR w W σ O (rVs w O) H ((ev g C ia env).bind fun x => (evs g C is env).bind fun l => .ok (x :: l)) Q := f
    refine ⟨env, O, dom, en.l, f.bind (rel' := rV w O) fun v x H1 s1 r1 h1 => ⟨env, grow O v x, grow_dom dom s1 r1, (en.r.wide (grow_new r1)).same s1, ?_⟩⟩
    cases e : evs g C is env with
    | ok vs =>
      rw [e] at h1
      exact fun xs H2 s2 r2 => h1 (x :: xs) H2 (s1.trans s2) ⟨x, xs, H1, rfl, s1, s2, r1, r2⟩
    | exc d => rw [e] at h1; exact fun c dd H' s' q => h1 c dd H' (s1.trans s') (q.mono fun a z => .inl z)
    | no => rw [e] at h1; exact h1
theorem es_in {σ : L2.St} {H : Hp} {α' β' : Type} {rel2 : Hp → Hp → α' → β' → Prop} {Q : β' → Hp → Prop} {env : Env} {O : Addr → Prop} {js : List (Nat × Bool)} {f : List OD → R α'} {R1 : List V → Hp → Prop}
    (ro : RelOk rel2) (dom : Dom O H) (en : EnvE w H O σ env (rds is ++ js)) (h : fR w W σ O rel2 H ((evs g C is env).bind f) Q)
    (k : ∀ v x H1, Dom O H1 → EnvE w H1 O σ env js → VRs w O H H1 v x → Same H H1 → fR w W σ O rel2 H (f v) Q → R1 x H1) : tEs g C w W is σ H R1 :=
  ⟨env, O, dom, en.l, h.bind (rel' := rVs w O) fun v x H1 s1 r1 h1 => k v x H1 (dom.same s1) (en.r.same s1) r1 s1 h1⟩
theorem sE_tup (hs : PA X es (tEs g C w W is)) {x1 : Nat} : PE X (.Tuple es x1 pos) (tE g C w W (.tup is)) :=
  PE.imp (pe_tup hs) fun σ H Q ⟨env, O, dom, en, f⟩ => by
    refine es_in (js := []) rV_ok dom (by rw [List.append_nil]; exact en) f fun v x H1 d1 e1 r1 s1 h1 => ?_
    split at h1
    · rename_i hz
      have hz := of_decide_eq_true hz
      rw [szL_eq, r1.length] at hz
      refine ⟨hz, fun p hp => ?_⟩
      refine (h1.later rV_ok s1) _ _ (same_new hp) (VR.sh ⟨p, _, rfl, .inl (.inl upd_same), Reps.same (same_new hp) _ _ r1.reps⟩)
    · exact h1.elim
theorem sE_emp : PE X (.Dict [] [] pos) (tE g C w W .emp) := PE.imp pe_dnewK fun σ H Q ⟨env, O, dom, en, f⟩ p hp => by
  have f : fR w W σ O (rV w O) H (.ok (.o1, .dct [] [])) Q := f
  exact f _ _ (same_new hp) ⟨⟨p, rfl, dom.free hp, .inl ⟨[], upd_same, rfl, rfl⟩⟩, p, rfl, hp, rfl, p, rfl, .inl ⟨[], upd_same, rfl, rfl⟩⟩
theorem sE_lst (hs : PA X es (tEs g C w W is)) : PE X (.List es pos) (tE g C w W (.lst is)) :=
  PE.imp (pe_lst hs) fun σ H Q ⟨env, O, dom, en, f⟩ => by
    refine es_in (js := []) rV_ok dom (by rw [List.append_nil]; exact en) f fun v x H1 d1 e1 r1 s1 h1 => ?_
    split at h1
    · rename_i hz
      have hz := of_decide_eq_true hz
      rw [szL_eq, r1.length] at hz
      refine ⟨hz, fun p hp => ?_⟩
      have wid : ∀ a, (O a ∨ a = p) → O a ∨ H1 a = none := fun a z => z.imp id fun z => by rw [z]; exact hp
      refine h1 _ _ (s1.trans (same_new hp)) ⟨⟨p, _, rfl, upd_same, d1.free hp, Reps.same (same_new hp) _ _ r1.reps⟩, ?_⟩
      show Frs w H (upd H1 p (.lst x)) O (listOwn v, _) (.ref p)
      unfold listOwn
      split
      · rename_i hq
        rw [Bool.and_eq_true] at hq
        obtain ⟨qs, e, nd, q, ks⟩ := r1.own hq.2
        refine ⟨p, qs, _, rfl, rfl, s1.free hp, by rw [upd_same, e], List.nodup_cons.mpr ⟨fun z => ?_, nd⟩, q, Kids.same (same_new hp) (Kids.wide (fun b z => ?_) ks)⟩
        · obtain ⟨vs, y⟩ := ks.there p z
          rw [hp] at y; cases y
        · rcases z with z | z
          · exact .inl (.inl z)
          · rcases List.mem_cons.mp z with z | z
            · subst z; exact .inr hp
            · exact .inl (.inr z)
      · exact ⟨p, rfl, s1.free hp, rfl, p, _, rfl, upd_same, Reps.same (same_new hp) _ _ (Reps.wide wid _ _ r1.reps)⟩
    · exact h1.elim
end
end S2

set_option maxHeartbeats 4000000
/-! S2g: slices, fields, calls. -/
namespace S2
open PySem PySem.Spec PyProof.Rows L2

section
variable {w : Wr} {H H' : Hp} {O O' : Addr → Prop}
/-- a field -/
theorem fld_get {f : Str} : ∀ {ns : List Str} {ds : List D} {fs : List (Str × V)} {d : D}, fs.map (·.1) = ns → Reps w H O ds (fs.map (·.2)) → fldL f ns ds = some d → ∃ v, fs.lookup f = some v ∧ Rep w H O d v
  | [], ds, fs, d, _, _, h => by unfold fldL at h; cases h
  | n :: ns, [], fs, d, _, _, h => by unfold fldL at h; cases h
  | n :: ns, x :: ds, [], d, e, _, _ => by cases e
  | n :: ns, x :: ds, (m, v) :: fs, d, e, r, h => by
    obtain ⟨v', r', e2, h1, h2⟩ := r
    have e1 : m = n := (List.cons.inj e).1
    have e3 : fs.map (·.1) = ns := (List.cons.inj e).2
    have e4 := List.cons.inj e2
    subst e1
    unfold fldL at h
    by_cases z : m = f
    · subst z
      rw [if_pos rfl] at h
      cases h
      refine ⟨v, by simp [List.lookup_cons], ?_⟩
      rw [show v = v' from e4.1]; exact h1
    · rw [if_neg z] at h
      obtain ⟨u, h3, h4⟩ := fld_get e3 (by rw [show fs.map (·.2) = r' from e4.2]; exact h2) h
      refine ⟨u, ?_, h4⟩
      have : (f == m) = false := by simpa using fun q : f = m => z q.symm
      simp only [List.lookup_cons, this]
      exact h3
theorem fld_none {m : Str} {ns : List Str} {fs : List (Str × V)} (e : fs.map (·.1) = ns) (h : ns.contains m = false) : fs.lookup m = none := by
  subst e
  induction fs with
  | nil => rfl
  | cons p fs ih =>
    simp only [List.map_cons, List.contains_cons, Bool.or_eq_false_iff] at h
    obtain ⟨q, v⟩ := p
    have h1 : (m == q) = false := h.1
    rw [List.lookup_cons, h1]
    exact ih h.2
end

section
variable {X : Cx} {W : WX} {g : G} {w : Wr} {n : Nat} {C : Cal} {a : Expr} {ia : E} {lo hi : Option Expr} {il ih : Eo} {es : List Expr} {is : Es} {pos p2 : Pos}
theorem sO_none : PO X none (tO g C w W .none) := PO.imp po_none fun σ H Q ⟨env, O, dom, en, f⟩ => fR.ok (rel := rI (Option Int) O) (a := none) (b := none) f rfl
theorem sO_some (ha : PE X a (tE g C w W ia)) : PO X (some a) (tO g C w W (.some ia)) := PO.imp (po_some ha) fun σ H Q ⟨env, O, dom, en, f⟩ => by
  refine one_in (is := []) rI_ok dom (by rw [List.append_nil]; exact en) f fun v x H1 d1 e1 r1 _ h1 => ?_
  obtain ⟨o, d⟩ := v
  cases d with
  | int i => exact ⟨i, r1.1, h1.ok rfl⟩
  | _ => exact h1.elim
theorem sE_sl (hw : w.K = X.K) (ha : PE X a (tE g C w W ia)) (hl : PO X lo (tO g C w W il)) (hh : PO X hi (tO g C w W ih)) : PE X (.Subscript a (.Slice lo hi none p2) pos) (tE g C w W (.sl ia il ih)) :=
  PE.imp (pe_slice (sl_any hw) ha hl hh) fun σ H Q ⟨env, O, dom, en, f⟩ => by
    refine one_in rV_ok dom en f fun v x H1 d1 e1 r1 _ h1 => ⟨env, O, d1, e1.l, h1.bind (rel' := rI (Option Int) O) fun l l' H2 s2 z h2 => ⟨env, O, d1.same s2, e1.r.same s2, (h2.later rV_ok s2).bind (rel' := rI (Option Int) O) fun k k' H3 s3 z' h3 => ?_⟩⟩
    cases (show l' = l from z)
    cases (show k' = k from z')
    obtain ⟨d, e, q⟩ := ownL_fin (h3.later rV_ok s3)
    exact ⟨_, O, (d1.same s2).same s3, Rep.same (s2.trans s3) _ _ r1.1, d, e, q⟩
theorem fld_fin {f : Str} {σ : L2.St} {O : Addr → Prop} {H : Hp} {Q : VK} {d : D} {x : V} (fx : Fx X.K X.mg g w) (hf : g.nf f = true) (r : RepK w H O d x) (h : fR w W σ O (rV w O) H (shD (fldD f d).tame) Q) :
    ∃ a C dx fs v, x = .ref a ∧ H a = some (.ins C dx fs) ∧ Cls X.K C ∧ NoAttr X.K C f ∧ fs.lookup f = some v ∧ Q v H := by
  have h : fR w W σ O (rV w O) H ((fldD f d).tame.bind fun d => .ok (.sh, d)) Q := h
  obtain ⟨d', e, h2⟩ := h.tame
  clear h
  cases d with
  | ob c ns vs =>
    obtain ⟨p, dx, fs, rfl, hp, ⟨hc, k⟩, r1⟩ := r
    have e : (match fldL f ns vs with | some d => R.ok d | none => .no) = .ok d' := e
    split at e
    · rename_i d2 e2
      cases e
      obtain ⟨v, l, rv⟩ := fld_get k r1 e2
      exact ⟨p, _, dx, fs, v, rfl, hp, fx.cls c hc, fx.nf c f hc hf, l, fR.ok (rel := rV w O) h2 (VR.sh rv)⟩
    · cases e
  | _ => exact nomatch (show (R.no : R D) = R.ok d' from e)
theorem sE_fldv {f : Str} {i : Nat} {x : Str} {p : Pos} (fx : Fx X.K X.mg g w) (hf : g.nf f = true) (hN : X.N[i]? = some x) (hv : Vis X.env.scope x) (hd : (x == ("__debug__" : Str)) = false) (hcd : (x == ("__classdict__" : Str)) = false)
    (hb : attributeBase (.Name x p) f X.env (eval (.Name x p) X.env) = eval (.Name x p) X.env) : PE X (.Attribute (.Name x p) f pos) (tE g C w W (.fld (.var i) f)) :=
  PE.imp (pe_fld (pe_var hN hv hd hcd) hb) fun σ H Q ⟨env, O, dom, en, h⟩ => by
    have h : fR w W σ O (rV w O) H (match env[i]? with
      | some (some (.ex, d)) => .no
      | some (some (_, d)) => shD (fldD f d).tame
      | _ => .no) Q := h
    split at h
    · exact h.elim
    · rename_i o d ox e
      obtain ⟨v, hv, r⟩ := en.getK (List.mem_singleton.mpr rfl) e (fun z => by subst z; exact ox rfl)
      exact ⟨v, hv, fld_fin fx hf r h⟩
    · exact h.elim
/-! ### calls -/
variable {x : Str} {p : Pos} {e : Expr}
theorem pe_callSD0 {CX : CXT} {k : Nat} {f : Addr} {fd : FuncData} {ps : List Str} {sp : Sp} {E : L2.St → XK} (F : FnG X.prog X.w X.K X.mg X.base CX k f fd ps sp) (hr : Room k X.A) (ng : NoG X.A) (hg : Gl X x) (hm : X.mg x = some (.ref f)) (hk : PySem.W.keepIn X.K (.ref f) = true) (hb : Binds X.K fd ps []) (hx : ∀ σ, PassesAt CX X σ (E σ))
    (hdb : (x == ("__debug__" : Str)) = false) : PE X (.Call (.Name x p) [] [] pos) (tCallG sp E tNil) := by
  refine ⟨fun pins s σ H Q I h => ?_⟩
  refine wpAny_Call_Name_kw (ld_glob I hg hm ?_ hdb)
  exact PySem.W.callWith_K0 I.kIn hk (run_fnG (us := []) F hr ng hb (hx σ) I .nil h)
/-- no star among the arguments -/
def Plain (X : Cx) : List Expr → Prop
  | [] => True
  | e :: es => starEach (e :: es) X.env = (false, eval e X.env) :: starEach es X.env ∧ Plain X es
theorem starEach_nil {env : PySem.Env} : starEach [] env = [] := by rfl
theorem Plain.any : ∀ {es : List Expr} (pos : Pos), Plain X es → (backTo pos (starEach es X.env)).any (·.1) = false
  | [], _, _ => by rw [starEach_nil]; rfl
  | e :: es, pos, ⟨h, t⟩ => by
    have ih := Plain.any pos t
    rw [h]
    cases hs : starEach es X.env with
    | nil => rfl
    | cons q r =>
      rw [hs] at ih
      show (false || (backTo pos (q :: r)).any (·.1)) = false
      rw [ih]; rfl
theorem call_fin {m : Nat} {f : Str} {σ : L2.St} {O : Addr → Prop} {H H1 : Hp} {Q : VK} {l : List OD} {xs : List V} (dom : Dom O H1) (r : VRs w O H H1 l xs) (s1 : Same H H1) (h : fR w W σ O (rV w O) H (callD g m f (l.map (·.2))) Q) : spF g w m f xs H1 Q (WE W σ) := by
  refine ⟨_, O, dom, r.reps, ?_⟩
  have h := h.later rV_ok s1
  cases e : callD g m f (l.map (·.2)) with
  | ok v => rw [e] at h; exact h
  | exc d => rw [e] at h; exact h
  | no => rw [e] at h; exact h
theorem sE_call0 (gd : Gd X W g w n) (ht : g.top x = true) (hg : Gl X x) (hd : (x == ("__debug__" : Str)) = false) : PE X (.Call (.Name x p) [] [] pos) (tE g (cal g n) w W (.call x .nil)) := by
  obtain ⟨f, fd, ps, hm, hk, hb, F⟩ := (gd.lv rfl).fn x ht
  refine PE.imp (pe_callSD0 F (gd.room rfl) gd.ng hg hm hk hb (fun σ => L2N.passAt gd.takes σ) hd) fun σ H Q ⟨env, O, dom, en, h⟩ => ?_
  exact call_fin (l := []) (xs := []) dom rfl (Same.refl H) h
theorem sE_call (gd : Gd X W g w n) (ht : g.top x = true) (hg : Gl X x) (hd : (x == ("__debug__" : Str)) = false) (hs : PA X (e :: es) (tEs g (cal g n) w W is)) (hp : Plain X (e :: es)) : PE X (.Call (.Name x p) (e :: es) [] pos) (tE g (cal g n) w W (.call x is)) := by
  obtain ⟨f, fd, ps, hm, hk, hb, F⟩ := (gd.lv rfl).fn x ht
  refine PE.imp (pe_callG F (gd.room rfl) gd.ng hg hm hk hb (fun σ => L2N.passAt gd.takes σ) hs hd hp.1 (hp.2.any pos)) fun σ H Q ⟨env, O, dom, en, h⟩ => ?_
  refine es_in (js := []) rV_ok dom (by rw [List.append_nil]; exact en) h fun v y H1 d1 e1 r1 s1 h1 => ?_
  exact call_fin d1 r1 s1 h1
/-! ### new instances -/
theorem under_call {A : Around} (h : NoG A) (us : List Value) (kw : List (Str × Value)) : NoG (A.under (.builtin "type.__call__" ⟨us, kw⟩)) := by
  have e : (Code.builtin "type.__call__" ⟨us, kw⟩).guards = [] := by
    unfold Code.guards
    rw [if_neg]
    show ¬ (guardIds.contains "type.__call__") = true
    decide
  have q : (A.under (.builtin "type.__call__" ⟨us, kw⟩)).guards = pushGuards (Code.builtin "type.__call__" ⟨us, kw⟩).guards A.guards := rfl
  unfold NoG at h ⊢
  rw [q, e, h]
  rfl
theorem run_makeS {k : Nat} {K f : Addr} {fd : FuncData} {ps : List Str} {sp : Sp} {CX : CXT} {E : XK} {pins : List (Addr × Obj)} {σ : L2.St} {H : Hp} {s : Shared} {Q : VK} {us : List Value} {vs : List V} (M : Mk X.K K f) (F : FnG X.prog X.w X.K X.mg X.base CX k f fd ps sp) (hr : Room (k + 1) X.A) (ng : NoG X.A) (hb : Binds X.K fd ps [])
    (hx : PassesAt CX X σ E) (I : Inv X pins σ H s) (r : Vals vs us)
    (h : ∀ x dx, H x = none → H dx = none → dx ≠ x → sp (.ref x :: vs) (upd (upd H dx (.own x)) x (.ins K dx [])) (fun v H2 => v = .non ∧ Q (.ref x) H2) E) :
    wpAny (model X.prog X.w) X.A (call (.ref K) us) (EP X pins σ Q) X.xe s := by
  have hq := h (s.heap.objs.size + 1) s.heap.objs.size (I.hok.fresh (Nat.le_succ _)) (I.hok.fresh (Nat.le_refl _)) (Nat.ne_of_lt (Nat.lt_succ_self _))
  have I2 := Inv.made (C := K) I
  have r2 : Vals (V.ref (s.heap.objs.size + 1) :: vs) (Value.ref (s.heap.objs.size + 1) :: us) := .cons rfl r
  have hl : ((Value.ref (s.heap.objs.size + 1) :: us) ++ []).length = ps.length := by
    have e := r2.length
    rw [F.len _ _ _ _ hq] at e
    rw [List.append_nil]; exact e.symm
  have hb' := hb _ (Value.ref (s.heap.objs.size + 1) :: us) I2.kIn hl
  rw [List.append_nil] at hb'
  refine wpAny_call (make_map (f := f) I.kIn M.makes M.init (beq_iff_eq.mp M.fn) (codeAny_mono (F.run _ X.stack _ _ ⟨Value.ref (s.heap.objs.size + 1) :: us, []⟩ (Value.ref (s.heap.objs.size + 1) :: us) _ _ E (hr.make K us []) (under_call ng _ _)
    (I2.env0.make K us []) hb' r2 hq) fun r s' hq' => ?_))
  cases r with
  | error e => exact hx pins _ _ e s' I2 hq'
  | ok fl =>
    cases fl with
    | ret u =>
      obtain ⟨v, H', I3, rv, ev, q3⟩ := I2.after hq'
      subst ev
      exact ⟨rv, ⟨V.ref (s.heap.objs.size + 1), H', I3, rfl, q3⟩⟩
    | next => exact False.elim hq'
    | brk => exact False.elim hq'
    | cont => exact False.elim hq'
def tMakeS (K : Addr) (sp : Sp) (E : L2.St → XK) (t : TA) : TE := fun σ H Q => t σ H fun vs H1 => ∀ x dx, H1 x = none → H1 dx = none → dx ≠ x →
  sp (.ref x :: vs) (upd (upd H1 dx (.own x)) x (.ins K dx [])) (fun v H2 => v = .non ∧ Q (.ref x) H2) (E σ)
theorem pe_makeS {k : Nat} {K f : Addr} {fd : FuncData} {ps : List Str} {sp : Sp} {CX : CXT} {E : L2.St → XK} {t : TA} (M : Mk X.K K f) (F : FnG X.prog X.w X.K X.mg X.base CX k f fd ps sp) (hr : Room (k + 1) X.A) (ng : NoG X.A) (hg : Gl X x) (hm : X.mg x = some (.ref K)) (hb : Binds X.K fd ps []) (hx : ∀ σ, PassesAt CX X σ (E σ))
    (ha : PA X (e :: es) t) (hp : Plain X (e :: es)) (hdb : (x == ("__debug__" : Str)) = false) : PE X (.Call (.Name x p) (e :: es) [] pos) (tMakeS K sp E t) := by
  refine ⟨fun pins s σ H Q I h => ?_⟩
  refine wpAny_Call_Name_kw (ld_glob I hg hm ?_ hdb)
  refine PySem.W.callWith_K (h₀ := X.base) I.ok.mod.kin M.kp (thn (ha.run pos pins s σ H _ I h) fun us s1 ⟨vs, H1, I1, r, q⟩ => ⟨I1.kIn, ?_⟩) hp.1 (hp.2.any pos)
  exact run_makeS M F hr ng hb (hx σ) I1 r q
theorem sE_new {m : Nat} (gd : Gd X W g w n) (en : n = m + 1) (ht : g.cl x = true) (hc : w.cl x = true) (hg : Gl X x) (hd : (x == ("__debug__" : Str)) = false) (hs : PA X (e :: es) (tEs g (cal g n) w W is)) (hp : Plain X (e :: es)) : PE X (.Call (.Name x p) (e :: es) [] pos) (tE g (cal g n) w W (.new x is)) := by
  obtain ⟨f, fd, ps, hm, hk, hb, F⟩ := (gd.lv rfl).mkr x m ht en
  refine PE.imp (pe_makeS hk F (en ▸ gd.room rfl) gd.ng hg hm hb (fun σ => L2N.passAt gd.takes σ) hs hp hd) fun σ H Q ⟨env, O, dom, en2, h⟩ => ?_
  have h : fR w W σ O (rV w O) H ((evs g (cal g n) is env).bind fun l => shD (makeD g n x (l.map (·.2)))) Q := by
    have h : fR w W σ O (rV w O) H (if (n != 0) = true then (evs g (cal g n) is env).bind fun l => shD (makeD g n x (l.map (·.2))) else .no) Q := h
    rwa [if_pos (by rw [en]; rfl)] at h
  refine es_in (js := []) rV_ok dom (by rw [List.append_nil]; exact en2) h fun v y H1 d1 e1 r1 s1 h1 => ?_
  intro z dx nz ndx ne
  have h1 := h1.later rV_ok s1
  have s2 : Same H1 (upd (upd H1 dx (.own z)) z (.ins (w.ca x) dx [])) := fun b o q => by
    rw [upd_ne (ne_of_none q nz), upd_ne (ne_of_none q ndx)]; exact q
  refine ⟨z, dx, y, _, O, rfl, upd_same, d1.free nz, d1.same s2, Reps.same s2 _ _ (Reps.wide (fun a h => h.imp id fun h => by rw [h]; exact nz) _ _ r1.reps), ?_⟩
  subst en
  cases q : makeD g (m + 1) x (v.map (·.2)) with
  | ok d =>
    rw [q] at h1
    intro H' k r
    exact ⟨rfl, h1 (.ref z) H' (Same.made nz ndx k) (VR.sh r)⟩
  | exc d =>
    rw [q] at h1
    exact fun c dd H' k r => h1 c dd H' (Same.made nz ndx k) r
  | no => rw [q] at h1; exact h1
end
end S2

set_option maxHeartbeats 4000000
/-! S2h: sorted, reversed. -/
namespace PySem.W
open PySem PySem.Calls PyProof.Rows
section
variable {prog : Program} {w : World} {A : Around} {E : Value → Shared → Prop} {s : Shared} {β : Type} {vs : List Value} {bs : List β} {enc : β → PyData} {R : Value → β → Prop}
/-- sorted(xs) of a list or a tuple -/
theorem sorted_seq2 {it : Addr} {T : String} {o : Obj} {n : Nat} {Q : Value → Shared → Prop} (hT : T = "list" ∨ T = "tuple") (ho : s.heap.get? it = some o) (hc : o.cls = .type T) (hd : o.data = .seq vs.toArray n)
    (e : EachIs R vs bs) (er : EachIs (fun v b => ∃ as, Reads s.heap v (enc b) as) vs bs) (hal : AllAlike (bs.map enc)) (hk : Sortable (bs.map enc)) (hL : bs.length ≤ sizeLine)
    (hu : ∀ b, b ∈ bs → A.units + 2 + (enc b).depth < cLine)
    (h : ∀ (out : List Value) (c : Nat) (h1 h' : Heap), out.length = bs.length → EachIs R out (bs.mergeSort (dataLe false enc)) → (∀ b o, s.heap.get? b = some o → h1.get? b = some o) → (∀ b o, h1.get? b = some o → h'.get? b = some o) → h'.get? h1.objs.size = some (seqObj "list" out.toArray c) → Q (.ref h1.objs.size) { s with heap := h' }) :
    wpAny (model prog w) A (call (.builtin "sorted") [.ref it]) Q E s := by
  have hL' : vs.length ≤ sizeLine := by rw [e.length]; exact hL
  refine call_function_entry_kw kind_sorted plain_sorted entry_sorted (args_sorted1 _) ?_
  unfold Builtin.«sorted»
  refine wpAny_bind (m := checkCount "sorted" 1 1 _) (wpAny_pure ?_)
  refine wpAny_bind (wpAny_collect_seq it hT ho hc hd (fun h1 k1 => ?_) (by rw [List.size_toArray]; exact hL'))
  refine wpAny_bind (wpAny_newList ?_ hL')
  show wpAny _ _ _ _ _ { s with heap := h1.push (seqObj "list" vs.toArray 0) }
  have at1 : (h1.push (seqObj "list" vs.toArray 0)).get? h1.objs.size = some (seqObj "list" vs.toArray 0) := Heap.get?_push_size _ rfl
  have keep : ∀ b o, s.heap.get? b = some o → (sortingHeap (h1.push (seqObj "list" vs.toArray 0)) h1.objs.size vs).get? b = some o := fun b o q =>
    sortingHeap_old (Nat.ne_of_lt (Heap.lt_size (k1 b o q))) (Heap.get?_push_of_some _ (k1 b o q))
  have er' : EachIs (fun v b => ∃ as, Reads (sortingHeap (h1.push (seqObj "list" vs.toArray 0)) h1.objs.size vs) v (enc b) as) vs bs := er.mono fun _ _ ⟨as, r⟩ => ⟨as, PyProof.Rows.Reads.keeps keep r⟩
  refine wpAny_bind (wpAny_holding (wpAny_call_entry_kw slot_list_sort ⟨_, at1, rfl⟩ entry_list_sort ?body (args_list_sort _)))
  case body =>
    show wpAny (model prog w) A.in1.in1 (Builtin.«list.sort» ⟨[.ref h1.objs.size], []⟩) _ _ _
    refine list_sort_vals (s := { s with heap := h1.push (seqObj "list" vs.toArray 0) }) at1 (SortsAt.data (s := { s with heap := sortingHeap (h1.push (seqObj "list" vs.toArray 0)) h1.objs.size vs }) (each_map (R := fun v d => ∃ as, Reads (sortingHeap (h1.push (seqObj "list" vs.toArray 0)) h1.objs.size vs) v d as) enc er') hal hk (bound_map hu)) hL' ?_
    refine ⟨_, rfl, wpAny_pure ⟨_, rfl, ?_⟩⟩
    obtain ⟨c, hc'⟩ := sortedHeap_at (h := h1.push (seqObj "list" vs.toArray 0)) (vs := vs) (out := (sortVals (dataKind (sortingHeap (h1.push (seqObj "list" vs.toArray 0)) h1.objs.size vs) (bs.map enc)) false vs vs).toArray) at1
    refine h _ c h1 _ (by rw [sortVals_length false rfl]; exact e.length) (sortVals_data false e er' hal) k1 (fun b o q => ?_) hc'
    have hlt := Heap.lt_size q
    rw [sortedHeap_old (Nat.ne_of_lt hlt) (by rw [size_push']; exact Nat.lt_succ_of_lt hlt)]
    exact Heap.get?_push_of_some _ q
end
end PySem.W

namespace S2
open PySem PySem.Spec PyProof.Rows L2
section
variable {X : Cx} {w : Wr} (hw : w.K = X.K)
theorem reps_zip {H : Hp} {O : Addr → Prop} : ∀ {l : List D} {vs : List V}, Reps w H O l vs → ∀ p ∈ l.zip vs, Rep w H O p.1 p.2
  | [], _, _, p, h => by simp at h
  | d :: l, _, ⟨v, r, e, h, t⟩, p, hp => by
    subst e
    rw [List.zip_cons_cons] at hp
    rcases List.mem_cons.mp hp with z | z
    · subst z; exact h
    · exact reps_zip t p z
theorem reps_of {H : Hp} {O : Addr → Prop} : ∀ {bs : List (D × V)}, (∀ p ∈ bs, Rep w H O p.1 p.2) → Reps w H O (bs.map (·.1)) (bs.map (·.2))
  | [], _ => rfl
  | p :: bs, h => ⟨p.2, _, rfl, h p List.mem_cons_self, reps_of fun q hq => h q (List.mem_cons_of_mem _ hq)⟩
theorem each_zip {vs : List V} {us : List Value} (r : Vals vs us) : ∀ {l : List D}, l.length = vs.length → PySem.W.EachIs (fun u (p : D × V) => RelV p.2 u) us (l.zip vs) := by
  induction r with
  | nil => intro l h; cases l <;> first | exact .nil | simp at h
  | cons q t ih =>
    intro l h
    cases l with
    | nil => simp at h
    | cons d l => exact .cons q (ih (by simpa using h))
theorem each_and {α β : Type} {R S : α → β → Prop} {as : List α} {bs : List β} (h : PySem.W.EachIs R as bs) (k : ∀ a b, b ∈ bs → R a b → S a b) : PySem.W.EachIs S as bs := by
  induction h with
  | nil => exact .nil
  | cons q t ih => exact .cons (k _ _ List.mem_cons_self q) (ih fun a b m => k a b (List.mem_cons_of_mem _ m))
theorem vals_of_each {us : List Value} {bs : List (D × V)} (h : PySem.W.EachIs (fun u (p : D × V) => RelV p.2 u) us bs) : Vals (bs.map (·.2)) us := by
  induction h with
  | nil => exact .nil
  | cons q t ih => exact .cons q ih
theorem py_nt (a : D) : (match a with | .tup _ => false | .non => false | _ => true) = true → py a ≠ .none ∧ ∀ xs, py a ≠ .tuple xs := by
  intro h
  cases a <;> first | (exact absurd h Bool.false_ne_true) | exact ⟨fun z => PyData.noConfusion z, fun _ z => PyData.noConfusion z⟩
theorem py_ct (a : D) : (match a with | .tup (_ :: _) => true | _ => false) = true → ∃ x r, py a = .tuple (x :: r) := by
  intro h
  cases a with
  | tup l => cases l with
    | nil => exact absurd h Bool.false_ne_true
    | cons x r => exact ⟨py x, pys r, rfl⟩
  | _ => exact absurd h Bool.false_ne_true
include hw
theorem srt_core (hu : X.A.units + 66 < cLine) {pins : List (Addr × Obj)} {s : Shared} {σ : L2.St} {H : Hp} {O : Addr → Prop} {Q : VK} {T : String} {it : Addr} {o : Obj} {vs : List Value} {xs : List V} {l : List D} {n : Nat} {d : D} (I : Inv X pins σ H s) (dom : Dom O H) (hT : T = "list" ∨ T = "tuple")
    (ho : s.heap.get? it = some o) (hc : o.cls = .type T) (hd : o.data = .seq vs.toArray n) (rv : Vals xs vs) (r : Reps w H O l xs) (e : sortD l = .ok d) (q : HO1 w H O d Q) : wpAny (model X.prog X.w) X.A (call (.builtin "sorted") [.ref it]) (EP X pins σ Q) X.xe s := by
  unfold sortD at e
  split at e
  case isFalse => cases e
  rename_i hz
  cases e
  unfold sortOk at hz
  simp only [Bool.and_eq_true, decide_eq_true_eq, List.all_eq_true, Bool.or_eq_true] at hz
  obtain ⟨⟨hz1, hz2⟩, hz3⟩ := hz
  have hlen := r.length
  have mz : ∀ p ∈ l.zip xs, p.1 ∈ l := fun p hp => (List.of_mem_zip (a := p.1) (b := p.2) hp).1
  have rz := reps_zip r
  have e1 := each_zip rv hlen
  have er : PySem.W.EachIs (fun v (b : D × V) => ∃ as, Reads s.heap v (py b.1) as) vs (l.zip xs) := each_and e1 fun u p m rel => by
    obtain ⟨as, h1, _⟩ := reads_of hw I rel (hz2 _ (mz p m)).1 (rz p m)
    exact ⟨as, h1⟩
  refine PySem.W.sorted_seq2 (enc := fun b : D × V => py b.1) hT ho hc hd e1 er (fun a ha b hb => ?_) ?_ (by rw [List.length_zip, ← hlen, Nat.min_self]; exact szL_eq ▸ hz1) (fun b hb => ?_) fun out c h1 h' hl ho2 k1 k2 hat => ?_
  · obtain ⟨p, hp, rfl⟩ := List.mem_map.mp ha
    obtain ⟨p', hp', rfl⟩ := List.mem_map.mp hb
    exact (hz2 _ (mz p hp)).2 _ (mz p' hp')
  · rcases hz3 with z | z
    · refine .inl fun a ha => ?_
      obtain ⟨p, hp, rfl⟩ := List.mem_map.mp ha
      exact py_ct _ (z _ (mz p hp))
    · refine .inr fun a ha => ?_
      obtain ⟨p, hp, rfl⟩ := List.mem_map.mp ha
      exact py_nt _ (z _ (mz p hp))
  · have := (hz2 _ (mz b hb)).1
    unfold plainB depth64 at this
    simp only [Bool.and_eq_true, decide_eq_true_eq] at this
    show X.A.units + 2 + (py b.1).depth < cLine
    omega
  · have I1 : Inv X pins σ H { s with heap := h1 } := I.kept (t' := s.toks) k1
    have hn : H h1.objs.size = none := I1.hok.fresh (Nat.le_refl _)
    have rs : Reps w H O (l.mergeSort leD) (((l.zip xs).mergeSort (PySem.W.dataLe false fun b : D × V => py b.1)).map (·.2)) := by
      have z : l.mergeSort leD = ((l.zip xs).mergeSort (PySem.W.dataLe false fun b : D × V => py b.1)).map (·.1) := by
        have z1 := List.map_mergeSort (r := PySem.W.dataLe false fun b : D × V => py b.1) (s := leD) (f := fun b : D × V => b.1) (l := l.zip xs) (fun a _ b _ => rfl)
        rw [z1]
        show _ = ((l.zip xs).map Prod.fst).mergeSort leD
        rw [List.map_fst_zip (by omega)]
      rw [z]
      exact reps_of fun p hp => rz p (List.mem_mergeSort.mp hp)
    refine ⟨.ref h1.objs.size, _, I1.laid (o := .lst (((l.zip xs).mergeSort (PySem.W.dataLe false fun b : D × V => py b.1)).map (·.2))) (t' := s.toks) k2 (Nat.le_refl _) ?_, rfl, HO1.lst q dom rs _ hn⟩
    refine ⟨?_, out, c, vals_of_each ho2, hat⟩
    rw [List.length_map, List.length_mergeSort, List.length_zip, ← hlen, Nat.min_self]
    exact szL_eq ▸ hz1
theorem bi_sorted (hu : X.A.units + 66 < cLine) : CallR X (idOf .sorted) (RL w (biD .sorted)) := by
  intro pins s σ H xs us Q I r ⟨ds, O, dom, rr, d, e, q⟩
  match ds, e with
  | [.tup l], e =>
    obtain ⟨x, rfl, p, vs, rfl, hp, r1⟩ := Reps.one_of rr
    obtain ⟨u, rfl, ru⟩ := vals1 r
    cases (show u = Value.ref p from ru)
    obtain ⟨its, rv, ⟨o, ho, hc, n, hd⟩, _⟩ := I.tuple (hw ▸ hp)
    exact srt_core hw hu I dom (.inr rfl) ho hc hd rv r1 e q
  | [.lst l], e =>
    obtain ⟨x, rfl, p, vs, rfl, hp, _, r1⟩ := Reps.one_of rr
    obtain ⟨u, rfl, ru⟩ := vals1 r
    cases (show u = Value.ref p from ru)
    obtain ⟨its, rv, pl, _⟩ := I.list (SqL.of hp)
    obtain ⟨o, ho, hc, n, hd⟩ := pl.isList
    exact srt_core hw hu I dom (.inl rfl) ho hc hd rv r1 e q
end
end S2

set_option maxHeartbeats 4000000
/-! S2i: built-in calls, join, comprehensions. -/
namespace S2
open PySem PySem.Spec PyProof.Rows L2

def nmB : Bi → Str
  | .len => "len" | .int => "int" | .str => "str" | .abs => "abs" | .tuple => "tuple" | .list => "list" | .sum => "sum" | .max => "max"
  | .min => "min" | .repr => "repr" | .sorted => "sorted" | .all => "all" | .any => "any" | _ => "_"
def isTy : Bi → Option String
  | .int => some "int" | .str => some "str" | .tuple => some "tuple" | .list => some "list" | _ => none
def isBl : Bi → Option String
  | .len => some "len" | .abs => some "abs" | .sum => some "sum" | .max => some "max" | .min => some "min" | .repr => some "repr" | .sorted => some "sorted" | .all => some "all" | .any => some "any" | _ => none
theorem boot_ty {f : Bi} {T : String} (h : isTy f = some T) : bootBuiltins (nmB f) = some (.type T) ∧ idOf f = .type T ∧ (nmB f ≠ "__name__") ∧ (nmB f == ("__debug__" : Str)) = false := by
  cases f <;> simp only [isTy, reduceCtorEq, Option.some.injEq] at h <;> subst h <;> exact ⟨by rfl, rfl, by decide, by decide⟩
theorem boot_bl {f : Bi} {T : String} (h : isBl f = some T) : bootBuiltins (nmB f) = some (.builtin T) ∧ idOf f = .builtin T ∧ (nmB f ≠ "__name__") ∧ (nmB f == ("__debug__" : Str)) = false := by
  cases f <;> simp only [isBl, reduceCtorEq, Option.some.injEq] at h <;> subst h <;> exact ⟨by rfl, rfl, by decide, by decide⟩
/-- builtins that call nothing back -/
def coolB : Bi → Bool
  | .len => true | .int => true | .str => true | .abs => true | .tuple => true | .list => true | .repr => true | .sorted => true | _ => false
section
variable {X : Cx} {W : WX} {g : G} {w : Wr} {n : Nat} {C : Cal} {a e : Expr} {ia : E} {es : List Expr} {is : Es} {pos p : Pos}
theorem bi_call (hw : w.K = X.K) (hu : X.A.units + 66 < cLine) (ng : NoG X.A) (f : Bi) (hc : coolB f = true ∨ X.calm = true) (h : (isTy f).isSome = true ∨ (isBl f).isSome = true) : CallR X (idOf f) (RL w (biD f)) := by
  cases f with
  | len => exact bi_len hw
  | int => exact bi_int hw
  | str => exact bi_str hw
  | abs => exact bi_abs hw
  | tuple => exact bi_tuple hw
  | list => exact bi_list hw
  | sum => exact bi_sum (hc.resolve_left Bool.false_ne_true)
  | max => exact bi_max hw (hc.resolve_left Bool.false_ne_true) hu
  | min => exact bi_min hw (hc.resolve_left Bool.false_ne_true) hu
  | sorted => exact bi_sorted hw hu
  | repr => exact bi_repr hw ng hu
  | all => exact bi_all (hc.resolve_left Bool.false_ne_true)
  | any => exact bi_any (hc.resolve_left Bool.false_ne_true)
  | _ => rcases h with h | h <;> exact absurd h Bool.false_ne_true
theorem bi_fin {f : Bi} {σ : L2.St} {H : Hp} {Q : VK} (h : tE g C w W (.bi f is) σ H Q) : tCB (RL w (biD f)) (tEs g C w W is) σ H Q := by
  obtain ⟨env, O, dom, en, h⟩ := h
  refine es_in (js := []) rV_ok dom (by rw [List.append_nil]; exact en) h fun v y H1 d1 e1 r1 s1 h1 => ?_
  obtain ⟨d, q, k⟩ := ownL_fin (h1.later rV_ok s1)
  exact ⟨_, O, d1, r1.reps, d, q, k⟩
theorem sE_bi {hot : Bool} (gd : Gd X W g w n hot) (hu : X.A.units + 66 < cLine) (f : Bi) (hcl : coolB f = true ∨ X.calm = true) (hf : (isTy f).isSome = true ∨ (isBl f).isSome = true) (hg : Gl X (nmB f)) (hr : g.fr (nmB f) = true) (hs : PA X (e :: es) (tEs g C w W is)) (hp : Plain X (e :: es)) :
    PE X (.Call (.Name (nmB f) p) (e :: es) [] pos) (tE g C w W (.bi f is)) := by
  have hc := bi_call gd.fx.hK hu gd.ng f hcl hf
  rcases hf with h | h
  · obtain ⟨T, h⟩ := Option.isSome_iff_exists.mp h
    obtain ⟨h1, h2, h3, h4⟩ := boot_ty h
    rw [h2] at hc
    exact PE.imp (pe_callTy hc hg (gd.fx.free _ hr) h1 hs h3 h4 hp.1 (hp.2.any pos)) fun σ H Q h => bi_fin h
  · obtain ⟨T, h⟩ := Option.isSome_iff_exists.mp h
    obtain ⟨h1, h2, h3, h4⟩ := boot_bl h
    rw [h2] at hc
    exact PE.imp (pe_callB hc hg (gd.fx.free _ hr) h1 hs h3 h4 hp.1 (hp.2.any pos)) fun σ H Q h => bi_fin h
/-- max(xs, default=d), min(xs, default=d), d a literal -/
def nmK : Bi → Str
  | .maxd => "max" | .mind => "min" | _ => "_"
def isKw : Bi → Bool
  | .maxd => true | .mind => true | _ => false
theorem R.bind_assoc {α β γ : Type} (r : R α) (f : α → R β) (h : β → R γ) : (r.bind f).bind h = r.bind fun x => (f x).bind h := by cases r <;> rfl
theorem sE_kw {f : Bi} {id : E} {d : D} {v : V} {kv : Expr} {kp : Pos} {hot : Bool} (gd : Gd X W g w n hot) (hu : X.A.units + 66 < cLine) (hcl : X.calm = true) (hf : isKw f = true) (hg : Gl X (nmK f)) (hr : g.fr (nmK f) = true)
    (ha : PE X a (tE g C w W ia)) (hk : PE X kv (tC v)) (he : ∀ env, ev g C id env = .ok (.sh, d)) (rv : ∀ H O, Rep w H O d v) (hrd : rd id = []) (hs : starEach [a] X.env = (false, eval a X.env) :: starEach [] X.env) :
    PE X (.Call (.Name (nmK f) p) [a] [⟨some "default", kv, kp⟩] pos) (tE g C w W (.bi f (.cons ia (.cons id .nil)))) := by
  have fin : ∀ σ H Q, tE g C w W (.bi f (.cons ia (.cons id .nil))) σ H Q → tCKw (RK w (biD f)) (tCons (tE g C w W ia) tNil) (tCons (tC v) tNil) σ H Q := fun σ H Q ⟨env, O, dom, en, h⟩ => by
    have e1 : evs g C (.cons id .nil) env = .ok [(.sh, d)] := by rw [evs, he env, evs] <;> rfl
    have e2 : ev g C (.bi f (.cons ia (.cons id .nil))) env = (ev g C ia env).bind fun x => ownL (biD f [x.2, d]) := by
      rw [ev, evs, R.bind_assoc, e1] <;> rfl
    rw [e2] at h
    refine one_in (is := []) rV_ok dom ?_ h fun u y H2 d2 _ r2 s2 h2 => ?_
    · refine en.sub fun i m => ?_
      rw [List.append_nil] at m
      show i ∈ rd (.bi f (.cons ia (.cons id .nil)))
      rw [rd, rds, rds, rds, hrd, List.append_nil, List.append_nil]
      exact m
    · obtain ⟨e, q2, k⟩ := ownL_fin h2
      exact ⟨u.2, d, O, d2, ⟨y, [], rfl, r2.1, rfl⟩, ⟨v, [], rfl, rv _ _, rfl⟩, e, q2, k⟩
  have hA : PA X [a] (tCons (tE g C w W ia) tNil) := pa_cons ha pa_nil hs
  have hK : PK X [⟨some "default", kv, kp⟩] (tCons (tC v) tNil) := pk_cons hk pk_nil
  cases f with
  | maxd => exact PE.imp (pe_callBK (bi_maxd gd.fx.hK hcl hu) hg (gd.fx.free _ hr) (by rfl) hA hK (by decide) (by decide) (by rw [hs]; rfl) (by rw [hs]; rfl)) fin
  | mind => exact PE.imp (pe_callBK (bi_mind gd.fx.hK hcl hu) hg (gd.fx.free _ hr) (by rfl) hA hK (by decide) (by decide) (by rw [hs]; rfl) (by rw [hs]; rfl)) fin
  | _ => cases hf
/-- s.join(e) -/
theorem sE_join {z : Str} {ib : E} {a : Expr} (hw : w.K = X.K) {apos : Pos} (ha : PE X a (tC (.str z))) (he : PE X e (tE g C w W ib)) (hs : starEach [e] X.env = [(false, eval e X.env)]) (hbase : attributeBase a "join" X.env (eval a X.env) = eval a X.env) (hline : (apos.endLine == pos.line) = true) :
    PE X (.Call (.Attribute a "join" apos) [e] [] pos) (tE g C w W (.join z ib)) := by
  refine PE.imp (pe_m1 PySem.F.slot_str_join (by kernel_rfl) (bm_join (w := w) hw) ha he hs hbase hline) fun σ H Q ⟨env, O, dom, en, h⟩ => ?_
  refine ⟨⟨z, rfl⟩, ?_⟩
  refine one_in (is := []) rV_ok dom (by rw [List.append_nil]; exact en) h fun u y H2 d2 e2 r2 s2 h2 => ?_
  obtain ⟨d, q2, k⟩ := ownL_fin h2
  exact ⟨.str z, [u.2], O, d2, rfl, ⟨y, [], rfl, r2.1, rfl⟩, d, q2, k⟩
end
end S2

set_option maxHeartbeats 4000000
/-! S2rv: tuple(reversed(a tuple)). -/
namespace S2
open PySem PySem.Spec PyProof.Rows L2 RT

theorem no_len : typeLookup (.type "reversed") "__len__" = pure none := by rw [typeLookup_type, builtinLookup_eq_fast]; kernel_rfl
theorem a_hint : typeLookup (.type "reversed") "__length_hint__" = pure (some (.builtin "reversed.__length_hint__")) := by rw [typeLookup_type, builtinLookup_eq_fast]; kernel_rfl
theorem sl_hint : PySem.Slot "reversed" "__length_hint__" "reversed.__length_hint__" :=
  .of (owner := "reversed") (n := "__length_hint__") (by rw [typeLookup_type, builtinLookup_eq_fast]; kernel_rfl) (by decide +kernel) (by decide +kernel) (by decide +kernel)
    (by first | exact .inl (by decide +kernel) | exact .inr (by decide +kernel)) (by rw [isSubtype_type]; kernel_rfl)
theorem en_hint : entryFor table "reversed.__length_hint__" = some Builtin.«reversed.__length_hint__» := entryFor_of_tree (by kernel_rfl)
theorem ar_hint (a : Value) : argsOk "reversed.__length_hint__" ⟨[a], []⟩ := by
  unfold argsOk; rw [signature?_of (id := "reversed.__length_hint__") (n := ['_', '_', 't', 'n', 'i', 'h', '_', 'h', 't', 'g', 'n', 'e', 'l', '_', '_']) (o := ['d', 'e', 's', 'r', 'e', 'v', 'e', 'r']) (by kernel_rfl) owner_rt]; kernel_rfl
section
variable {prog : Program} {w : World} {A : Around} {E : Value → Shared → Prop} {s : Shared}
theorem hint_rt {it t : Addr} {items : Array Value} {Q : Value → Shared → Prop} (hit : IsRt s.heap it t ((items.size : Int) - 1)) (ht : IsTup s.heap t items) (hz : items.size ≤ sizeLine)
    (hQ : ∀ tk u, Q (.int items.size u) { s with toks := tk }) : wpAny (model prog w) A (call (.builtin "reversed.__length_hint__") [.ref it]) Q E s := by
  obtain ⟨o, ho, hc, hd⟩ := id hit
  have h63 : (items.size : Int) < 2 ^ 63 := by rw [sizeLine_eq] at hz; omega
  refine wpAny_call_entry sl_hint hit.typeIs en_hint ?_ (ar_hint _)
  unfold Builtin.«reversed.__length_hint__»
  refine wpAny_bind (wpAny_of_eq (a := Value.ref it) rfl ?_)
  try dsimp only
  refine wpAny_bind (wpAny_field ho hd (x := .ref t) rfl ?_)
  try dsimp only
  refine PySem.W.KFB.if_not rfl ?_
  try dsimp only
  refine wpAny_bind (len_tuple ht h63 ?_)
  refine wpAny_bind (wpAny_of_eq (a := some (items.size : Int)) rfl ?_)
  try dsimp only
  refine wpAny_bind (wpAny_field (s := { s with toks := s.toks + 1 + 1 }) ho hd (x := rawInt ((items.size : Int) - 1)) rfl ?_)
  show wpAny _ _ (if (items.size : Int) < (items.size : Int) - 1 + 1 then _ else _) _ _ _
  rw [if_neg (by omega)]
  have e : (items.size : Int) - 1 + 1 = items.size := by omega
  rw [e]
  show wpAny _ _ (mkInt (items.size : Int) >>= fun v => ret v) _ _ _
  exact wpAny_bind (wpAny_mkInt (wpAny_pure ⟨_, rfl, hQ _ _⟩))
theorem walk_rt (hh : A.handled = none) (it t : Addr) (ne : t ≠ it) (items : Array Value) (hz : items.size ≤ sizeLine) :
    Walks prog w A it [it, t] [it] items.size (fun i v => items[items.size - 1 - i]? = some v) (fun i h => i ≤ items.size ∧ IsRt h it t ((items.size : Int) - 1 - (i : Nat)) ∧ IsTup h t items) where
  sub := fun b hb => by
    cases List.mem_singleton.mp hb
    exact List.mem_cons_self
  frame := fun _ _ _ ⟨s0, s1, o2, g2, c2, d2⟩ hk => ⟨s0, s1.at fun o e => hk it (by simp) o e, o2, hk t (by simp) _ g2, c2, d2⟩
  item := fun i s Q E hi ⟨s0, s1, s2⟩ hQ => by
    have e1 : (items.size : Int) - 1 - (i : Nat) = ((items.size - 1 - i : Nat) : Int) := by omega
    have hlt : items.size - 1 - i < items.size := by omega
    refine next_rt_item (e1 ▸ s1) s2 (x := items[items.size - 1 - i]) (Array.getElem?_eq_getElem hlt) hz fun h' s1' sb => ?_
    have e2 : ((items.size - 1 - i : Nat) : Int) - 1 = (items.size : Int) - 1 - ((i + 1 : Nat) : Int) := by omega
    obtain ⟨o2, g2, c2, d2⟩ := id s2
    exact hQ _ h' (s.toks + 1) (Array.getElem?_eq_getElem hlt) ⟨by omega, e2 ▸ s1', o2, (sb.2 t ne).trans g2, c2, d2⟩ fun b o hb e => (sb.2 b fun z => hb (by simp [z])).trans e
  done := fun s Q E ⟨s0, s1, s2⟩ hQ => by
    have e1 : (items.size : Int) - 1 - ((items.size : Nat) : Int) = -1 := by omega
    rw [e1] at s1
    exact next_rt_end hh s1 fun h' he' => hQ h' s.toks fun b o hb e => he' b o (fun z => hb (by simp [z])) e
  self := fun _ _ _ _ st hQ => iter_rt st.2.1 hQ
theorem coll_rt {it t : Addr} {items : Array Value} {Q : List Value → Shared → Prop} (hh : A.handled = none) (hit : IsRt s.heap it t ((items.size : Int) - 1)) (ht : IsTup s.heap t items) (ne : t ≠ it) (hz : items.size ≤ sizeLine)
    (hQ : ∀ (h' : Heap) (tk : Nat) (acc : Array Value), (∀ b o, b ≠ it → s.heap.get? b = some o → h'.get? b = some o) → ItemsOf (fun i v => items[items.size - 1 - i]? = some v) acc items.size → Q acc.toList { s with heap := h', toks := tk }) :
    wpAny (model prog w) A (collect (.ref it)) Q E s := by
  have h63 : (items.size : Int) < 2 ^ 63 := by rw [sizeLine_eq] at hz; omega
  have hnn : ¬ (items.size : Int) < 0 := by omega
  have W := (walk_rt (prog := prog) (w := w) (A := A.in1) hh it t ne items hz).toS
  obtain ⟨oi, hoi, _⟩ := id hit
  obtain ⟨ot, hot, oc, od⟩ := id ht
  have ni : s.heap.objs.size ≠ it := Nat.ne_of_gt (Heap.lt_size hoi)
  have nt : s.heap.objs.size ≠ t := Nat.ne_of_gt (Heap.lt_size hot)
  have nf : s.heap.objs.size ∉ [it, t] := by simp [ni, nt]
  unfold collect
  refine wpAny_bind (wpAny_runValue (codeAny_builtin F.entry_proto_collect ?_))
  rw [Around.under_plainId F.plain_proto_collect _]
  show wpAny _ A.in1 (newList [] >>= fun z => again (.builtin "list.__iadd__" ⟨[z, .ref it], []⟩)) _ _ _
  refine wpAny_bind (wpAny_newObj_type (wpAny_pure ⟨plainId_quiet F.plain_list_iadd _, codeAny_builtin F.entry_list_iadd ?_⟩))
  rw [Around.under_plainId F.plain_list_iadd _]
  generalize h0 : s.heap.push { cls := .type "list", data := .seq ([] : List Value).toArray } = h1
  have k1 : ∀ b o, s.heap.get? b = some o → h1.get? b = some o := fun b o e => by rw [← h0]; exact Heap.get?_push_of_some _ e
  have g1 : h1.get? s.heap.objs.size = some { cls := .type "list", data := .seq ([] : List Value).toArray } := by rw [← h0]; exact Heap.get?_push_size _ rfl
  have hit1 : IsRt h1 it t ((items.size : Int) - 1) := hit.at fun o e => k1 _ _ e
  have ht1 : IsTup h1 t items := ⟨ot, k1 _ _ hot, oc, od⟩
  have hT : ({ s with heap := h1 } : Shared).TypeIs (.ref it) "reversed" := IsRt.typeIs (s := { s with heap := h1 }) hit1
  show wpAny _ A.in1 (Builtin.List.listExtendWith (.ref s.heap.objs.size) (.ref it) (.ref s.heap.objs.size)) _ _ _
  unfold Builtin.List.listExtendWith
  refine wpAny_bind (wpAny_typeOf hT ?_)
  have b1 : Builtin.List.listSameRef (.ref s.heap.objs.size) (.ref it) = false := by simp [Builtin.List.listSameRef, ni]
  rw [if_neg (by rw [b1]; decide)]
  refine wpAny_bind (iter_rt (s := { s with heap := h1 }) hit1 ?_)
  refine wpAny_bind (wpAny_holding ?_)
  unfold Builtin.List.listLengthHint
  refine wpAny_bind (wpAny_specialOf hT no_len ?_)
  show wpAny _ A.in1 (specialOf (Value.ref it) (Str.ofString "__length_hint__") >>= _) _ _ _
  refine wpAny_bind (wpAny_specialOf hT a_hint ?_)
  generalize hid : ("reversed.__length_hint__" : String) = id0
  wp_delta
  rw [show splitId id0 = some ("reversed", "__length_hint__") from by subst hid; decide +kernel]
  refine wpAny_bind (wpAny_isInstance (b := true) hT (by rw [isSubtype_type]; kernel_rfl) ?_)
  refine PySem.W.KFB.if_not rfl ?_
  subst hid
  dsimp only
  rw [if_neg (by decide)]
  refine wpAny_bind (wpAny_rule ?_)
  refine wpAny_bind (wpAny_of_eq (a := (Value.builtin "reversed.__length_hint__", [Value.ref it])) (by first | rfl | kernel_rfl) ?_)
  refine wpAny_bind (wpAny_attempt (hint_rt (s := { s with heap := h1 }) hit1 ht1 hz fun tk u => ?_))
  obtain ⟨n, hn⟩ : ∃ n : Int, (items.size : Int) = n := ⟨_, rfl⟩
  rw [hn] at h63 hnn ⊢
  have h0 : 0 ≤ n := by rw [← hn]; exact Int.natCast_nonneg _
  have hl : Builtin.List.listTooLong n.toNat = false := by rw [← hn, Int.toNat_natCast]; exact notLongL hz
  have hf : Builtin.List.listFitsIndex n = true := fitsIndex_of h0 h63
  clear hn
  show wpAny _ _ (asInt? (Value.int n u) >>= _) _ _ _
  refine wpAny_bind (wpAny_of_eq (a := some n) rfl ?_)
  dsimp only
  refine PySem.W.KFB.if_not (by rw [hf]; rfl) ?_
  rw [if_neg hnn]
  refine PySem.W.KFB.if_not hl ?_
  refine wpAny_pure ?_
  -- room is made or not: the list stays
  have rest : ∀ (h2 : Heap) (c0 : Nat), h2.get? s.heap.objs.size = some { cls := .type "list", data := .seq ([] : List Value).toArray c0 } → (∀ b o, b ≠ s.heap.objs.size → h1.get? b = some o → h2.get? b = some o) →
      codeAny (model prog w) A (.builtin "list.extend.loop" ⟨[.ref s.heap.objs.size, .ref it, .ref s.heap.objs.size], []⟩) (fun r s' => ∃ v, r = .ok (.ret v) ∧ v = .ref s.heap.objs.size ∧ ∃ acc c, s'.heap.get? s.heap.objs.size = some { cls := .type "list", dict := none, data := .seq acc c, slots := #[] } ∧ ItemsOf (fun i v => items[items.size - 1 - i]? = some v) acc items.size ∧ (∀ b o, b ≠ it → s.heap.get? b = some o → s'.heap.get? b = some o) ∧ ∃ tk2, s' = { s with heap := s'.heap, toks := tk2 }) { s with heap := h2, toks := tk } := fun h2 c0 g2 k2 => by
    have e0 : (items.size : Int) - 1 - ((0 : Nat) : Int) = (items.size : Int) - 1 := by omega
    refine codeAny_extend_loopS W hz _ nf _ items.size 0 _ _ _ rfl (Nat.zero_le _) ⟨Nat.zero_le _, by rw [e0]; exact hit1.at fun o e => k2 _ _ (Ne.symm ni) e, ot, k2 _ _ (Ne.symm nt) (k1 _ _ hot), oc, od⟩ g2 (ItemsOf.nil _) fun s' acc c hm hS hacc => ?_
    refine ⟨_, rfl, rfl, acc, c, hS, hacc, fun b o hb e => ?_, ?_⟩
    · have hbS : b ≠ s.heap.objs.size := Nat.ne_of_lt (Heap.lt_size e)
      exact hm.heap b o (by simp [hb, hbS]) (k2 b o hbS (k1 b o e))
    · have e := Moved.eq_with hm
      exact ⟨s'.toks, e⟩
  have fin : ∀ (h2 : Heap) (c0 : Nat), h2.get? s.heap.objs.size = some { cls := .type "list", data := .seq ([] : List Value).toArray c0 } → (∀ b o, b ≠ s.heap.objs.size → h1.get? b = some o → h2.get? b = some o) → ∀ {R : Result → Shared → Prop},
      (∀ s' acc c, s'.heap.get? s.heap.objs.size = some { cls := .type "list", dict := none, data := .seq acc c, slots := #[] } → wpAny (model prog w) A (load s.heap.objs.size >>= fun o => (match o.data with | .seq xs _ => pure xs.toList | _ => unsupported "internal:collect" : Sem (List Value))) Q E s' → R (.ok (.ret (.ref s.heap.objs.size))) s') →
      codeAny (model prog w) A (.builtin "list.extend.loop" ⟨[.ref s.heap.objs.size, .ref it, .ref s.heap.objs.size], []⟩) R { s with heap := h2, toks := tk } := fun h2 c0 g2 k2 {R} hR => by
    refine codeAny_mono (rest h2 c0 g2 k2) fun r s' ⟨v, er, ev, acc, c, g3, hacc, k3, tk2, es⟩ => ?_
    subst er ev
    refine hR s' acc c g3 (wpAny_bind (wpAny_load g3 (wpAny_pure ?_)))
    rw [es]
    exact hQ _ _ _ k3 hacc
  split
  · refine wpAny_bind (wpAny_rule (wpAny_bind ?_))
    show wpAny _ A.in1 (updateSeq s.heap.objs.size (·.push .none) >>= fun _ => updateSeq s.heap.objs.size (·.pop)) _ _ _
    refine wpAny_bind (wpAny_updateSeq g1 rfl ?_)
    have u1 := Heap.get?_update_self (Obj.mapSeq (·.push Value.none)) g1 rfl
    refine wpAny_updateSeq u1 rfl (wpAny_pure ⟨plainId_quiet F.plain_extend_loop _, fin _ _ ((Heap.get?_update_self (Obj.mapSeq (·.pop)) u1 rfl).trans rfl) (fun b o hb e => (Heap.get?_update_other _ _ (Ne.symm hb)).trans ((Heap.get?_update_other _ _ (Ne.symm hb)).trans e)) fun s' acc c g3 hw => hw⟩)
  · exact wpAny_pure ⟨plainId_quiet F.plain_extend_loop _, fin h1 _ g1 (fun _ _ _ e => e) fun s' acc c g3 hw => hw⟩
theorem new_rt {it t : Addr} {items : Array Value} {Q₁ : Value → Shared → Prop} (hh : A.handled = none) (hit : IsRt s.heap it t ((items.size : Int) - 1)) (ht : IsTup s.heap t items) (ne : t ≠ it) (hz : items.size ≤ sizeLine)
    (h : ∀ (h' : Heap) (tk : Nat) (acc : Array Value), (∀ b o, b ≠ it → s.heap.get? b = some o → h'.get? b = some o) → ItemsOf (fun i v => items[items.size - 1 - i]? = some v) acc items.size →
      Q₁ (.ref h'.objs.size) { s with heap := h'.push { cls := .type "tuple", data := .seq acc }, toks := tk }) :
    codeAny (model prog w) A (.call (.builtin "tuple.__new__") ⟨[.type "tuple", .ref it], []⟩) (wants Q₁ E) s := by
  refine codeAny_of_tree ?_
  show wpAny _ A.in1 (do checkBuiltinCall "tuple.__new__" ⟨[.type "tuple", .ref it], []⟩; again (.builtin "tuple.__new__" ⟨[.type "tuple", .ref it], []⟩)) _ _ _
  refine wpAny_bind (wpAny_of_eq (F.newCall_tuple_1 _) (wpAny_pure ⟨plainId_quiet F.plain_tuple_new _, codeAny_builtin F.entry_tuple_new ?_⟩))
  rw [Around.under_plainId F.plain_tuple_new _]
  have q1 := sub_tuple_self
  have q2 := init_tuple_lookup
  have q3 := madeHere_tuple
  have q4 : s.TypeIs (.ref it) "reversed" := hit.typeIs
  wp_walk using wpAny_typeOf q4, coll_rt (A := A.in1) hh hit ht ne hz
  intro h' tk acc hk hacc
  have e : acc.toList.toArray = acc := by simp
  show wpAny _ _ (Builtin.Tuple.tupleExact acc.toList.toArray >>= fun v => ret v) _ _ _
  rw [e]
  unfold Builtin.Tuple.tupleExact
  exact wpAny_bind (wpAny_newObj_type (wpAny_pure (h h' tk acc hk hacc)) (by show acc.size ≤ sizeLine; rw [hacc.1]; exact hz))
theorem tuple_rt {it t : Addr} {items : Array Value} {Q : Value → Shared → Prop} (hh : A.handled = none) (hit : IsRt s.heap it t ((items.size : Int) - 1)) (ht : IsTup s.heap t items) (ne : t ≠ it) (hz : items.size ≤ sizeLine)
    (hQ : ∀ (h' : Heap) (tk : Nat) (acc : Array Value), (∀ b o, b ≠ it → s.heap.get? b = some o → h'.get? b = some o) → ItemsOf (fun i v => items[items.size - 1 - i]? = some v) acc items.size →
      Q (.ref h'.objs.size) { s with heap := h'.push { cls := .type "tuple", data := .seq acc }, toks := tk }) : wpAny (model prog w) A (call (.type "tuple") [.ref it]) Q E s := by
  refine callType_codes (Q₁ := fun obj s₁ => s₁.TypeIs obj "tuple" ∧ Q obj s₁) F.called_tuple (F.typeCall_tuple_1 _) F.entry_object_init (new_rt (A := A.in1) hh hit ht ne hz fun h' tk acc hk hacc => ⟨⟨_, Heap.get?_push_size _ rfl, rfl⟩, hQ h' tk acc hk hacc⟩) fun ob s1 hob => ?_
  exact ⟨hob.1, F.args_object_init_2 ob _, object_init_meets F.called_tuple.init.lookup F.called_tuple.made (by decide) prog w A.in1 _ s1 ⟨hob.1, rfl, hob.2⟩⟩
/-- list(reversed(a list)) -/
theorem init_rvl {it l : Addr} {items : Array Value} {S : Addr} {R : Result → Shared → Prop} (hh : A.handled = none) (hit : s.heap.IsRevIter it l ((items.size : Int) - 1)) (hl : s.heap.IsList l items) (hne : l ≠ it) (hn : items.size ≤ sizeLine) (si : S ≠ it) (sl : S ≠ l)
    (hS : s.heap.get? S = some { cls := .type "list", data := .seq #[] })
    (hR : ∀ (h' : Heap) (tk : Nat) (acc : Array Value) (c : Nat), (∀ b o, b ≠ it → b ≠ S → s.heap.get? b = some o → h'.get? b = some o) → h'.get? S = some { cls := .type "list", dict := none, data := .seq acc c, slots := #[] } → ItemsOf (fun i v => items[items.size - 1 - i]? = some v) acc items.size → R (.ok (.ret .none)) { s with heap := h', toks := tk }) :
    wpAny (model prog w) A.in1 (Builtin.«list.__init__» ⟨[.ref S, .ref it], []⟩)
      (fun fin t => match fin with | .done f => R (.ok f) t | .again d => d.quiet = true ∧ codeAny (model prog w) A d R t) (fun e t => R (.error e) t) s := by
  show wpAny _ A.in1 (do let q ← Builtin.List.listItems (.ref S); Builtin.List.listUpdate (.ref S) (fun _ => #[]); letGo q.toList.reverse; Builtin.List.listExtendWith (.ref S) (.ref it) .none) _ _ s
  refine wpAny_bind ?_
  unfold Builtin.List.listItems
  refine wpAny_bind (wpAny_seqItems hS rfl (wpAny_pure ?_))
  show wpAny _ A.in1 (updateSeq S (fun _ => #[]) >>= fun _ => letGo (#[] : Array Value).toList.reverse >>= fun _ => Builtin.List.listExtendWith (.ref S) (.ref it) .none) _ _ s
  refine wpAny_bind (wpAny_updateSeq hS rfl ?_)
  have g1 := Heap.get?_update_self (Obj.mapSeq (fun _ => (#[] : Array Value))) hS rfl
  have k1 : ∀ b o, b ≠ S → s.heap.get? b = some o → (s.heap.update S (Obj.mapSeq (fun _ => (#[] : Array Value)))).get? b = some o := fun b o hb e => (Heap.get?_update_other _ _ (Ne.symm hb)).trans e
  revert g1 k1
  generalize s.heap.update S (Obj.mapSeq (fun _ => (#[] : Array Value))) = h1
  intro g1 k1
  refine wpAny_bind (wpAny_letGo ?_)
  have i1 : h1.IsRevIter it l ((items.size : Int) - 1) := hit.at fun o e => k1 _ _ (Ne.symm si) e
  have l1 : h1.IsList l items := let ⟨o, ho, r⟩ := hl; ⟨o, k1 _ _ (Ne.symm sl) ho, r⟩
  have W := (Walks.listRev (prog := prog) (w := w) (A := A.in1) hh it l hne items).toS
  have nf : S ∉ [it, l] := by simp [si, sl]
  have ty : ({ s with heap := h1 } : Shared).TypeIs (.ref it) "list_reverseiterator" := Heap.IsRevIter.typeIs (s := { s with heap := h1 }) i1
  have b1 : Builtin.List.listSameRef (.ref S) (.ref it) = false := by simp [Builtin.List.listSameRef, si]
  unfold Builtin.List.listExtendWith
  refine wpAny_bind (wpAny_typeOf ty ?_)
  rw [if_neg (by rw [b1]; decide)]
  refine wpAny_bind (wpAny_pyIter_revIter (s := { s with heap := h1 }) i1 ?_)
  refine wpAny_bind (wpAny_holding ?_)
  unfold Builtin.List.listLengthHint
  refine wpAny_bind (wpAny_specialOf ty nolen_lri ?_)
  show wpAny _ A.in1 (specialOf (Value.ref it) (Str.ofString "__length_hint__") >>= _) _ _ _
  refine wpAny_bind (wpAny_specialOf ty hint_lri ?_)
  generalize hid : ("list_reverseiterator.__length_hint__" : String) = id0
  wp_delta
  rw [show splitId id0 = some ("list_reverseiterator", "__length_hint__") from by subst hid; decide +kernel]
  subst hid
  refine wpAny_bind (wpAny_isInstance (b := true) ty (by rw [isSubtype_type]; kernel_rfl) ?_)
  refine wpAny_pure ?_
  rw [if_neg (by decide)]
  have z0 : ((items.size : Nat) : Int) - 1 - ((0 : Nat) : Int) = (items.size : Int) - 1 := by omega
  refine wpAny_pure ⟨plainId_quiet F.plain_extend_loop _, codeAny_extend_loopS W hn _ nf _ items.size 0 _ _ _ rfl (Nat.zero_le _) ⟨Nat.zero_le _, by rw [z0]; exact i1, l1⟩ g1 (ItemsOf.nil _) fun t acc c hm g2 hacc => ?_⟩
  rw [Moved.eq_with hm]
  exact hR t.heap t.toks acc c (fun b o hb hc e => hm.heap b o (by simp [hb, hc]) (k1 b o hc e)) g2 hacc
theorem call_list_rvl {it l : Addr} {items : Array Value} {Q : Value → Shared → Prop} (hh : A.handled = none) (hit : s.heap.IsRevIter it l ((items.size : Int) - 1)) (hl : s.heap.IsList l items) (hne : l ≠ it) (hn : items.size ≤ sizeLine)
    (hQ : ∀ (h' : Heap) (tk : Nat) (acc : Array Value) (c : Nat), (∀ b o, b ≠ it → s.heap.get? b = some o → h'.get? b = some o) → h'.get? s.heap.objs.size = some { cls := .type "list", dict := none, data := .seq acc c, slots := #[] } → ItemsOf (fun i v => items[items.size - 1 - i]? = some v) acc items.size → Q (.ref s.heap.objs.size) { s with heap := h', toks := tk }) :
    wpAny (model prog w) A (call (.type "list") [.ref it]) Q E s := by
  obtain ⟨oi, hoi, _⟩ := id hit
  obtain ⟨ol, hol, _⟩ := id hl
  refine callType_codes (Q₁ := fun o z => o = .ref s.heap.objs.size ∧ z = { s with heap := s.heap.push { cls := .type "list", data := .seq #[] } }) F.called_list (F.typeCall_list_1 _) F.entry_list_init (code_list_new _ ⟨rfl, rfl⟩) fun o z hz => ?_
  obtain ⟨rfl, rfl⟩ := hz
  have gS : (s.heap.push { cls := .type "list", data := .seq #[] }).get? s.heap.objs.size = some { cls := .type "list", data := .seq #[] } := Heap.get?_push_size _ rfl
  refine ⟨⟨_, gS, rfl⟩, F.args_list_init_2 _ _, init_rvl (A := A.in1) (s := { s with heap := s.heap.push { cls := .type "list", data := .seq #[] } }) hh (hit.at fun o e => Heap.get?_push_of_some _ e) (hl.push _) hne hn (Nat.ne_of_gt (Heap.lt_size hoi)) (Nat.ne_of_gt (Heap.lt_size hol)) gS fun h' tk acc c hk hg hi => ⟨rfl, ?_⟩⟩
  exact hQ h' tk acc c (fun b o hb e => hk b o hb (Nat.ne_of_lt (Heap.lt_size e)) (Heap.get?_push_of_some _ e)) hg hi
end
section
variable {X : Cx} {g : G} {w : Wr} {W : WX} {C : Cal} {n : Nat} {e : Expr} {ie : E}
/-- tuple(reversed(x)) -/
theorem sE_revT {p p2 pos pos2 : Pos} (fx : Fx X.K X.mg g w) (hc : X.calm = true) (gt : Gl X "tuple") (rt : g.fr "tuple" = true) (gr : Gl X "reversed") (rr : g.fr "reversed" = true) (he : PE X e (tE g C w W ie))
    (hs : starEach [e] X.env = (false, eval e X.env) :: starEach [] X.env) :
    PE X (.Call (.Name "tuple" p) [.Call (.Name "reversed" p2) [e] [] pos2] [] pos) (tE g C w W (.rvt ie)) := by
  refine ⟨fun pins s σ H Q I ⟨env, O, dom, en, h⟩ => ?_⟩
  have hs2 : starEach [.Call (.Name "reversed" p2) [e] [] pos2] X.env = (false, eval (.Call (.Name "reversed" p2) [e] [] pos2) X.env) :: starEach [] X.env := by rfl
  have h : fR w W σ O (rV w O) H ((ev g C ie env).bind fun z => ownL (biD .revT [z.2])) Q := h
  have hE : tE g C w W ie σ H fun v H1 => ∃ l d q, Rep w H1 O d v ∧ Dom O H1 ∧ biD .revT [d] = .ok l ∧ HO1 w H1 O l q ∧ q = Q := by
    refine one_in (is := []) rV_ok dom (en.sub fun i m => ?_) h fun u y H2 d2 _ r2 s2 h2 => ?_
    · rw [List.append_nil] at m
      show i ∈ rd (.rvt ie)
      rw [rd]
      exact m
    · obtain ⟨d, q, k⟩ := ownL_fin h2
      exact ⟨d, u.2, Q, r2.1, d2, q, k, rfl⟩
  refine Call_ (ld_blt I gt (fx.free _ rt) boot_tuple (PyProof.Rows.callWith_type1 (args_cons (Call_ (ld_blt I gr (fx.free _ rr) PyProof.Rows.boot_reversed (PyProof.Rows.callWith_type1 (args_cons (thn (he.run pins s σ H _ I hE) fun u s1 ⟨v, H1, I1, r1, l, d, q, rd, dm, el, ho, eq⟩ => args_nil ?_) hs) hs rfl))) hs2) hs2 rfl))
  subst eq
  cases d with
  | lst m =>
    cases el
    obtain ⟨a, vs, rfl, hp, _, rr⟩ := rd
    obtain rfl : u = Value.ref a := r1
    obtain ⟨its, rv, p', hz⟩ := I1.list (SqL.of hp)
    refine call_reversed_list p'.isList (args_nil ?_)
    have k0 : ∀ b o, s1.heap.get? b = some o → (s1.heap.push (revObj a ((its.toArray.size : Int) - 1))).get? b = some o := fun b o e => Heap.get?_push_of_some _ e
    have I2 : Inv X pins σ H1 { s1 with heap := s1.heap.push (revObj a ((its.toArray.size : Int) - 1)) } := I1.kept (t' := s1.toks) k0
    obtain ⟨f0, f1, f2, f3, f4, f5⟩ := I1.fpOk (H' := H1) (b := s1.heap.objs.size) (Nat.le_refl _) (I1.hok.fresh (Nat.le_refl _))
    obtain ⟨ol, hol, _⟩ := id p'.isList
    have ne : a ≠ s1.heap.objs.size := Nat.ne_of_lt (Heap.lt_size hol)
    have hn : its.toArray.size ≤ sizeLine := by rw [List.size_toArray, ← rv.length]; exact hz
    refine call_tuple_rev (s := { s1 with heap := s1.heap.push (revObj a ((its.toArray.size : Int) - 1)) }) (I1.ok.hd hc) ⟨_, Heap.get?_push_size _ rfl, rfl, rfl⟩ (p'.isList.push _) ne hn fun h' tk acc hk hi => ?_
    have I3 : Inv X pins σ H1 { s1 with heap := h', toks := tk } := I2.turned (t' := tk) (fun b o hb e => hk b o hb e) f0 f1 f3 f4 f5
    refine ⟨.ref h'.objs.size, upd H1 h'.objs.size (.tup vs.reverse), I3.laid (t' := tk) (fun c o e => Heap.get?_push_of_some _ e) (Nat.le_refl _) (show ObjOk X.prog X.w _ _ _ (.tup vs.reverse) from ⟨by rw [List.length_reverse]; exact hz, acc.toList, vals_rev rv hi, by rw [Array.toArray_toList]; exact IsTup.new _ _⟩), rfl, ho.tup (Reps.reverse rr) _ (I3.hok.fresh (Nat.le_refl _))⟩
  | tup m =>
    cases el
    obtain ⟨a, vs, rfl, hp, rr⟩ := rd
    obtain rfl : u = Value.ref a := r1
    obtain ⟨its, rv, p', hz⟩ := I1.tuple (fx.hK ▸ hp)
    have hn : its.toArray.size ≤ sizeLine := by rw [List.size_toArray, ← rv.length]; exact hz
    have hn63 : (its.toArray.size : Int) < 2 ^ 63 := by rw [sizeLine_eq] at hn; omega
    refine call_reversed_tup p' (fun A E Q k => len_tuple p' hn63 k) (args_nil ?_)
    have k0 : ∀ b o, s1.heap.get? b = some o → (s1.heap.push (rtObj a ((its.toArray.size : Int) - 1))).get? b = some o := fun b o e => Heap.get?_push_of_some _ e
    have I2 : Inv X pins σ H1 { s1 with heap := s1.heap.push (rtObj a ((its.toArray.size : Int) - 1)), toks := s1.toks + 1 + 1 } := I1.kept (t' := s1.toks + 1 + 1) k0
    obtain ⟨f0, f1, f2, f3, f4, f5⟩ := I1.fpOk (H' := H1) (b := s1.heap.objs.size) (Nat.le_refl _) (I1.hok.fresh (Nat.le_refl _))
    obtain ⟨ot, hot, oc, od⟩ := id p'
    have ne : a ≠ s1.heap.objs.size := Nat.ne_of_lt (Heap.lt_size hot)
    refine tuple_rt (s := { s1 with heap := s1.heap.push (rtObj a ((its.toArray.size : Int) - 1)), toks := s1.toks + 1 + 1 }) (I1.ok.hd hc) ⟨_, Heap.get?_push_size _ rfl, rfl, rfl⟩ ⟨ot, k0 _ _ hot, oc, od⟩ ne hn fun h' tk acc hk hi => ?_
    have I3 : Inv X pins σ H1 { s1 with heap := h', toks := tk } := I2.turned (t' := tk) (fun b o hb e => hk b o hb e) f0 f1 f3 f4 f5
    refine ⟨.ref h'.objs.size, upd H1 h'.objs.size (.tup vs.reverse), I3.laid (t' := tk) (fun c o e => Heap.get?_push_of_some _ e) (Nat.le_refl _) (show ObjOk X.prog X.w _ _ _ (.tup vs.reverse) from ⟨by rw [List.length_reverse]; exact hz, acc.toList, vals_rev rv hi, by rw [Array.toArray_toList]; exact IsTup.new _ _⟩), rfl, ho.tup (Reps.reverse rr) _ (I3.hok.fresh (Nat.le_refl _))⟩
  | _ => cases el
/-- list(reversed(x)), x a list -/
theorem sE_revL {p p2 pos pos2 : Pos} (fx : Fx X.K X.mg g w) (hc : X.calm = true) (gt : Gl X "list") (rt : g.fr "list" = true) (gr : Gl X "reversed") (rr : g.fr "reversed" = true) (he : PE X e (tE g C w W ie))
    (hs : starEach [e] X.env = (false, eval e X.env) :: starEach [] X.env) :
    PE X (.Call (.Name "list" p) [.Call (.Name "reversed" p2) [e] [] pos2] [] pos) (tE g C w W (.rvl ie)) := by
  refine ⟨fun pins s σ H Q I ⟨env, O, dom, en, h⟩ => ?_⟩
  have hs2 : starEach [.Call (.Name "reversed" p2) [e] [] pos2] X.env = (false, eval (.Call (.Name "reversed" p2) [e] [] pos2) X.env) :: starEach [] X.env := by rfl
  have h : fR w W σ O (rV w O) H ((ev g C ie env).bind fun z => if isLst z.2 = true then ownL (biD .revL [z.2]) else .no) Q := h
  have hE : tE g C w W ie σ H fun v H1 => ∃ m q, Rep w H1 O (.lst m) v ∧ Dom O H1 ∧ HO1 w H1 O (.lst m.reverse) q ∧ q = Q := by
    refine one_in (is := []) rV_ok dom (en.sub fun i m => ?_) h fun u y H2 d2 _ r2 s2 h2 => ?_
    · rw [List.append_nil] at m
      show i ∈ rd (.rvl ie)
      rw [rd]
      exact m
    · split at h2
      case isFalse => exact h2.elim
      obtain ⟨o, d⟩ := u
      cases d <;> first | (rename_i z; exact absurd z Bool.false_ne_true) | skip
      rename_i m _
      obtain ⟨d, q, k⟩ := ownL_fin h2
      cases q
      exact ⟨m, Q, r2.1, d2, k, rfl⟩
  refine Call_ (ld_blt I gt (fx.free _ rt) boot_list (PyProof.Rows.callWith_type1 (args_cons (Call_ (ld_blt I gr (fx.free _ rr) PyProof.Rows.boot_reversed (PyProof.Rows.callWith_type1 (args_cons (thn (he.run pins s σ H _ I hE) fun u s1 ⟨v, H1, I1, r1, m, q, rd, dm, ho, eq⟩ => args_nil ?_) hs) hs rfl))) hs2) hs2 rfl))
  subst eq
  obtain ⟨a, vs, rfl, hp, _, rr⟩ := rd
  obtain rfl : u = Value.ref a := r1
  obtain ⟨its, rv, p', hz⟩ := I1.list (SqL.of hp)
  refine call_reversed_list p'.isList (args_nil ?_)
  have k0 : ∀ b o, s1.heap.get? b = some o → (s1.heap.push (revObj a ((its.toArray.size : Int) - 1))).get? b = some o := fun b o e => Heap.get?_push_of_some _ e
  have I2 : Inv X pins σ H1 { s1 with heap := s1.heap.push (revObj a ((its.toArray.size : Int) - 1)) } := I1.kept (t' := s1.toks) k0
  have fo : FpOk X pins H1 s1.heap.objs.size := I1.fpOk (H' := H1) (b := s1.heap.objs.size) (Nat.le_refl _) (I1.hok.fresh (Nat.le_refl _))
  obtain ⟨ol, hol, _⟩ := id p'.isList
  have ne : a ≠ s1.heap.objs.size := Nat.ne_of_lt (Heap.lt_size hol)
  have hn : its.toArray.size ≤ sizeLine := by rw [List.size_toArray, ← rv.length]; exact hz
  refine call_list_rvl (s := { s1 with heap := s1.heap.push (revObj a ((its.toArray.size : Int) - 1)) }) (I1.ok.hd hc) ⟨_, Heap.get?_push_size _ rfl, rfl, rfl⟩ (p'.isList.push _) ne hn fun h' tk acc c hk hg hi => ?_
  have I3 := I2.turnedNew (t' := tk) (ch := [s1.heap.objs.size]) (T := (s1.heap.push (revObj a ((its.toArray.size : Int) - 1))).objs.size) (ob := .lst vs.reverse) (h' := h') (fun b o hb e => hk b o (fun z => hb (by simp [z])) e) (fun b hb => by cases List.mem_singleton.mp hb; exact fo) (Nat.le_refl _) ⟨by rw [List.length_reverse]; exact hz, acc.toList, c, vals_rev rv hi, by rw [Array.toArray_toList]; exact hg⟩
  exact ⟨.ref _, _, I3, rfl, ho.lst dm (Reps.reverse rr) _ (I2.hok.fresh (Nat.le_refl _))⟩
/-- list(x): x's own list is only looked into -/
theorem sE_lsv {i : Nat} {x : Str} {p p2 pos : Pos} (fx : Fx X.K X.mg g w) (gt : Gl X "list") (rt : g.fr "list" = true) (hN : X.N[i]? = some x) (hv : Vis X.env.scope x) (hd : (x == ("__debug__" : Str)) = false) (hcd : (x == ("__classdict__" : Str)) = false) :
    PE X (.Call (.Name "list" p) [.Name x p2] [] pos) (tE g C w W (.lsv i)) :=
  PE.imp (pe_callTy (T := "list") call_list_of gt (fx.free _ rt) (by rfl) (pa_cons (pe_var hN hv hd hcd) pa_nil (by rfl))) fun σ H Q ⟨env, O, dom, en, f⟩ => by
    have f : fR w W σ O (rV w O) H ((look env i).bind fun x => if isLst x.2 = true then ownL (biD .list [x.2]) else .no) Q := f
    have en : EnvE w H O σ env [(i, false)] := en
    rcases look_tame (env := env) (i := i) with ⟨v, e⟩ | e
    · rw [e] at f
      obtain ⟨o, d, e1, rfl, ox, oy⟩ := look_ok e
      obtain ⟨v, hv, r⟩ := en.getK (List.mem_singleton.mpr rfl) e1 ox
      cases d with
      | lst l =>
        have f : fR w W σ O (rV w O) H (ownL (.ok (.lst l))) Q := f
        obtain ⟨d', q, k⟩ := ownL_fin f
        cases q
        obtain ⟨a, vs, rfl, hp, rr⟩ := r
        exact ⟨.ref a, hv, a, vs, rfl, .inl (SqL.of hp), k.lst dom rr⟩
      | _ => exact f.elim
    · rw [e] at f; exact f.elim
end
end S2

set_option maxHeartbeats 4000000
/-! S2j: what loops walk; comprehensions. -/
namespace S2
open PySem PySem.Spec PyProof.Rows L2

/-- what is not O's to write stands as it stood -/
def Ext (O : Addr → Prop) (H H' : Hp) : Prop := ∀ a o, H a = some o → (O a → ¬ Mut (some o)) → H' a = some o
section
variable {w : Wr} {O : Addr → Prop} {H H' H2 : Hp}
theorem Ext.refl : Ext O H H := fun _ _ h _ => h
theorem Ext.of (s : Same H H') : Ext O H H' := fun a o h _ => s a o h
theorem Ext.trans (a : Ext O H H') (b : Ext O H' H2) : Ext O H H2 := fun x o h n => b x o (a x o h n) n
theorem Ext.write {p : Addr} {u : HO} (op : O p) (m : Mut (H p)) : Ext O H (upd H p u) := fun a o h n => by
  have : a ≠ p := fun e => by subst e; rw [h] at m; exact n op m
  rw [upd_ne this]; exact h
theorem Ext.mono {O' : Addr → Prop} (s : ∀ a, O a → O' a) (e : Ext O H H') : Ext O' H H' := fun a o h n => e a o h fun z => n (s a z)
theorem SqT.ext {K : PySem.W.Frag} {a : Addr} {xs : List V} (s : Ext O H H') (h : SqT K H a xs) : SqT K H' a xs := by
  rcases h with (h | ⟨o, h⟩) | h
  · exact .inl (.inl (s _ _ h fun _ m => m))
  · exact .inl (.inr ⟨o, s _ _ h fun _ m => m⟩)
  · exact .inr h
mutual
theorem Rep.ext (s : Ext O H H') : ∀ (d : D) (v : V), Rep w H O d v → Rep w H' O d v
  | .non, _, h => h
  | .bl _, _, h => h
  | .int _, _, h => h
  | .str _, _, h => h
  | .scr _, _, ⟨a, e, h⟩ => ⟨a, e, h.imp (fun ⟨o, q⟩ => ⟨o, s _ _ q fun _ m => m⟩) id⟩
  | .tup l, _, ⟨a, vs, e, h, r⟩ => ⟨a, vs, e, SqT.ext s h, Reps.ext s l vs r⟩
  | .lst l, _, ⟨a, vs, e, h, n, r⟩ => ⟨a, vs, e, s _ _ h fun z => absurd z n, n, Reps.ext s l vs r⟩
  | .dct _ ds, _, ⟨a, e, n, h⟩ => ⟨a, e, n, h.imp (fun ⟨kvs, q, k, r⟩ => ⟨kvs, s _ _ q fun z => absurd z n, k, Reps.ext s ds _ r⟩) (fun ⟨kvs, q, k, r⟩ => ⟨kvs, s _ _ q fun z => absurd z n, k, Reps.ext s ds _ r⟩)⟩
  | .ob _ _ ds, _, ⟨a, dx, fs, e, h, n, k, r⟩ => ⟨a, dx, fs, e, s _ _ h fun z => absurd z n, n, k, Reps.ext s ds _ r⟩
theorem Reps.ext (s : Ext O H H') : ∀ (l : List D) (vs : List V), Reps w H O l vs → Reps w H' O l vs
  | [], _, h => h
  | d :: l, _, ⟨v, r, e, h, hr⟩ => ⟨v, r, e, Rep.ext s d v h, Reps.ext s l r hr⟩
end
end

/-- J walks over the data -/
def Walk (w : Wr) (O : Addr → Prop) (J : L2.It) (xs : List D) (H : Hp) : Prop := ∃ L : Hp → Prop, L H ∧ (∀ H H', L H → Ext O H H' → L H') ∧
  ∀ H, L H → (∀ i d, xs[i]? = some d → J.go i H ∧ ∀ x H', J.yld i H x H' → Same H H' ∧ Rep w H' O d x) ∧ J.stop xs.length H
section
variable {w : Wr} {O : Addr → Prop} {H : Hp}
theorem walk_list {l : List D} {x : V} (r : Rep w H O (.lst l) x) : ∃ a, x = .ref a ∧ Walk w O (Itl w.K a) l H := by
  obtain ⟨a, vs, e, h, n, r⟩ := r
  refine ⟨a, e, fun H => H a = some (.lst vs) ∧ Reps w H O l vs, ⟨h, r⟩, fun H H' ⟨h, r⟩ s => ⟨s _ _ h fun z => absurd z n, Reps.ext s _ _ r⟩, fun H ⟨h, r⟩ => ⟨fun i d e => ?_, ⟨vs, SqL.of h, Nat.le_of_eq r.length.symm⟩⟩⟩
  obtain ⟨v, ev, rv⟩ := Reps.get r e
  refine ⟨⟨vs, v, SqL.of h, ev⟩, fun x H' ⟨e1, y⟩ => ?_⟩
  subst e1
  have := y vs (SqL.of h)
  rw [ev] at this
  cases this
  exact ⟨Same.refl _, rv⟩
theorem walk_tup {l : List D} {x : V} (r : Rep w H O (.tup l) x) : ∃ a, x = .ref a ∧ (∃ vs, SqT w.K H a vs) ∧ Walk w O (Itt w.K a) l H := by
  obtain ⟨a, vs, e, h, r⟩ := r
  refine ⟨a, e, ⟨vs, h⟩, fun H => SqT w.K H a vs ∧ Reps w H O l vs, ⟨h, r⟩, fun H H' ⟨h, r⟩ s => ⟨SqT.ext s h, Reps.ext s _ _ r⟩, fun H ⟨h, r⟩ => ⟨fun i d e => ?_, ⟨vs, h, Nat.le_of_eq r.length.symm⟩⟩⟩
  obtain ⟨v, ev, rv⟩ := Reps.get r e
  refine ⟨⟨vs, v, h, ev⟩, fun x H' ⟨e1, y⟩ => ?_⟩
  subst e1
  have := y vs h
  rw [ev] at this
  cases this
  exact ⟨Same.refl _, rv⟩
theorem scr_sq {l : List Int} {a : Addr} (h : (∃ o, H a = some (.frz o (.lst (l.map V.int)))) ∨ KL w.K a (l.map V.int)) : SqL w.K H a (l.map V.int) := by
  rcases h with ⟨o, h⟩ | h
  · exact .inl (.inr ⟨o, h⟩)
  · exact .inr h
theorem walk_scr {l : List Int} {x : V} (r : Rep w H O (.scr l) x) : ∃ a, x = .ref a ∧ (∃ vs, SqL w.K H a vs) ∧ Walk w O (Itl w.K a) (l.map .int) H := by
  obtain ⟨a, e, h⟩ := r
  refine ⟨a, e, ⟨_, scr_sq h⟩, fun H => (∃ o, H a = some (.frz o (.lst (l.map V.int)))) ∨ KL w.K a (l.map V.int), h, fun H H' h s => h.imp (fun ⟨o, q⟩ => ⟨o, s _ _ q fun _ m => m⟩) id, fun H h => ⟨fun i d e => ?_, ⟨_, scr_sq h, by rw [List.length_map, List.length_map]; exact Nat.le_refl _⟩⟩⟩
  rw [List.getElem?_map] at e
  cases q : l[i]? with
  | none => rw [q] at e; cases e
  | some k =>
    rw [q] at e
    cases e
    have ev : (l.map V.int)[i]? = some (.int k) := by rw [List.getElem?_map, q]; rfl
    refine ⟨⟨_, _, scr_sq h, ev⟩, fun x H' ⟨e1, y⟩ => ?_⟩
    subst e1
    have := y _ (scr_sq h)
    rw [ev] at this
    cases this
    exact ⟨Same.refl _, rfl⟩
theorem walk_str {z : Str} {x : V} (r : Rep w H O (.str z) x) : x = .str z ∧ Walk w O (Its z) (z.cps.toList.map fun c => .str ⟨#[c]⟩) H := by
  refine ⟨r, fun _ => True, trivial, fun _ _ _ _ => trivial, fun H _ => ⟨fun i d e => ?_, ?_⟩⟩
  · rw [List.getElem?_map] at e
    cases q : z.cps.toList[i]? with
    | none => rw [q] at e; cases e
    | some c =>
      rw [q] at e
      cases e
      have q' : z.cps[i]? = some c := by rw [← Array.getElem?_toList]; exact q
      refine ⟨(Array.getElem?_eq_some_iff.mp q').1, fun x H' ⟨e1, c', hc, ex⟩ => ?_⟩
      rw [q'] at hc
      cases hc
      subst e1; subst ex
      exact ⟨Same.refl _, rfl⟩
  · show z.cps.size ≤ _
    rw [List.length_map, Array.length_toList]
    exact Nat.le_refl _
theorem walk_rng {lo : Int} {n : Nat} : Walk w O (Itr lo n) (upto lo n) H := by
  refine ⟨fun _ => True, trivial, fun _ _ _ _ => trivial, fun H _ => ⟨fun i d e => ?_, ?_⟩⟩
  · unfold upto at e
    rw [List.getElem?_map] at e
    by_cases hi : i < n
    · rw [List.getElem?_range hi] at e
      cases e
      refine ⟨hi, fun x H' ⟨e1, ex⟩ => ?_⟩
      subst e1; subst ex
      exact ⟨Same.refl _, rfl⟩
    · rw [List.getElem?_eq_none (by rw [List.length_range]; omega)] at e
      cases e
  · show n ≤ _
    unfold upto
    rw [List.length_map, List.length_range]
    exact Nat.le_refl _
theorem rev_get {α : Type} {l : List α} {i : Nat} {d : α} (h : l.reverse[i]? = some d) : i < l.length ∧ l[l.length - 1 - i]? = some d := by
  have hi : i < l.length := by
    have := (List.getElem?_eq_some_iff.mp h).1
    rwa [List.length_reverse] at this
  rw [List.getElem?_reverse hi] at h
  exact ⟨hi, h⟩
theorem walk_rev {l : List D} {x : V} (r : Rep w H O (.lst l) x) : ∃ a vs, x = .ref a ∧ SqL w.K H a vs ∧ vs.length = l.length ∧ Walk w O (L2.Itv w.K a l.length) l.reverse H := by
  obtain ⟨a, vs, e, h, n, r⟩ := r
  rw [r.length]
  refine ⟨a, vs, e, SqL.of h, rfl, fun H => H a = some (.lst vs) ∧ Reps w H O l vs, ⟨h, r⟩, fun H H' ⟨h, r⟩ s => ⟨s _ _ h fun z => absurd z n, Reps.ext s _ _ r⟩, fun H ⟨h, r⟩ => ⟨fun i d e => ?_, ?_⟩⟩
  · obtain ⟨hi, e⟩ := rev_get e
    obtain ⟨v, ev, rv⟩ := Reps.get r e
    rw [r.length] at ev hi
    refine ⟨⟨hi, vs, v, SqL.of h, ev⟩, fun x H' ⟨e1, y⟩ => ?_⟩
    subst e1
    have := y vs (SqL.of h)
    rw [ev] at this
    cases this
    exact ⟨Same.refl _, rv⟩
  · show vs.length ≤ _
    rw [List.length_reverse, r.length]
    exact Nat.le_refl _
theorem walk_revT {l : List D} {x : V} (r : Rep w H O (.tup l) x) : ∃ a vs, x = .ref a ∧ SqT w.K H a vs ∧ vs.length = l.length ∧ Walk w O (RT.ItvT w.K a l.length) l.reverse H := by
  obtain ⟨a, vs, e, h, r⟩ := r
  rw [r.length]
  refine ⟨a, vs, e, h, rfl, fun H => SqT w.K H a vs ∧ Reps w H O l vs, ⟨h, r⟩, fun H H' ⟨h, r⟩ s => ⟨SqT.ext s h, Reps.ext s _ _ r⟩, fun H ⟨h, r⟩ => ⟨fun i d e => ?_, ?_⟩⟩
  · obtain ⟨hi, e⟩ := rev_get e
    obtain ⟨v, ev, rv⟩ := Reps.get r e
    rw [r.length] at ev hi
    refine ⟨⟨hi, vs, v, h, ev⟩, fun x H' ⟨e1, y⟩ => ?_⟩
    subst e1
    have := y vs h
    rw [ev] at this
    cases this
    exact ⟨Same.refl _, rv⟩
  · show vs.length ≤ _
    rw [List.length_reverse, r.length]
    exact Nat.le_refl _
end

/-! ### what is iterated -/
def rIt (w : Wr) (O : Addr → Prop) : Hp → Hp → OD × List D → L2.It × V → Prop := fun H H' v p => VR w H H' O v.1 p.2 ∧ ∀ O' H2, Rep w H2 O' v.1.2 p.2 → Walk w O' p.1 v.2 H2
theorem rIt_ok {w : Wr} {O : Addr → Prop} : RelOk (rIt w O) := ⟨fun s h => ⟨VR.pre s h.1, h.2⟩⟩
abbrev tI (g : G) (C : Cal) (w : Wr) (W : WX) (it : It) : TI := fun σ H R => tF w W (rIt w) (items g C it) (rdi it) σ H fun p H' => R p.1 H'
theorem PI.imp {X : Cx} {tg e : Expr} {t t' : TI} (h : PI X tg e t) (k : ∀ σ H Q, t' σ H Q → t σ H Q) : PI X tg e t' := ⟨fun pins s σ H Q I q => h.run pins s σ H Q I (k σ H Q q)⟩
theorem PI.or {X : Cx} {tg e : Expr} {t t' : TI} (h : PI X tg e t) (h' : PI X tg e t') : PI X tg e (fun σ H Q => t σ H Q ∨ t' σ H Q) := ⟨fun pins s σ H Q I q => q.elim (h.run pins s σ H Q I) (h'.run pins s σ H Q I)⟩
section
variable {X : Cx} {W : WX} {g : G} {w : Wr} {n : Nat} {C : Cal} {a b tg : Expr} {ia ib : E} {pos p : Pos}
theorem sI_it (hw : w.K = X.K) (ha : PE X a (tE g C w W ia)) : PI X tg a (tI g C w W (.it ia)) :=
  PI.imp (PI.or (pi_list ha) (PI.or (pi_tup ha) (pi_str ha))) fun σ H Q ⟨env, O, dom, en, f⟩ => by
    have f : fR w W σ O (rIt w O) H ((ev g C ia env).bind fun x => match itD x.2 with
      | some l => .ok (x, l)
      | none => .no) (fun p H' => Q p.1 H') := f
    have left : ∀ {R1 : VK}, (∀ v x H1, Dom O H1 → VR w H H1 O v x → Same H H1 → ev g C ia env = .ok v → R1 x H1) → tE g C w W ia σ H R1 := fun k => ⟨env, O, dom, en, by
      cases q : ev g C ia env with
      | ok v => exact fun x H1 s r => k v x H1 (dom.same s) r s q
      | exc d => rw [q] at f; exact f
      | no => rw [q] at f; exact f⟩
    cases q : ev g C ia env with
    | ok v =>
      rw [q] at f
      obtain ⟨o, d⟩ := v
      cases d with
      | lst l =>
        refine .inl (left fun v x H1 d1 r1 s1 e1 => ?_)
        rw [q] at e1
        cases e1
        obtain ⟨a, rfl, _⟩ := walk_list r1.1
        obtain ⟨a', vs, e2, hp, _, _⟩ := r1.1
        cases e2
        refine ⟨a, rfl, ⟨vs, SqL.of hp⟩, f (Itl X.K a, .ref a) H1 s1 ⟨r1, fun O' H2 r => ?_⟩⟩
        obtain ⟨a', e3, w'⟩ := walk_list r
        cases e3
        exact hw ▸ w'
      | scr l =>
        refine .inl (left fun v x H1 d1 r1 s1 e1 => ?_)
        rw [q] at e1
        cases e1
        obtain ⟨a, rfl, sq, _⟩ := walk_scr r1.1
        refine ⟨a, rfl, hw ▸ sq, f (Itl X.K a, .ref a) H1 s1 ⟨r1, fun O' H2 r => ?_⟩⟩
        obtain ⟨a', e3, _, w'⟩ := walk_scr r
        cases e3
        exact hw ▸ w'
      | tup l =>
        refine .inr (.inl (left fun v x H1 d1 r1 s1 e1 => ?_))
        rw [q] at e1
        cases e1
        obtain ⟨a, rfl, sq, _⟩ := walk_tup r1.1
        refine ⟨a, rfl, hw ▸ sq, f (Itt X.K a, .ref a) H1 s1 ⟨r1, fun O' H2 r => ?_⟩⟩
        obtain ⟨a', e3, _, w'⟩ := walk_tup r
        cases e3
        exact hw ▸ w'
      | str z =>
        refine .inr (.inr (left fun v x H1 d1 r1 s1 e1 => ?_))
        rw [q] at e1
        cases e1
        refine ⟨z, r1.1, f (Its z, x) H1 s1 ⟨r1, fun O' H2 r => (walk_str r).2⟩⟩
      | _ => exact f.elim
    | exc d => exact .inl (left fun v x H1 d1 r1 s1 e1 => by rw [q] at e1; cases e1)
    | no => rw [q] at f; exact f.elim
theorem small_ok {i : Int} (h : small62 i = true) : -(2 ^ 62) ≤ i ∧ i < 2 ^ 62 := by
  have := absLe_ok h
  constructor <;> omega
theorem rngD_ok {lo hi : Int} {l : List D} (h : rngD lo hi = .ok l) : small62 lo = true ∧ small62 hi = true ∧ l = upto lo (hi - lo).toNat := by
  unfold rngD at h
  split at h
  · rename_i z
    rw [Bool.and_eq_true] at z
    cases h
    exact ⟨z.1, z.2, rfl⟩
  · cases h
theorem rngD_tame {lo hi : Int} : (∃ l, rngD lo hi = .ok l) ∨ rngD lo hi = .no := by
  unfold rngD; split <;> simp
theorem sI_rng1 (fx : Fx X.K X.mg g w) (hg : Gl X "range") (hr : g.fr "range" = true) (ha : PE X a (tE g C w W ia)) (hs : starEach [a] X.env = (false, eval a X.env) :: starEach [] X.env) : PI X tg (.Call (.Name "range" p) [a] [] pos) (tI g C w W (.rng1 ia)) :=
  PI.imp (pi_range1 hg (fx.free _ hr) (pa_cons ha pa_nil hs) (by rw [hs, starEach_nil])) fun σ H Q ⟨env, O, dom, en, f⟩ => by
    refine one_in (is := []) rIt_ok dom (by rw [List.append_nil]; exact en) f fun v x H1 d1 e1 r1 _ h1 => ?_
    obtain ⟨o, d⟩ := v
    cases d with
    | int j =>
      have h1 : fR w W σ O (rIt w O) H1 ((rngD 0 j).bind fun l => .ok ((.sh, .non), l)) (fun p H' => Q p.1 H') := h1
      rcases rngD_tame (lo := 0) (hi := j) with ⟨l, e⟩ | e
      · rw [e] at h1
        obtain ⟨z1, z2, rfl⟩ := rngD_ok e
        refine ⟨j, by rw [show x = .int j from r1.1], (small_ok z2).1, (small_ok z2).2, ?_⟩
        have := h1 (Itr 0 j.toNat, .non) H1 (Same.refl _) ⟨VR.sh rfl, fun O' H2 _ => by rw [Int.sub_zero]; exact walk_rng⟩
        exact this
      · rw [e] at h1; exact h1.elim
    | _ => exact h1.elim
theorem sI_rng2 (fx : Fx X.K X.mg g w) (hg : Gl X "range") (hr : g.fr "range" = true) (ha : PE X a (tE g C w W ia)) (hb : PE X b (tE g C w W ib)) (hs : starEach [a, b] X.env = (false, eval a X.env) :: starEach [b] X.env) (hs2 : starEach [b] X.env = (false, eval b X.env) :: starEach [] X.env) :
    PI X tg (.Call (.Name "range" p) [a, b] [] pos) (tI g C w W (.rng2 ia ib)) :=
  PI.imp (pi_range2 hg (fx.free _ hr) (pa_cons ha (pa_cons hb pa_nil hs2) hs) (by rw [hs, hs2, starEach_nil]) (by rw [hs2, starEach_nil])) fun σ H Q ⟨env, O, dom, en, f⟩ => by
    refine two_in (is := []) rIt_ok dom (en.sub fun i m => by rw [List.append_nil] at m; exact m) f fun v u x y H1 d1 e1 r1 r2 h1 => ?_
    obtain ⟨o, d⟩ := v
    obtain ⟨o2, d2⟩ := u
    cases d with
    | int i =>
      cases d2 with
      | int j =>
        have h1 : fR w W σ O (rIt w O) H1 ((rngD i j).bind fun l => .ok ((.sh, .non), l)) (fun p H' => Q p.1 H') := h1
        rcases rngD_tame (lo := i) (hi := j) with ⟨l, e⟩ | e
        · rw [e] at h1
          obtain ⟨z1, z2, rfl⟩ := rngD_ok e
          refine ⟨i, j, by rw [show x = .int i from r1, show y = .int j from r2], ⟨(small_ok z1).1, (small_ok z1).2, (small_ok z2).1, (small_ok z2).2⟩, ?_⟩
          exact h1 (Itr i (j - i).toNat, .non) H1 (Same.refl _) ⟨VR.sh rfl, fun O' H2 _ => walk_rng⟩
        · rw [e] at h1; exact h1.elim
      | _ => exact h1.elim
    | _ => exact nomatch (show False from h1)
theorem sI_rev (hw : w.K = X.K) (fx : Fx X.K X.mg g w) (hg : Gl X "reversed") (hr : g.fr "reversed" = true) (ha : PE X a (tE g C w W ia)) (hs : starEach [a] X.env = (false, eval a X.env) :: starEach [] X.env) : PI X tg (.Call (.Name "reversed" p) [a] [] pos) (tI g C w W (.rev ia)) :=
  PI.imp (RT.pi_revA hg (fx.free _ hr) ha hs) fun σ H Q ⟨env, O, dom, en, f⟩ => by
    refine ⟨env, O, dom, en, f.bind (rel' := rV w O) fun v x H1 s1 r1 h1 => ?_⟩
    obtain ⟨o, d⟩ := v
    cases d with
    | lst l =>
      obtain ⟨a, vs, rfl, sq, hl, _⟩ := walk_rev r1.1
      refine ⟨a, vs, rfl, .inl ⟨hw ▸ sq, h1 (L2.Itv X.K a vs.length, .ref a) H1 s1 ⟨r1, fun O' H2 r => ?_⟩⟩⟩
      obtain ⟨a', vs', e3, sq', _, w'⟩ := walk_rev r
      cases e3
      rw [hl]
      exact hw ▸ w'
    | tup l =>
      obtain ⟨a, vs, rfl, sq, hl, _⟩ := walk_revT r1.1
      refine ⟨a, vs, rfl, .inr ⟨hw ▸ sq, h1 (RT.ItvT X.K a vs.length, .ref a) H1 s1 ⟨r1, fun O' H2 r => ?_⟩⟩⟩
      obtain ⟨a', vs', e3, sq', _, w'⟩ := walk_revT r
      cases e3
      rw [hl]
      exact hw ▸ w'
    | _ => exact h1.elim
end
end S2

set_option maxHeartbeats 4000000
/-! S2k: targets, comprehensions. -/
namespace S2
open PySem PySem.Spec PyProof.Rows L2

def tgS : Tg → List Nat
  | .nm i => [i]
  | .tp is => is
def gSl : List Nat → TGs
  | [] => gNil
  | i :: is => gCons (gName i) (gSl is)
def gT (K : PySem.W.Frag) : Tg → TG
  | .nm i => gName i
  | .tp is => gTup K is.length (gSl is)
/-- some slots have been set to shared values -/
structure Put (w : Wr) (H : Hp) (O : Addr → Prop) (is : List Nat) (env : Env) (σ : L2.St) (env' : Env) (σ' : L2.St) : Prop where
  le : env'.length = env.length
  ls : σ'.length = σ.length
  out : ∀ j, j ∉ is → env'[j]? = env[j]? ∧ σ'[j]? = σ[j]?
  at' : ∀ j, j ∈ is → j < env.length → ∃ d v, env'[j]? = some (some (.sh, d)) ∧ σ'[j]? = some (some v) ∧ Rep w H O d v
section
variable {w : Wr} {H : Hp} {O O' : Addr → Prop} {env env' : Env} {σ : L2.St}
theorem Put.one {i : Nat} {d : D} {v : V} (hl : env.length = σ.length) (r : Rep w H O d v) : Put w H O [i] env σ (env.set i (some (.sh, d))) (σ.set i (some v)) where
  le := List.length_set ..
  ls := List.length_set ..
  out := fun j hj => by
    have : i ≠ j := fun e => hj (by rw [e]; exact List.mem_singleton.mpr rfl)
    exact ⟨List.getElem?_set_ne this, List.getElem?_set_ne this⟩
  at' := fun j hj hn => by
    cases List.mem_singleton.mp hj
    exact ⟨d, v, by rw [List.getElem?_set_self hn], by rw [List.getElem?_set_self (hl ▸ hn)], r⟩
theorem Put.nil : Put w H O [] env σ env σ := ⟨rfl, rfl, fun _ _ => ⟨rfl, rfl⟩, fun j hj => absurd hj (by simp)⟩
theorem Put.cons {i : Nat} {is : List Nat} {d : D} {v : V} {σ' : L2.St} (hl : env.length = σ.length) (r : Rep w H O d v) (p : Put w H O is (env.set i (some (.sh, d))) (σ.set i (some v)) env' σ') : Put w H O (i :: is) env σ env' σ' := by
  have q := Put.one (i := i) hl r
  refine ⟨p.le.trans q.le, p.ls.trans q.ls, fun j hj => ?_, fun j hj hn => ?_⟩
  · have h1 := p.out j fun z => hj (List.mem_cons_of_mem _ z)
    have h2 := q.out j fun z => hj (by rw [List.mem_singleton.mp z]; exact List.mem_cons_self)
    exact ⟨h1.1.trans h2.1, h1.2.trans h2.2⟩
  · by_cases z : j ∈ is
    · exact p.at' j z (by rw [q.le]; exact hn)
    · have h1 := p.out j z
      rcases List.mem_cons.mp hj with e | e
      · obtain ⟨d', v', e1, e2, r'⟩ := q.at' j (List.mem_singleton.mpr e) hn
        exact ⟨d', v', h1.1.trans e1, h1.2.trans e2, r'⟩
      · exact absurd e z
theorem put_all : ∀ {is : List Nat} {ds : List D} {vs : List V} {env env' : Env} {σ : L2.St}, env.length = σ.length → setAll is ds env = some env' → Reps w H O ds vs →
    ∃ σ', (∀ Q : L2.St → Hp → Prop, Q σ' H → gSl is vs σ H Q) ∧ Put w H O is env σ env' σ'
  | [], [], vs, env, env', σ, hl, h, r => by
    cases h
    exact ⟨σ, fun Q q => ⟨r, q⟩, Put.nil⟩
  | [], _ :: _, _, _, _, _, _, h, _ => by cases h
  | _ :: _, [], _, _, _, _, _, h, _ => by cases h
  | i :: is, d :: ds, vs, env, env', σ, hl, h, ⟨v, r', e, rv, rs⟩ => by
    obtain ⟨σ', h1, h2⟩ := put_all (is := is) (σ := σ.set i (some v)) (by rw [List.length_set, List.length_set]; exact hl) h rs
    exact ⟨σ', fun Q q => ⟨v, r', e, h1 Q q⟩, Put.cons hl rv h2⟩
theorem setAll_len : ∀ {is : List Nat} {ds : List D} {env env' : Env}, setAll is ds env = some env' → is.length = ds.length
  | [], [], _, _, _ => rfl
  | [], _ :: _, _, _, h => by cases h
  | _ :: _, [], _, _, h => by cases h
  | i :: is, d :: ds, env, env', h => by rw [List.length_cons, List.length_cons, setAll_len (is := is) h]
theorem put_tg {tg : Tg} {d : D} {x : V} (hl : env.length = σ.length) (h : bindT tg d env = some env') (r : Rep w H O d x) : ∃ σ', (∀ Q : L2.St → Hp → Prop, Q σ' H → gT w.K tg x σ H Q) ∧ Put w H O (tgS tg) env σ env' σ' := by
  cases tg with
  | nm i =>
    cases h
    exact ⟨σ.set i (some x), fun Q q => q, Put.one hl r⟩
  | tp is =>
    cases d with
    | tup l =>
      obtain ⟨a, vs, e, hs, rs⟩ := r
      have h : setAll is l env = some env' := h
      obtain ⟨σ', h1, h2⟩ := put_all hl h rs
      exact ⟨σ', fun Q q => ⟨a, vs, e, hs, by rw [← rs.length, setAll_len h], h1 Q q⟩, h2⟩
    | _ => cases h
/-- in the block: its own slots are set, the others as they were -/
theorem EnvE.put {is : List (Nat × Bool)} {js vs : List Nat} {σ' : L2.St} (h : EnvE w H O σ env is) (hv : ∀ j ∈ vs, j ∈ js) (p : Put w H O js env (wipe σ vs) env' σ') : EnvE w H O σ' env' is := by
  have hl : env'.length = σ'.length := by rw [p.le, p.ls, wipe_length]; exact h.1.1
  refine ⟨⟨hl, fun i m d e => ?_⟩, fun i m o d e ox oy => ?_⟩
  · by_cases z : i.1 ∈ js
    · have hn : i.1 < env.length := by
        have := (List.getElem?_eq_some_iff.mp e).1
        rw [p.le] at this; exact this
      obtain ⟨d', v, e1, e2, r⟩ := p.at' _ z hn
      rw [e] at e1
      cases e1
    · obtain ⟨h1, h2⟩ := p.out _ z
      rw [h1] at e
      obtain ⟨e1, r⟩ := h.1.2 i m d e
      exact ⟨by rw [h2, wipe_out fun q => z (hv _ q)]; exact e1, r⟩
  by_cases z : i.1 ∈ js
  · have hn : i.1 < env.length := by
      have := (List.getElem?_eq_some_iff.mp e).1
      rw [p.le] at this; exact this
    obtain ⟨d', v, e1, e2, r⟩ := p.at' _ z hn
    rw [e] at e1
    cases e1
    refine ⟨v, e2, ?_⟩
    split
    · exact r
    · exact r.k
  · obtain ⟨h1, h2⟩ := p.out _ z
    rw [h1] at e
    obtain ⟨v, e1, r⟩ := h.2 i m o d e ox oy
    exact ⟨v, by rw [h2, wipe_out fun q => z (hv _ q)]; exact e1, r⟩
theorem wipe_in {σ : L2.St} {i : Nat} : ∀ {vs : List Nat}, i ∈ vs → (wipe σ vs)[i]? = if i < σ.length then some none else none
  | [], h => absurd h (by simp)
  | v :: vs, h => by
    unfold wipe
    by_cases e : v = i
    · subst e
      split
      · rename_i hl
        rw [List.getElem?_set_self (by rw [wipe_length]; exact hl)]
      · rename_i hl
        rw [List.getElem?_eq_none]
        rw [List.length_set, wipe_length]; omega
    · rw [List.getElem?_set_ne e]
      exact wipe_in ((List.mem_cons.mp h).resolve_left fun z => e z.symm)
theorem wipe_put {js vs : List Nat} {σ' : L2.St} (hv : ∀ j ∈ js, j ∈ vs) (p : Put w H O js env (wipe σ vs) env' σ') : wipe σ' vs = wipe σ vs := by
  refine List.ext_getElem? fun j => ?_
  have hl : σ'.length = σ.length := by rw [p.ls, wipe_length]
  by_cases z : j ∈ vs
  · rw [wipe_in z, wipe_in z, hl]
  · rw [wipe_out z, (p.out j fun q => z (hv j q)).2]
end

/-! ### [e for .. in .. if ..] -/
abbrev Wf : WX := fun _ _ _ _ => False
abbrev tC' (g : G) (C : Cal) (w : Wr) (c : Eo) : TT := tF w Wf (rI Bool) (tsto g C c) (rdo c)
/-- the items that have come -/
def AccR (w : Wr) (H1 H : Hp) (O : Addr → Prop) (D : Addr) (l : List OD) (acc : List V) : Prop := Reps w H (fun a => O a ∨ a = D) (l.map (·.2)) acc ∧
  (l.all (fun p => decide (p.1 = .o1) && isLst p.2) = true → ∃ qs : List Addr, acc = qs.map V.ref ∧ qs.Nodup ∧ (∀ q ∈ qs, H1 q = none ∧ q ≠ D) ∧ Kids w H (fun a => O a ∨ a ∈ D :: qs) (l.map (·.2)) qs)
theorem AccR.nil {w : Wr} {H1 H : Hp} {O : Addr → Prop} {D : Addr} : AccR w H1 H O D [] [] := ⟨rfl, fun _ => ⟨[], rfl, .nil, fun _ z => absurd z (by simp), rfl⟩⟩
theorem AccR.same {w : Wr} {H1 H H' : Hp} {O : Addr → Prop} {D : Addr} {l : List OD} {acc : List V} (s : Same H H') (h : AccR w H1 H O D l acc) : AccR w H1 H' O D l acc :=
  ⟨Reps.same s _ _ h.1, fun a => let ⟨qs, e, nd, q, ks⟩ := h.2 a; ⟨qs, e, nd, q, ks.same s⟩⟩
/-- all that is new since H1 is kept off -/
def big (O : Addr → Prop) (H1 H : Hp) : Addr → Prop := fun a => O a ∨ (H1 a = none ∧ H a ≠ none)
theorem AccR.push {w : Wr} {H1 H3 H4 : Hp} {O : Addr → Prop} {D : Addr} {l : List OD} {acc xs : List V} {v : OD} {y : V} (hD1 : H1 D = none) (hD : H4 D = some (.lst xs)) (h : AccR w H1 H3 O D l acc) (s : Same H3 H4) (s1 : ∀ b o, H1 b = some o → H3 b = some o) (hD3 : H3 D ≠ none) (r : VR w H3 H4 (big O H1 H3) v y) (u : HO) :
    AccR w H1 (upd H4 D u) O D (l ++ [v]) (acc ++ [y]) := by
  have m : Mut (H4 D) := by rw [hD]; trivial
  have h' := h.same s
  have oD : (fun a => O a ∨ a = D) D := .inr rfl
  have sub : ∀ a, (O a ∨ a = D) → big O H1 H3 a := fun a z => z.imp id fun z => by rw [z]; exact ⟨hD1, hD3⟩
  refine ⟨?_, fun a => ?_⟩
  · rw [List.map_append]
    exact Reps.append (Reps.write oD m _ _ h'.1) (Reps.one (Rep.write oD m _ _ (Rep.mono sub _ _ r.1)))
  · rw [List.all_append, Bool.and_eq_true] at a
    obtain ⟨a1, a2⟩ := a
    obtain ⟨qs, e, nd, q, ks⟩ := h.2 a1
    rw [List.all_cons, Bool.and_eq_true, Bool.and_eq_true, decide_eq_true_eq] at a2
    obtain ⟨⟨a2, a3⟩, _⟩ := a2
    obtain ⟨o, d⟩ := v
    cases (show o = .o1 from a2)
    obtain ⟨r1, p, e3, n, _, rk⟩ := r
    have a3 : isLst d = true := a3
    cases d <;> simp only [isLst, Bool.false_eq_true] at a3
    obtain ⟨p', vs, e4, hp, rr⟩ := rk
    have e5 : p = p' := by rw [e3] at e4; injection e4
    subst e5
    have pD : p ≠ D := fun z => hD3 (by rw [← z]; exact n)
    have hn1 : H1 p = none := by
      cases q1 : H1 p with
      | none => rfl
      | some o => rw [s1 _ _ q1] at n; cases n
    have pq : p ∉ qs := fun z => by
      obtain ⟨us, hq⟩ := ks.there p z
      rw [n] at hq; cases hq
    have oD' : (fun a => O a ∨ a ∈ D :: (qs ++ [p])) D := .inr List.mem_cons_self
    refine ⟨qs ++ [p], by rw [e, e3, List.map_append]; rfl, ?_, fun x mx => ?_, ?_⟩
    · rw [List.nodup_append]
      refine ⟨nd, by simp, fun x hx y hy => ?_⟩
      cases List.mem_singleton.mp hy
      intro z
      subst z
      exact pq hx
    · rcases List.mem_append.mp mx with z | z
      · exact q x z
      · cases List.mem_singleton.mp z
        exact ⟨hn1, pD⟩
    · rw [List.map_append]
      refine Kids.append ?_ ?_
      · refine Kids.write oD' m (fun z => (q D z).2 rfl) (Kids.same s (Kids.wide (fun b z => ?_) ks))
        rcases z with z | z
        · exact .inl (.inl z)
        · rcases List.mem_cons.mp z with z | z
          · exact .inl (.inr (by rw [z]; exact List.mem_cons_self))
          · rcases List.mem_append.mp z with z | z
            · exact .inl (.inr (List.mem_cons_of_mem _ z))
            · cases List.mem_singleton.mp z
              exact .inr n
      · refine Kids.write oD' m (fun z => pD (List.mem_singleton.mp z).symm) ⟨_, p, [], vs, rfl, rfl, hp, Reps.mono (fun b z => ?_) _ _ rr, rfl⟩
        rcases z with z | z
        · exact .inl (.inl z)
        · rcases List.mem_cons.mp z with z | z
          · exact .inl (.inr (by rw [z]; exact ⟨hD1, hD3⟩))
          · rcases List.mem_append.mp z with z | z
            · obtain ⟨us, hq⟩ := ks.there b z
              exact .inl (.inr ⟨(q b z).1, by rw [hq]; exact fun z => by cases z⟩)
            · exact .inr (List.mem_singleton.mp z)
section
variable {X : Cx} {W : WX} {g : G} {w : Wr} {n : Nat} {C : Cal}
def lcF (g : G) (C : Cal) (elt : E) (tg : Tg) (c : Eo) (env : Env) : D → R (Option OD) := fun x => match bindT tg x env with
  | none => .no
  | some env' => (tsto g C c env').tame.bind fun k => if k = true then (ev g C elt env').tame.bind fun y => .ok (some y) else .ok none
theorem tame_ok {α β : Type} {r : R α} {f : α → R β} {b : β} (h : (r.tame.bind f) = .ok b) : ∃ a, r = .ok a ∧ f a = .ok b := by
  cases r with
  | ok a => exact ⟨a, rfl, h⟩
  | exc _ => cases h
  | no => cases h
theorem bind_ok {α β : Type} {r : R α} {f : α → R β} {b : β} (h : (r.bind f) = .ok b) : ∃ a, r = .ok a ∧ f a = .ok b := by
  cases r with
  | ok a => exact ⟨a, rfl, h⟩
  | exc _ => cases h
  | no => cases h
theorem lc_in {elt : E} {tg : Tg} {it : It} {c : Eo} {vs : List Nat} (h1 : ∀ j ∈ vs, j ∈ tgS tg) (h2 : ∀ j ∈ tgS tg, j ∈ vs) {σ : L2.St} {H : Hp} {Q : VK} (h : tE g C w W (.lc elt tg it c) σ H Q) :
    tLc (tI g C w W it) (gT w.K tg) (tC' g C w c) (tE g C w Wf elt) vs σ H Q := by
  obtain ⟨env, O, dom, en, f⟩ := h
  have f : fR w W σ O (rV w O) H ((items g C it env).bind fun xs => (mapC (lcF g C elt tg c env) xs.2).tame.bind fun l => if decide (xs.2.length ≤ szL) then .ok (listOwn l, .lst (l.map (·.2))) else .no) Q := f
  refine ⟨env, O, dom, en.l, f.bind (rel' := rIt w O) fun v p H1 s1 r1 k1 => ?_⟩
  obtain ⟨v, xs⟩ := v
  obtain ⟨J, x⟩ := p
  obtain ⟨l, el, k1⟩ := k1.tame
  split at k1
  case isFalse => exact k1.elim
  rename_i hz
  have hz : xs.length ≤ szL := of_decide_eq_true hz
  intro D hD
  have d1 := dom.same s1
  have sD : Same H1 (upd H1 D (.lst [])) := same_new hD
  have wid : ∀ a, (O a ∨ H1 a = none) → O a ∨ H1 a = none := fun a z => z
  have en1 : EnvE w H1 (fun a => O a ∨ H1 a = none) σ env (rd elt ++ rdo c) := (en.r.same s1).wide wid
  obtain ⟨L, L0, Lk, Ls⟩ := r1.2 (fun a => O a ∨ H1 a = none) (upd H1 D (.lst [])) (Rep.same sD _ _ (Rep.wide wid _ _ r1.1.1))
  have oD : (fun a => O a ∨ H1 a = none) D := .inr hD
  have sub : ∀ H a, big O H1 H a → O a ∨ H1 a = none := fun H a z => z.imp id fun z => z.1
  refine ⟨fun i m H => m = xs.length - i ∧ i ≤ xs.length ∧ L H ∧ Same H1 H ∧ ∃ acc l1 l2, H D = some (.lst acc) ∧ acc.length ≤ i ∧ l = l1 ++ l2 ∧ mapC (lcF g C elt tg c env) (xs.drop i) = .ok l2 ∧ AccR w H1 H O D l1 acc,
    ⟨_, rfl, Nat.zero_le _, L0, sD, [], [], l, upd_same, Nat.le_refl _, rfl, by rw [List.drop_zero]; exact el, AccR.nil⟩, ?_⟩
  rintro i m H2 ⟨rfl, hi, lh, sm, acc, l1, l2, hacc, hal, e12, em, ac⟩
  have domB : ∀ {H}, Same H1 H → Dom (big O H1 H) H := fun {H} sm a z => by
    rcases z with z | z
    · exact d1.same sm a z
    · exact z.2
  by_cases hlt : i < xs.length
  · refine .inr ?_
    obtain ⟨go, yl⟩ := (Ls H2 lh).1 i xs[i] (by simp [hlt])
    refine ⟨go, fun H' => (i + 1 ≤ xs.length ∧ L H' ∧ Same H1 H' ∧ ∃ acc l1 l2, H' D = some (.lst acc) ∧ acc.length ≤ i + 1 ∧ l = l1 ++ l2 ∧ mapC (lcF g C elt tg c env) (xs.drop (i + 1)) = .ok l2 ∧ AccR w H1 H' O D l1 acc), fun H' h' => ⟨xs.length - (i + 1), by omega, rfl, h'⟩, fun x' H3 y => ?_⟩
    obtain ⟨s3, r3⟩ := yl x' H3 y
    rw [List.drop_eq_getElem_cons hlt] at em
    have em : ((lcF g C elt tg c env xs[i]).bind fun o => (mapC (lcF g C elt tg c env) (xs.drop (i + 1))).bind fun ys => .ok (consO o ys)) = .ok l2 := em
    obtain ⟨o, eo, em⟩ := bind_ok em
    obtain ⟨ys, ey, em⟩ := bind_ok em
    have em : consO o ys = l2 := R.ok.inj em
    unfold lcF at eo
    split at eo
    · cases eo
    rename_i env' eb
    obtain ⟨k, ek, eo⟩ := tame_ok eo
    have hlen : env.length = (wipe σ vs).length := by rw [wipe_length]; exact en.1.1
    have sm3 := sm.trans s3
    obtain ⟨σ', gq, pu⟩ := put_tg (σ := wipe σ vs) hlen eb (Rep.mono (sub H3) _ _ r3)
    refine gq _ ?_
    have dom3 := domB sm3
    have en3 : EnvE w H3 (big O H1 H3) σ' env' (rd elt ++ rdo c) := (((en.r.same s1).wide (sub H3)).same sm3).put h1 pu
    refine ⟨wipe_put h2 pu, ⟨env', _, dom3, en3.r, ?_⟩⟩
    rw [ek]
    intro b H4 s4 eb'
    have eb' : b = k := eb'
    subst eb'
    have hD4 : H4 D = some (.lst acc) := s4 _ _ (s3 _ _ hacc)
    have L4 := Lk _ _ lh (Ext.of (s3.trans s4))
    have sm4 := sm.trans (s3.trans s4)
    cases b with
    | false =>
      simp only [Bool.false_eq_true, if_false] at eo ⊢
      have eo : o = none := (R.ok.inj eo).symm
      subst eo
      have em : ys = l2 := em
      subst em
      exact ⟨hlt, L4, sm4, acc, l1, _, hD4, by omega, e12, ey, ac.same (s3.trans s4)⟩
    | true =>
      simp only [if_true] at eo ⊢
      obtain ⟨yv, eyv, eo⟩ := tame_ok eo
      have eo : o = some yv := (R.ok.inj eo).symm
      subst eo
      have em : yv :: ys = l2 := em
      subst em
      have sub4 : ∀ a, big O H1 H4 a → big O H1 H3 a ∨ H3 a = none := fun a z => by
        rcases z with z | z
        · exact .inl (.inl z)
        · cases q : H3 a with
          | none => exact .inr rfl
          | some o => exact .inl (.inr ⟨z.1, by rw [q]; exact fun z => by cases z⟩)
      refine ⟨env', _, domB sm4, (en3.l.wide sub4).same s4, ?_⟩
      rw [eyv]
      intro y' H5 s5 r5
      have hD5 : H5 D = some (.lst acc) := s5 _ _ hD4
      refine ⟨acc, hD5, ?_, hlt, ?_, ?_, acc ++ [y'], l1 ++ [yv], ys, upd_same, ?_, by rw [e12, List.append_assoc]; rfl, ey, ?_⟩
      · have : acc.length < xs.length := by omega
        rw [← szL_eq]; omega
      · exact Lk _ _ L4 ((Ext.of s5).trans (Ext.write oD (by rw [hD5]; trivial)))
      · intro b o q
        have : b ≠ D := fun z => by rw [z, hD] at q; cases q
        rw [upd_ne this]
        exact s5 _ _ (sm4 _ _ q)
      · rw [List.length_append, List.length_singleton]; omega
      · exact (ac.same (s3.trans s4)).push hD hD5 s5 (fun b o q => sm4 b o q) (by rw [hD4]; exact fun z => by cases z) r5 _
  · have e : i = xs.length := by omega
    subst e
    refine .inl ⟨(Ls H2 lh).2, ?_⟩
    rw [List.drop_length] at em
    have em : l2 = [] := (R.ok.inj em).symm
    subst em
    rw [List.append_nil] at e12
    subst e12
    have nO : ¬ O D := fun z => d1 D z hD
    refine k1 _ _ (s1.trans sm) ⟨⟨D, acc, rfl, hacc, nO, Reps.mono (fun a z => .inl z) _ _ ac.1⟩, ?_⟩
    show Frs w H H2 O (listOwn l, _) (.ref D)
    unfold listOwn
    split
    · rename_i hq
      rw [Bool.and_eq_true] at hq
      obtain ⟨qs, e, nd, q, ks⟩ := ac.2 hq.2
      exact ⟨D, qs, _, rfl, rfl, s1.free hD, by rw [hacc, e], List.nodup_cons.mpr ⟨fun z => (q D z).2 rfl, nd⟩, fun q' z => s1.free (q q' z).1, ks⟩
    · exact ⟨D, rfl, s1.free hD, rfl, D, acc, rfl, hacc, ac.1⟩
end
end S2

set_option maxHeartbeats 4000000
/-! S2l: isinstance, methods, comprehensions as expressions. -/
namespace S2
open PySem PySem.Spec PyProof.Rows L2

def btNm : Bt → String
  | .int => "int" | .str => "str" | .bool => "bool" | .tuple => "tuple" | .list => "list"
theorem boot_bt (b : Bt) : bootBuiltins (Str.ofString (btNm b)) = some (.type (btNm b)) := by cases b <;> rfl
theorem bt_ne (b : Bt) : Str.ofString (btNm b) ≠ "__name__" ∧ (Str.ofString (btNm b) == ("__debug__" : Str)) = false := by cases b <;> exact ⟨by decide, by decide⟩
section
variable {X : Cx} {W : WX} {g : G} {w : Wr} {n : Nat} {C : Cal} {a e : Expr} {ia : E} {es : List Expr} {is : Es} {pos p p2 : Pos}
theorem isi_ok {K : PySem.W.Frag} {H : Hp} {O : Addr → Prop} {b : Bt} {d : D} {x : V} {k : Bool} (hw : w.K = K) (r : Rep w H O d x) (h : isiD b d = .ok k) : ∃ t, TyX K H x t ∧ PySem.W.kitOne K t (.type (btNm b)) = some k := by
  have q : ∀ {T : String} {c : Bool}, kitB T (btNm b) = some c → isiD b d = .ok c → PySem.W.kitOne K (.type T) (.type (btNm b)) = some k := fun h1 h2 => by
    rw [h] at h2
    cases h2
    exact kit_ty h1
  cases d with
  | non => cases (show x = .non from r); exact ⟨_, .base .non, by cases b <;> exact q (by first | rfl | decide +kernel) rfl⟩
  | bl v => cases (show x = .bl v from r); exact ⟨_, .base (.bl v), by cases b <;> exact q (by first | rfl | decide +kernel) rfl⟩
  | int v => cases (show x = .int v from r); exact ⟨_, .base (.int v), by cases b <;> exact q (by first | rfl | decide +kernel) rfl⟩
  | str v => cases (show x = .str v from r); exact ⟨_, .base (.str v), by cases b <;> exact q (by first | rfl | decide +kernel) rfl⟩
  | scr l =>
    obtain ⟨a, rfl, hp⟩ := r
    rcases hp with ⟨o, hp⟩ | ⟨o, its, n, hp, hc, _⟩
    · exact ⟨_, .base (.frz hp), by cases b <;> exact q (by first | rfl | decide +kernel) rfl⟩
    · exact ⟨_, .kList (hw ▸ hp) hc, by cases b <;> exact q (by first | rfl | decide +kernel) rfl⟩
  | tup l =>
    obtain ⟨a, vs, rfl, hp, _⟩ := r
    rcases hp with (hp | ⟨o, hp⟩) | ⟨o, its, n, hp, hc, _⟩
    · exact ⟨_, .base (.tup hp), by cases b <;> exact q (by first | rfl | decide +kernel) rfl⟩
    · exact ⟨_, .fTuple hp, by cases b <;> exact q (by first | rfl | decide +kernel) rfl⟩
    · exact ⟨_, .kTuple (hw ▸ hp) hc, by cases b <;> exact q (by first | rfl | decide +kernel) rfl⟩
  | lst l =>
    obtain ⟨a, vs, rfl, hp, _⟩ := r
    exact ⟨_, .base (.lst hp), by cases b <;> exact q (by first | rfl | decide +kernel) rfl⟩
  | dct _ _ => cases b <;> cases h
  | ob _ _ _ => cases b <;> cases h
theorem sE_isi (fx : Fx X.K X.mg g w) (b : Bt) (hg : Gl X "isinstance") (hr : g.fr "isinstance" = true) (hg2 : Gl X (Str.ofString (btNm b))) (hr2 : g.fr (Str.ofString (btNm b)) = true) (ha : PE X a (tE g C w W ia)) (hs : starEach [a, .Name (Str.ofString (btNm b)) p2] X.env = (false, eval a X.env) :: starEach [.Name (Str.ofString (btNm b)) p2] X.env) :
    PE X (.Call (.Name "isinstance" p) [a, .Name (Str.ofString (btNm b)) p2] [] pos) (tE g C w W (.isi ia b)) :=
  PE.imp (pe_callB call_isi hg (fx.free _ hr) boot_isinstance (pa_cons ha (pa_cons (pe_bltn (v := .ty (btNm b)) hg2 (fx.free _ hr2) (boot_bt b) rfl (bt_ne b).1 (bt_ne b).2) pa_nil (by rfl)) hs) (by decide) (by decide) hs (by rfl)) fun σ H Q ⟨env, O, dom, en, h⟩ => by
    refine one_in (is := []) rV_ok dom (by rw [List.append_nil]; exact en) h fun v x H1 d1 e1 r1 s1 h1 => ?_
    obtain ⟨k, e, q⟩ := asB_fin h1
    obtain ⟨t, h2, h3⟩ := isi_ok fx.hK r1.1 e
    exact ⟨x, .ty (btNm b), t, .type (btNm b), k, rfl, .ty _, h2, h3, q⟩
theorem isi_tst {b : Bt} (env : Env) : tst g C (.isi ia b) env = (ev g C (.isi ia b) env).bind fun x => (truthD x.2).tame := by
  show ((ev g C ia env).bind fun x => (isiD b x.2).tame) = ((ev g C ia env).bind fun x => asB (isiD b x.2)).bind fun x => (truthD x.2).tame
  cases ev g C ia env with
  | ok v =>
    show (isiD b v.2).tame = (asB (isiD b v.2)).bind fun x => (truthD x.2).tame
    cases isiD b v.2 <;> rfl
  | exc _ => rfl
  | no => rfl

/-! ### methods -/
def tMethS (K : Addr) (m : Str) (sp : Sp) (E : L2.St → XK) (ta : TE) (t : TA) : TE := fun σ H Q => ta σ H fun x H1 => ∃ a dx fs, x = .ref a ∧ H1 a = some (.ins K dx fs) ∧ fs.lookup m = none ∧ t σ H1 fun vs H2 => sp (x :: vs) H2 Q (E σ)
theorem pe_methS {pl : Sem Bool} {K f : Addr} {k : Nat} {fd : FuncData} {ps : List Str} {sp : Sp} {CX : CXT} {E : L2.St → XK} {m : Str} {apos : Pos} {ta : TE} {t : TA} {o : Expr} (he : PE X o ta) (c : Cls X.K K) (hm : Meth X.K K m f) (F : FnG X.prog X.w X.K X.mg X.base CX k f fd ps sp) (hr : Room k X.A) (ng : NoG X.A) (hb : Binds X.K fd ps []) (hx : ∀ σ, PassesAt CX X σ (E σ)) (ha : PA X (e :: es) t) (hp : Plain X (e :: es))
    (ht : eval (.Call (.Attribute o m apos) (e :: es) [] pos) X.env = (do
      let ov ← eval o X.env
      standAt apos.atName
      let (f, first) ← holding [ov] (getMethod ov m pl)
      callWith pos f first (backTo pos (starEach (e :: es) X.env)) (backToKw pos (keywordEach [] X.env)))) :
    PE X (.Call (.Attribute o m apos) (e :: es) [] pos) (tMethS K m sp E ta t) := by
  refine ⟨fun pins s σ H Q I h => ?_⟩
  refine PySem.W.methodCall_KW (pl := pl) (thn (he.run pins s σ H _ I h) fun u s1 ⟨x, H1, I1, rx, a, dx, fs, ex, ea, l, q⟩ => ?_) ht
  subst ex
  obtain rfl : u = Value.ref a := rx
  refine getmeth_ok I1 ea c hm l ?_
  refine PySem.W.callWith_K (first := [.ref a]) (h₀ := X.base) I.ok.mod.kin hm.kp (thn (ha.run pos pins s1 σ H1 _ I1 q) fun us s2 ⟨vs, H2, I2, r, q2⟩ => ⟨I2.kIn, ?_⟩) hp.1 (hp.2.any pos)
  refine run_fnG (us := .ref a :: us) (xs := .ref a :: vs) F hr ng hb (hx σ) I2 (.cons rfl r) q2
theorem pe_methS0 {pl : Sem Bool} {K f : Addr} {k : Nat} {fd : FuncData} {ps : List Str} {sp : Sp} {CX : CXT} {E : L2.St → XK} {m : Str} {apos : Pos} {ta : TE} {o : Expr} (he : PE X o ta) (c : Cls X.K K) (hm : Meth X.K K m f) (F : FnG X.prog X.w X.K X.mg X.base CX k f fd ps sp) (hr : Room k X.A) (ng : NoG X.A) (hb : Binds X.K fd ps []) (hx : ∀ σ, PassesAt CX X σ (E σ))
    (ht : eval (.Call (.Attribute o m apos) [] [] pos) X.env = (do
      let ov ← eval o X.env
      standAt apos.atName
      let (f, first) ← holding [ov] (getMethod ov m pl)
      callWith pos f first (backTo pos (starEach [] X.env)) (backToKw pos (keywordEach [] X.env)))) :
    PE X (.Call (.Attribute o m apos) [] [] pos) (tMethS K m sp E ta tNil) := by
  refine ⟨fun pins s σ H Q I h => ?_⟩
  refine PySem.W.methodCall_KW (pl := pl) (thn (he.run pins s σ H _ I h) fun u s1 ⟨x, H1, I1, rx, a, dx, fs, ex, ea, l, q⟩ => ?_) ht
  subst ex
  obtain rfl : u = Value.ref a := rx
  refine getmeth_ok I1 ea c hm l ?_
  refine PySem.W.callWith_K0 (first := [.ref a]) I1.kIn hm.kp (run_fnG (us := [.ref a]) (xs := [.ref a]) F hr ng hb (hx σ) I1 (.cons rfl .nil) q)
theorem whoM_ok {m f : Str} {d : D} (h : whoM g m d = some f) : ∃ c ns vs, d = .ob c ns vs ∧ ns.contains m = false ∧ g.mth c m = some f := by
  cases d <;> simp only [whoM, reduceCtorEq] at h
  rename_i c ns vs
  split at h
  · cases h
  · rename_i z
    exact ⟨c, ns, vs, rfl, by simpa using z, h⟩
theorem me_shape {o : Expr} {env : PySem.Env} {m : Str} {apos : Pos} {args : List Expr} (hb : attributeBase o m env (eval o env) = eval o env) (hf : methodCallForm args.length (backTo pos (starEach args env)) [] = true) (hl : (apos.endLine == pos.line) = true) :
    eval (.Call (.Attribute o m apos) args [] pos) env = (do
      let ov ← eval o env
      standAt apos.atName
      let (f, first) ← holding [ov] (getMethod ov m (do return (← importBound o env).getD true))
      callWith pos f first (backTo pos (starEach args env)) (backToKw pos (keywordEach [] env))) := by
  show (attributeBase o m env (eval o env) >>= fun ov => standAt apos.atName >>= fun _ => methodCall o m apos pos env ov (args.length + 0) (backTo pos (starEach args env)) (backToKw pos (keywordEach [] env))) = _
  rw [hb]
  have hk : backToKw pos (keywordEach [] env) = [] := by rfl
  rw [hk]
  unfold methodCall calleeOf methodCallPos
  rw [Nat.add_zero, hf, hl]
  rfl
theorem Plain.form : ∀ {es : List Expr}, Plain X es → es.length < 30 → methodCallForm es.length (backTo pos (starEach es X.env)) [] = true := by
  intro es h hn
  have q : ∀ {es : List Expr}, Plain X es → (backTo pos (starEach es X.env)).all (!·.1) = true := fun {es} h => by
    induction es with
    | nil => rw [starEach_nil]; rfl
    | cons e es ih =>
      have i2 := ih h.2
      rw [h.1]
      cases hs : starEach es X.env with
      | nil => rfl
      | cons q r =>
        rw [hs] at i2
        show (true && (backTo pos (q :: r)).all (!·.1)) = true
        rw [i2]; rfl
  unfold methodCallForm
  rw [q h]
  simpa using hn
theorem sE_meX {o : Expr} {io : E} {m : Str} {apos : Pos} {args : List Expr} {f : OD → R OD} (gd : Gd X W g w n) {env : Env} {d : D} {pl : Sem Bool} (he : PE X o (tE g (cal g n) w W io)) (hv : ev g (cal g n) io env = .exc d) {σ : L2.St} {H : Hp} {O : Addr → Prop} {Q : VK}
    (ht : eval (.Call (.Attribute o m apos) args [] pos) X.env = (do
      let ov ← eval o X.env
      standAt apos.atName
      let (f, first) ← holding [ov] (getMethod ov m pl)
      callWith pos f first (backTo pos (starEach args X.env)) (backToKw pos (keywordEach [] X.env)))) {pins : List (Addr × Obj)} {s : Shared} (I : Inv X pins σ H s) (dom : Dom O H) (en : EnvE w H O σ env (rd io)) (h : fR w W σ O (rV w O) H ((ev g (cal g n) io env).bind f) Q) :
    wpAny (model X.prog X.w) X.A (eval (.Call (.Attribute o m apos) args [] pos) X.env) (EP X pins σ Q) X.xe s := by
  rw [hv] at h
  have hE : tE g (cal g n) w W io σ H fun _ _ => False := ⟨env, O, dom, en, by rw [hv]; exact h⟩
  exact PySem.W.methodCall_KW (pl := pl) (thn (he.run pins s σ H _ I hE) fun u s1 ⟨x, H1, I1, rx, z⟩ => z.elim) ht
theorem sE_me {o : Expr} {io : E} {m : Str} {apos : Pos} (gd : Gd X W g w n) (ho : PE X o (tE g (cal g n) w W io)) (hb0 : attributeBase o m X.env (eval o X.env) = eval o X.env) (hs : PA X (e :: es) (tEs g (cal g n) w W is)) (hp : Plain X (e :: es)) (hn : (e :: es).length < 30) (hl : (apos.endLine == pos.line) = true) :
    PE X (.Call (.Attribute o m apos) (e :: es) [] pos) (tE g (cal g n) w W (.me m io is)) := by
  refine ⟨fun pins s σ H Q I ⟨env, O, dom, en, h⟩ => ?_⟩
  have en2 : EnvE w H O σ env (rd io ++ rds is) := en.sub fun i mi => by
    show i ∈ rd (.me m io is)
    rw [rd]
    exact mi
  have h : fR w W σ O (rV w O) H ((ev g (cal g n) io env).bind fun x => match whoM g m x.2 with
    | some f => (evs g (cal g n) is env).bind fun l => callD g n f (x.2 :: l.map (·.2))
    | none => .no) Q := h
  cases hv : ev g (cal g n) io env with
  | no => rw [hv] at h; exact h.elim
  | exc d => exact sE_meX gd ho hv (me_shape hb0 (hp.form hn) hl) I dom en2.l h
  | ok v =>
    rw [hv] at h
    have h : fR w W σ O (rV w O) H (match whoM g m v.2 with
      | some f => (evs g (cal g n) is env).bind fun l => callD g n f (v.2 :: l.map (·.2))
      | none => .no) Q := h
    cases ew : whoM g m v.2 with
    | none => rw [ew] at h; exact h.elim
    | some f =>
      rw [ew] at h
      obtain ⟨c, ns, vs, ed, hm, hf⟩ := whoM_ok ew
      obtain ⟨fa, fd, ps, cl, me, hb, F⟩ := (gd.lv rfl).mt c m f hf
      refine (pe_methS ho cl me F (gd.room rfl) gd.ng hb (fun σ => L2N.passAt gd.takes σ) hs hp (me_shape hb0 (hp.form hn) hl)).run pins s σ H Q I ⟨env, O, dom, en2.l, ?_⟩
      rw [hv]
      intro x H1 s1 r1
      have r := r1.1
      rw [ed] at r
      have r' := r
      obtain ⟨a, dx, fs, rfl, ha, _, ⟨_, hk⟩, _⟩ := r'
      refine ⟨a, dx, fs, rfl, ha, fld_none hk hm, ?_⟩
      refine es_in (js := []) rV_ok (dom.same s1) (by rw [List.append_nil]; exact en2.r.same s1) (h.later rV_ok s1) fun l y H2 d2 e3 r2 s2 h2 => ?_
      refine ⟨v.2 :: l.map (·.2), O, d2, ⟨.ref a, y, rfl, by rw [ed]; exact Rep.same s2 _ _ r, r2.reps⟩, ?_⟩
      have h2 := h2.later rV_ok s2
      cases q : callD g n f (v.2 :: l.map (·.2)) with
      | ok v => rw [q] at h2; exact h2
      | exc d => rw [q] at h2; exact h2
      | no => rw [q] at h2; exact h2
theorem sE_me0 {o : Expr} {io : E} {m : Str} {apos : Pos} (gd : Gd X W g w n) (ho : PE X o (tE g (cal g n) w W io)) (hb0 : attributeBase o m X.env (eval o X.env) = eval o X.env) (hl : (apos.endLine == pos.line) = true) :
    PE X (.Call (.Attribute o m apos) [] [] pos) (tE g (cal g n) w W (.me m io .nil)) := by
  refine ⟨fun pins s σ H Q I ⟨env, O, dom, en, h⟩ => ?_⟩
  have en2 : EnvE w H O σ env (rd io ++ []) := en.sub fun i mi => by
    show i ∈ rd (.me m io .nil)
    rw [rd, rds]
    exact mi
  have h : fR w W σ O (rV w O) H ((ev g (cal g n) io env).bind fun x => match whoM g m x.2 with
    | some f => callD g n f [x.2]
    | none => .no) Q := h
  cases hv : ev g (cal g n) io env with
  | no => rw [hv] at h; exact h.elim
  | exc d => exact sE_meX gd ho hv (me_shape hb0 (Plain.form (es := []) trivial (by decide)) hl) I dom en2.l h
  | ok v =>
    rw [hv] at h
    have h : fR w W σ O (rV w O) H (match whoM g m v.2 with
      | some f => callD g n f [v.2]
      | none => .no) Q := h
    cases ew : whoM g m v.2 with
    | none => rw [ew] at h; exact h.elim
    | some f =>
      rw [ew] at h
      obtain ⟨c, ns, vs, ed, hm, hf⟩ := whoM_ok ew
      obtain ⟨fa, fd, ps, cl, me, hb, F⟩ := (gd.lv rfl).mt c m f hf
      refine (pe_methS0 ho cl me F (gd.room rfl) gd.ng hb (fun σ => L2N.passAt gd.takes σ) (me_shape hb0 (Plain.form (es := []) trivial (by decide)) hl)).run pins s σ H Q I ⟨env, O, dom, en2.l, ?_⟩
      rw [hv]
      intro x H1 s1 r1
      have r := r1.1
      rw [ed] at r
      have r' := r
      obtain ⟨a, dx, fs, rfl, ha, _, ⟨_, hk⟩, _⟩ := r'
      refine ⟨a, dx, fs, rfl, ha, fld_none hk hm, ?_⟩
      refine ⟨[v.2], O, dom.same s1, ⟨.ref a, [], rfl, by rw [ed]; exact r, rfl⟩, ?_⟩
      have h : fR w W σ O (rV w O) H1 (callD g n f [v.2]) Q := h.later rV_ok s1
      cases q : callD g n f [v.2] with
      | ok v => rw [q] at h; exact h
      | exc d => rw [q] at h; exact h
      | no => rw [q] at h; exact h

/-! ### methods of built-in types -/
/-- with arguments -/
theorem sE_bm1 {o : Expr} {io : E} {T : String} {m : Bm} {nm : Str} {id : String} {apos : Pos} (pa : PlainAttrs T) (sl : PySem.Slot T nm id) (ty : typeOf (.builtin id) = pure (.type "method_descriptor")) (rule : MtR X id (RM w (bmD m)))
    (hty : ∀ (v : OD) (x : V) (H1 H2 : Hp) (O : Addr → Prop), bmTy m v.2 = true → VR w H1 H2 O v x → tyV X.K T x H2)
    (ho : PE X o (tE g C w W io)) (hs : PA X (e :: es) (tEs g C w W is)) (hp : Plain X (e :: es)) (hn : (e :: es).length < 30) (hbase : attributeBase o nm X.env (eval o X.env) = eval o X.env) (hl : (apos.endLine == pos.line) = true) :
    PE X (.Call (.Attribute o nm apos) (e :: es) [] pos) (tE g C w W (.bm m io is)) := by
  refine PE.imp (pe_bm pa sl ty rule ho hs hbase ?_ hl hp.1 (hp.2.any pos)) fun σ H Q ⟨env, O, dom, en, h⟩ => ?_
  · have := hp.form (pos := pos) hn
    have hk : backToKw pos (keywordEach [] X.env) = [] := by rfl
    rw [hk]
    unfold methodCallForm at this
    simpa using this
  · have h : fR w W σ O (rV w O) H ((ev g C io env).bind fun x => if bmTy m x.2 = true then (evs g C is env).bind fun l => ownL (bmD m x.2 (l.map (·.2))) else .no) Q := h
    refine one_in rV_ok dom (is := rds is) (en.sub fun i mi => ?_) h fun v x H1 d1 e1 r1 s1 h1 => ?_
    · show i ∈ rd (.bm m io is)
      rw [rd]
      exact mi
    · split at h1
      case isFalse => exact h1.elim
      rename_i hm
      refine ⟨hty v x H H1 O hm r1, ?_⟩
      refine es_in (js := []) rV_ok d1 (by rw [List.append_nil]; exact e1) h1 fun l y H2 d2 e3 r2 s2 h2 => ?_
      obtain ⟨d, q, k⟩ := ownL_fin (h2.later rV_ok s2)
      exact ⟨v.2, _, O, d2, Rep.same s2 _ _ r1.1, r2.reps, d, q, k⟩
/-- none -/
theorem sE_bm0 {o : Expr} {io : E} {T : String} {m : Bm} {nm : Str} {id : String} {apos : Pos} (pa : PlainAttrs T) (sl : PySem.Slot T nm id) (ty : typeOf (.builtin id) = pure (.type "method_descriptor")) (rule : MtR X id (RM w (bmD m)))
    (hty : ∀ (v : OD) (x : V) (H1 H2 : Hp) (O : Addr → Prop), bmTy m v.2 = true → VR w H1 H2 O v x → tyV X.K T x H2)
    (ho : PE X o (tE g C w W io)) (hbase : attributeBase o nm X.env (eval o X.env) = eval o X.env) (hl : (apos.endLine == pos.line) = true) :
    PE X (.Call (.Attribute o nm apos) [] [] pos) (tE g C w W (.bm m io .nil)) := by
  refine PE.imp (pe_bm0 pa sl ty rule ho hbase hl) fun σ H Q ⟨env, O, dom, en, h⟩ => ?_
  have h : fR w W σ O (rV w O) H ((ev g C io env).bind fun x => if bmTy m x.2 = true then (evs g C .nil env).bind fun l => ownL (bmD m x.2 (l.map (·.2))) else .no) Q := h
  refine one_in rV_ok dom (is := []) (en.sub fun i mi => ?_) h fun v x H1 d1 e1 r1 s1 h1 => ?_
  · show i ∈ rd (.bm m io .nil)
    rw [rd, rds]
    exact mi
  · split at h1
    case isFalse => exact h1.elim
    rename_i hm
    have h1 : fR w W σ O (rV w O) H1 (ownL (bmD m v.2 [])) Q := by
      have e2 : ∀ y, evs g C .nil y = .ok [] := fun y => by rw [evs] <;> rfl
      rw [e2] at h1
      exact h1
    refine ⟨hty v x H H1 O hm r1, ?_⟩
    obtain ⟨d, q, k⟩ := ownL_fin h1
    exact ⟨v.2, [], O, d1, r1.1, rfl, d, q, k⟩
theorem ty_str {v : OD} {x : V} {H1 H2 : Hp} {O : Addr → Prop} {K : PySem.W.Frag} {m : Bm} (hm : m = .upper ∨ m = .split ∨ m = .six) (h : bmTy m v.2 = true) (r : VR w H1 H2 O v x) : tyV K "str" x H2 := by
  obtain ⟨o, d⟩ := v
  rcases hm with rfl | rfl | rfl <;> (cases d <;> first | (exact absurd h Bool.false_ne_true) | (rw [show x = _ from r.1]; rfl))
theorem ty_lst {v : OD} {x : V} {H1 H2 : Hp} {O : Addr → Prop} {K : PySem.W.Frag} (h : bmTy .index v.2 = true) (r : VR w H1 H2 O v x) : tyV K "list" x H2 := by
  obtain ⟨o, d⟩ := v
  cases d <;> first | (exact absurd h Bool.false_ne_true) | skip
  obtain ⟨p, vs, rfl, hp, _⟩ := r.1
  exact .inl ⟨rfl, vs, SqL.of hp⟩
/-! ### comprehensions -/
def locB (sc : Scope) (x : Str) : Bool := match sc.names.lookup x with
  | some .local => true
  | some .cell => true
  | _ => false
def visB (sc : Scope) (x : Str) : Bool := match sc.names.lookup x with
  | some .local => true
  | some .cell => true
  | some .free => true
  | _ => false
def glB (sc : Scope) (x : Str) : Bool := match sc.names.lookup x with
  | some .globalImplicit => true
  | _ => false
theorem locB_ok {sc : Scope} {x : Str} (h : locB sc x = true) : Loc sc x := by
  unfold locB at h
  split at h <;> first | exact .inl (by assumption) | exact .inr (by assumption) | cases h
theorem visB_ok {sc : Scope} {x : Str} (h : visB sc x = true) : Vis sc x := by
  unfold visB at h
  split at h <;> first | exact .inl (by assumption) | exact .inr (.inl (by assumption)) | exact .inr (.inr (by assumption)) | cases h
theorem glB_ok {env : PySem.Env} {x : Str} (h : glB env.scope x = true) : env.kindOf x = some .globalImplicit := by
  unfold glB at h
  split at h <;> first | assumption | cases h
def tgNames (N : List Str) (sc : Scope) : List Nat → List Expr → Bool
  | [], [] => true
  | i :: is, .Name x _ :: es => decide (N[i]? = some x) && locB sc x && tgNames N sc is es
  | _, _ => false
/-- the target, by its slots -/
def okTg (N : List Str) (sc : Scope) : Tg → Expr → Bool
  | .nm i, .Name x _ => decide (N[i]? = some x) && locB sc x
  | .tp is, .Tuple es _ _ => tgNames N sc is es
  | _, _ => false
theorem fn_blk {scope : Scope} {x : Str} (h : locB scope x = true) : (scope.names.lookup x == some .cell) = true ∨ scope.names.lookup x = some .local := by
  unfold locB at h
  split at h
  · exact .inr (by assumption)
  · rename_i e; exact .inl (by rw [e]; rfl)
  · cases h
/-- the context's names may be written -/
def Wrs (X : Cx) : Prop := ∀ x, locB X.env.scope x = true → X.fn x = true ∨ X.env.scope.names.lookup x = some .local
theorem pgs_names {sc2 : Scope} (hN : X.N.Nodup) (hw : ∀ x, locB sc2 x = true → X.fn x = true ∨ X.env.scope.names.lookup x = some .local) : ∀ {is : List Nat} {es : List Expr}, tgNames X.N X.env.scope is es = true → tgNames X.N sc2 is es = true → PGs X es (gSl is) ∧ (assignEach es X.env).length = is.length ∧ (assignEach es X.env).findIdx? (·.1) = none
  | [], [], _, _ => ⟨pgs_nil, rfl, rfl⟩
  | [], _ :: _, h, _ => by cases h
  | i :: is, [], h, _ => by cases h
  | i :: is, e :: es, h, h' => by
    cases e with
    | Name x p =>
      have h : (decide (X.N[i]? = some x) && locB X.env.scope x && tgNames X.N X.env.scope is es) = true := h
      have h' : (decide (X.N[i]? = some x) && locB sc2 x && tgNames X.N sc2 is es) = true := h'
      simp only [Bool.and_eq_true, decide_eq_true_eq] at h h'
      obtain ⟨⟨h1, h2⟩, h3⟩ := h
      obtain ⟨q1, q2, q3⟩ := pgs_names hN hw h3 h'.2
      have e1 : assignEach (.Name x p :: es) X.env = (false, assign (.Name x p) X.env) :: assignEach es X.env := by rfl
      refine ⟨pgs_cons (pg_name hN h1 (locB_ok h2) (hw x h'.1.2)) q1 (by rw [e1]; rfl), by rw [e1, List.length_cons, q2]; rfl, ?_⟩
      rw [e1, List.findIdx?_cons]
      simp [q3]
    | _ => cases h
theorem sG {sc2 : Scope} {tg : Tg} {t : Expr} (hN : X.N.Nodup) (hc : X.calm = true) (hw : ∀ x, locB sc2 x = true → X.fn x = true ∨ X.env.scope.names.lookup x = some .local) (h : okTg X.N X.env.scope tg t = true) (h' : okTg X.N sc2 tg t = true) : PG X t (gT X.K tg) := by
  cases tg with
  | nm i =>
    cases t with
    | Name x p =>
      have h : (decide (X.N[i]? = some x) && locB X.env.scope x) = true := h
      have h' : (decide (X.N[i]? = some x) && locB sc2 x) = true := h'
      simp only [Bool.and_eq_true, decide_eq_true_eq] at h h'
      exact pg_name hN h.1 (locB_ok h.2) (hw x h'.2)
    | _ => cases h
  | tp is =>
    cases t with
    | Tuple es k p =>
      obtain ⟨q1, q2, q3⟩ := pgs_names hN hw (show tgNames X.N X.env.scope is es = true from h) h'
      exact pg_tup hc q1 q2 q3
    | _ => cases h
theorem fn_blk' {s : Shared} {H : Hp} {scope : Scope} {K : Addr} {cl : List (Str × Addr)} {fp : List Addr} (x : Str) (h : locB scope x = true) : (X.blk s H scope (compEnvC scope cl K X.env) fp).fn x = true ∨ (X.blk s H scope (compEnvC scope cl K X.env) fp).env.scope.names.lookup x = some .local :=
  (fn_blk h).imp id fun h => lookup_relS_keep (sc := X.env.scope) (by decide) h
theorem PTs.imp {es : List Expr} {t t' : TT} (h : PTs X es t) (k : ∀ σ H Q, t' σ H Q → t σ H Q) : PTs X es t' := ⟨fun pins s σ H Q I q => h.run pins s σ H Q I (k σ H Q q)⟩
theorem sC_none : PTs X [] (tC' g C w .none) := PTs.imp pts_nil fun σ H Q ⟨env, O, dom, en, f⟩ => fR.ok (rel := rI Bool O) (a := true) (b := true) f rfl
theorem sC_some {c : Expr} {ic : E} (h : PT X c (tT g C w Wf ic)) : PTs X [c] (tC' g C w (.some ic)) := PTs.imp (pts_one h) fun σ H Q h => h
end
end S2

set_option maxHeartbeats 4000000
/-! S2sk: sorted(xs, key=f), f an own def. -/
namespace S2
open PySem PySem.Spec PyProof.Rows L2

/-- the context two steps within, in which nothing raises -/
def in2 (X : Cx) : Cx := { X with A := X.A.in1.in1, xe := fun _ _ => False }
theorem in2_ok {X : Cx} (ok : X.Ok) : (in2 X).Ok := by cases ok; constructor <;> assumption
theorem in2_back {X : Cx} (ok : (in2 X).Ok) : X.Ok := by cases ok; constructor <;> assumption
theorem in2_inv {X : Cx} {pins : List (Addr × Obj)} {σ : L2.St} {H : Hp} {s : Shared} (I : Inv X pins σ H s) : Inv (in2 X) pins σ H s := by
  have ok := in2_ok I.ok
  cases I
  constructor <;> assumption
theorem inv_in2 {X : Cx} {pins : List (Addr × Obj)} {σ : L2.St} {H : Hp} {s : Shared} (I : Inv (in2 X) pins σ H s) : Inv X pins σ H s := by
  have ok := in2_back I.ok
  cases I
  constructor <;> assumption
section
variable {X : Cx} {W : WX} {g : G} {w : Wr} {n : Nat} {pins : List (Addr × Obj)} {σ : L2.St} {H : Hp} {s : Shared}
/-- a key is asked for -/
theorem key_turn {f : Str} {fa : Addr} {fd : FuncData} {ps : List Str} {O : Addr → Prop} {d k : D} {o : Own} {x : V} {v : Value} (gd : Gd X W g w n) (F : FnG X.prog X.w X.K X.mg X.base (L2N.CX X.prog X.w) n fa fd ps (spF g w n f)) (bd : Binds X.K fd ps []) (I : Inv X pins σ H s) (dom : Dom O H) (rx : Rep w H O d x) (rel : RelV x v) (e : callD g n f [d] = .ok (o, k)) :
    wpAny (model X.prog X.w) X.A.in1.in1 (call (.ref fa) [v]) (fun u s' => ∃ y H', Inv X pins σ H' s' ∧ Same H H' ∧ RelV y u ∧ Rep w H' O k y) (fun _ _ => False) s := by
  have px : PassesAt (L2N.CX X.prog X.w) (in2 X) σ (fun _ _ _ => False) := L2N.passAt (X := in2 X) (W := Wf) (fun _ _ ⟨_, _, _, _, _, _, _, _, _, _, _, _, _, _, _, _, q⟩ => q.elim) σ
  have h := run_fnG (X := in2 X) (C := L2N.CX X.prog X.w) (E := fun _ _ _ _ => False) (pins := pins) (σ := σ) (H := H) (s := s) (Q := fun y H' => Same H H' ∧ Rep w H' O k y) (us := [v]) (xs := [x]) F (gd.room2 rfl) gd.ng bd px (in2_inv I) (.cons rel .nil) ⟨[d], O, dom, ⟨x, [], rfl, rx, rfl⟩, by rw [e]; exact fun x' H' s' r => ⟨s', r.1⟩⟩
  exact wpAny_mono h (fun u s' ⟨y, H', I', rel', q⟩ => ⟨y, H', inv_in2 I', q.1, rel', q.2⟩) fun _ _ z => z
theorem keysR_at {call : Str → List D → R OD} {f : Str} : ∀ {l ks : List D}, keysR call f l = .ok ks → ks.length = l.length ∧ ∀ (i : Nat) (d : D), l[i]? = some d → ∃ o k, ks[i]? = some k ∧ call f [d] = .ok (o, k)
  | [], ks, h => by
    cases h
    exact ⟨rfl, fun i d e => by simp at e⟩
  | d :: l, ks, h => by
    unfold keysR at h
    cases e : call f [d] with
    | exc _ => rw [e] at h; cases h
    | no => rw [e] at h; cases h
    | ok v =>
      rw [e] at h
      cases e2 : keysR call f l with
      | exc _ => rw [e2] at h; cases h
      | no => rw [e2] at h; cases h
      | ok ks2 =>
        rw [e2] at h
        cases h
        obtain ⟨h1, h2⟩ := keysR_at e2
        refine ⟨by simp [h1], fun i d' e' => ?_⟩
        cases i with
        | zero => cases e'; exact ⟨v.1, v.2, rfl, e⟩
        | succ i => exact h2 i d' e'
theorem vals_snoc {xs : List V} {us : List Value} {x : V} {u : Value} (h : Vals xs us) (r : RelV x u) : Vals (xs ++ [x]) (us ++ [u]) := by
  induction h with
  | nil => exact .cons r .nil
  | cons q _ ih => exact .cons q ih
theorem reps_snoc {O : Addr → Prop} {d : D} {x : V} (rx : Rep w H O d x) : ∀ {l : List D} {xs : List V}, Reps w H O l xs → Reps w H O (l ++ [d]) (xs ++ [x])
  | [], _, h => by cases h; exact ⟨x, [], rfl, rx, rfl⟩
  | _ :: l, _, ⟨v, r, e, h1, h2⟩ => ⟨v, r ++ [x], by rw [e]; rfl, h1, reps_snoc rx h2⟩
theorem each_reads {l : List D} : ∀ {xs : List V} {us : List Value} {O : Addr → Prop}, w.K = X.K → Inv X pins σ H s → (∀ d ∈ l, plainB d = true) → Vals xs us → Reps w H O l xs → PySem.W.EachIs (fun v d => ∃ as, Reads s.heap v d as) us (l.map py) := by
  induction l with
  | nil =>
    intro xs us O hw I hp rv r
    cases r
    cases rv
    exact .nil
  | cons d l ih =>
    intro xs us O hw I hp rv ⟨v, r, e, h1, h2⟩
    subst e
    cases rv with
    | cons q t =>
      obtain ⟨as, h3, _⟩ := reads_of hw I q (hp d List.mem_cons_self) h1
      exact .cons ⟨as, h3⟩ (ih hw I (fun d m => hp d (List.mem_cons_of_mem _ m)) t h2)
/-- the copy is sorted by its keys -/
theorem sorted_by {f : Str} {fa it : Addr} {fd : FuncData} {ps : List Str} {O : Addr → Prop} {l ks : List D} {xs : List V} {Q : VK} (gd : Gd X W g w n) (hu : X.A.units + 66 < cLine) (F : FnG X.prog X.w X.K X.mg X.base (L2N.CX X.prog X.w) n fa fd ps (spF g w n f)) (bd : Binds X.K fd ps []) (I : Inv X pins σ H s) (dom : Dom O H) (hp : H it = some (.lst xs)) (r : Reps w H O l xs)
    (ek : keysR (callD g n) f l = .ok ks) (so : sortOk ks = true) (q : HO1 w H O (.lst (keyed l ks)) Q) : wpAny (model X.prog X.w) X.A (call (.builtin "sorted") [.ref it] [(Str.ofString "key", .ref fa)]) (EP X pins σ Q) X.xe s := by
  have hw : w.K = X.K := gd.fx.hK
  obtain ⟨its, rv, pl, hz⟩ := I.list (SqL.of hp)
  have lxs : its.length = xs.length := rv.length.symm
  have llx : l.length = xs.length := r.length
  obtain ⟨lks, kat⟩ := keysR_at ek
  unfold sortOk at so
  simp only [Bool.and_eq_true, decide_eq_true_eq, List.all_eq_true, Bool.or_eq_true] at so
  obtain ⟨⟨so1, so2⟩, so3⟩ := so
  refine PySem.W.sorted_of_sort pl.isList (by rw [lxs]; exact hz) (ksk_s1 _ _) (fun _ => ksk_l1 _ _) fun E' => ?_
  rw [ksk_t1]
  have fa0 : FpOk X pins H (s.heap.objs.size + 1) := I.fpOk (Nat.le_succ _) (I.hok.fresh (Nat.le_succ _))
  have c0 := PySem.W.copyHeap_at s.heap its
  obtain ⟨e1, ho1⟩ : ∃ e1, ((PySem.W.copyHeap s.heap its).update (s.heap.objs.size + 1) (Obj.mapSeq fun _ => (#[] : Array Value))).get? (s.heap.objs.size + 1) = some (seqObj "list" #[] e1) := ⟨_, get?_update_seq c0 fun _ => #[]⟩
  have up1 : ∀ b o, s.heap.get? b = some o → ((PySem.W.copyHeap s.heap its).update (s.heap.objs.size + 1) (Obj.mapSeq fun _ => (#[] : Array Value))).get? b = some o := fun b o e =>
    ((Heap.SameBut.update _ _ _).2 b (Nat.ne_of_lt (Nat.lt_succ_of_lt (Heap.lt_size e)))).trans (PySem.W.copyHeap_old e)
  have sz1 : ((PySem.W.copyHeap s.heap its).update (s.heap.objs.size + 1) (Obj.mapSeq fun _ => (#[] : Array Value))).objs.size = s.heap.objs.size + 2 := by
    rw [Heap.size_update]
    unfold PySem.W.copyHeap
    rw [size_push', Heap.size_update, size_push']
  unfold ksk_tree
  refine wpAny_bind (listItems_at c0 rfl ?_)
  refine wpAny_bind (listUpdate_at c0 rfl ?_ (by rw [List.size_toArray, lxs]; exact hz) (Nat.zero_le _))
  refine wpAny_bind (seqEpoch_at ho1 rfl ?_)
  refine wpAny_bind (wpAny_newTuple ?_ (by show its.length ≤ _; rw [lxs]; exact hz))
  refine wpAny_bind (wpAny_newList ?_ (Nat.zero_le _))
  refine wpAny_holding ?_
  generalize hg1 : (PySem.W.copyHeap s.heap its).update (s.heap.objs.size + 1) (Obj.mapSeq fun _ => (#[] : Array Value)) = h1 at ho1 up1 sz1
  have kSe : (h1.push (seqObj "tuple" its.toArray 0)).objs.size = s.heap.objs.size + 3 := by rw [size_push', sz1]
  show wpAny _ _ (ksk_rest _ _ _ _ _ (.ref (h1.push (seqObj "tuple" its.toArray 0)).objs.size)) _ _ { s with heap := (h1.push (seqObj "tuple" its.toArray 0)).push (seqObj "list" #[] 0) }
  have fk0 : FpOk X pins H (s.heap.objs.size + 3) := I.fpOk (by omega) (I.hok.fresh (by omega))
  have up2 : ∀ b o, h1.get? b = some o → ((h1.push (seqObj "tuple" its.toArray 0)).push (seqObj "list" #[] 0)).get? b = some o := fun b o e => Heap.get?_push_of_some _ (Heap.get?_push_of_some _ e)
  have hkS0 : ((h1.push (seqObj "tuple" its.toArray 0)).push (seqObj "list" #[] 0)).get? (s.heap.objs.size + 3) = some (seqObj "list" #[] 0) := by rw [← kSe]; exact Heap.get?_push_size _ rfl
  rw [kSe]
  have noc : ∀ (xs : Array Value) (m : Nat) v, (seqObj "list" xs m).data ≠ .cell v := fun _ _ v z => nomatch (show Data.seq _ _ = Data.cell v from z)
  have pin : ∀ {H' : Hp} {s' : Shared} (kA : Array Value) (e : Nat), Inv X pins σ H' s' → H' (s.heap.objs.size + 1) = none → H' (s.heap.objs.size + 3) = none → s'.heap.get? (s.heap.objs.size + 3) = some (seqObj "list" kA e) → s'.heap.get? (s.heap.objs.size + 1) = some (seqObj "list" #[] e1) →
      Inv X ((s.heap.objs.size + 3, seqObj "list" kA e) :: (s.heap.objs.size + 1, seqObj "list" #[] e1) :: pins) σ H' s' := fun {H' s'} kA e I' na nk hk ha => I'.pins_of fun p hp => by
    rcases List.mem_cons.mp hp with rfl | hp
    · exact ⟨hk, nk, fk0.2.1, fk0.2.2.1, noc _ _⟩
    · rcases List.mem_cons.mp hp with rfl | hp
      · exact ⟨ha, na, fa0.2.1, fa0.2.2.1, noc _ _⟩
      · exact I'.pin p (List.mem_append_right _ hp)
  have unpin : ∀ {H' : Hp} {s' : Shared} {p1 p2 : Addr × Obj}, Inv X (p1 :: p2 :: pins) σ H' s' → Inv X pins σ H' s' := fun I' => I'.pins_of fun p hp => I'.pin p (List.mem_append_right _ (List.mem_cons_of_mem _ (List.mem_cons_of_mem _ hp)))
  unfold ksk_rest
  refine wpAny_bind (wpAny_rule ?_)
  first
    | rw [List.forIn_toArray]
    | (rw [← Array.forIn_toList]; simp only [List.toList_toArray])
  have dk : s.heap.objs.size + 3 ≠ s.heap.objs.size + 1 := by omega
  refine wpAny_bind (ksk_fold (fun i s' => ∃ H' kv kits e, Inv X ((s.heap.objs.size + 3, seqObj "list" (List.toArray kits) e) :: (s.heap.objs.size + 1, seqObj "list" #[] e1) :: pins) σ H' s' ∧ Same H H' ∧ Vals kv kits ∧ Reps w H' O (ks.take i) kv) its 0 _
    ⟨H, [], [], 0, pin _ _ (I.kept (t' := s.toks) fun b o e => up2 b o (up1 b o e)) fa0.1 fk0.1 hkS0 (up2 _ _ ho1), Same.refl H, .nil, by rw [List.take_zero]; rfl⟩ ?step ?done)
  case step =>
    rintro j v s' hv ⟨H', kv, kits, e, I', sm, rk, rr⟩
    simp only [Nat.zero_add] at rr ⊢
    have hj : j < its.length := (List.getElem?_eq_some_iff.mp hv).1
    obtain ⟨d, hd⟩ : ∃ d, l[j]? = some d := ⟨_, List.getElem?_eq_getElem (by omega)⟩
    obtain ⟨x, hx, rx⟩ := Reps.get (Reps.same sm _ _ r) hd
    obtain ⟨o, k, hk, ck⟩ := kat j d hd
    obtain ⟨v', hv', rel⟩ := rv.get hx
    have ev : v' = v := by rw [hv] at hv'; injection hv' with z; exact z.symm
    subst ev
    refine wpAny_bind (wpAny_attempt (wpAny_mono (key_turn gd F bd I' (dom.same sm) rx rel ck) (fun u s'' h => ?_) fun _ _ z => z.elim))
    obtain ⟨y, H2, I2, sm2, ry, rky⟩ := h
    obtain ⟨hkS, nk, _⟩ := I2.pin (s.heap.objs.size + 3, seqObj "list" (List.toArray kits) e) (List.mem_append_right _ List.mem_cons_self)
    obtain ⟨ha, na, _⟩ := I2.pin (s.heap.objs.size + 1, seqObj "list" #[] e1) (List.mem_append_right _ (List.mem_cons_of_mem _ List.mem_cons_self))
    have lk : kits.length ≤ its.length := by
      have h1 := rk.length
      have h2 := rr.length
      rw [List.length_take] at h2
      omega
    have sb := Heap.SameBut.update s''.heap (s.heap.objs.size + 3) (Obj.mapSeq (·.push u))
    obtain ⟨e2, hk2⟩ : ∃ e2, (s''.heap.update (s.heap.objs.size + 3) (Obj.mapSeq (·.push u))).get? (s.heap.objs.size + 3) = some (seqObj "list" ((List.toArray kits).push u) e2) := ⟨_, get?_update_seq hkS (·.push u)⟩
    refine wpAny_bind (listUpdate_at hkS rfl ?_ (by rw [List.size_toArray]; omega) (by rw [Array.size_push, List.size_toArray]; omega))
    have ea : (List.toArray kits).push u = List.toArray (kits ++ [u]) := by simp
    have ek2 : ks.take (j + 1) = ks.take j ++ [k] := by rw [List.take_add_one, hk]; rfl
    have It : Inv X pins σ H2 { s'' with heap := s''.heap.update (s.heap.objs.size + 3) (Obj.mapSeq (·.push u)), toks := s''.toks } := (unpin I2).turnedL (ch := [s.heap.objs.size + 3]) (fun b ob hb eb => (sb.2 b (fun z => hb (by simp [z]))).trans eb) fun b hb => by
      have hb : b = s.heap.objs.size + 3 := by simpa using hb
      subst hb
      exact ⟨nk, fk0.2⟩
    refine wpAny_pure ⟨rfl, H2, kv ++ [y], kits ++ [u], e2, ?_, sm.trans sm2, vals_snoc rk ry, ?_⟩
    · have := pin ((List.toArray kits).push u) e2 It na nk hk2 ((sb.2 _ dk.symm).trans ha)
      rw [ea] at this
      exact this
    · rw [ek2]
      exact reps_snoc rky (Reps.same sm2 _ _ rr)
  case done =>
    rintro s' ⟨H', kv, kits, e, I', sm, rk, rr⟩
    rw [List.take_of_length_le (by omega)] at rr
    obtain ⟨hkS, nk, _⟩ := I'.pin (s.heap.objs.size + 3, seqObj "list" (List.toArray kits) e) (List.mem_append_right _ List.mem_cons_self)
    obtain ⟨ha, na, _⟩ := I'.pin (s.heap.objs.size + 1, seqObj "list" #[] e1) (List.mem_append_right _ (List.mem_cons_of_mem _ List.mem_cons_self))
    have lk : kits.length = its.length := by
      have h1 := rk.length
      have h2 := rr.length
      omega
    have er := each_reads (l := ks) hw I' (fun d m => (so2 d m).1) rk rr
    have hal : PySem.W.AllAlike (ks.map py) := fun a ha b hb => by
      obtain ⟨p, hp, rfl⟩ := List.mem_map.mp ha
      obtain ⟨p', hp', rfl⟩ := List.mem_map.mp hb
      exact (so2 p hp).2 p' hp'
    have hsk : PySem.W.Sortable (ks.map py) := by
      rcases so3 with z | z
      · refine .inl fun a ha => ?_
        obtain ⟨p, hp, rfl⟩ := List.mem_map.mp ha
        exact py_ct _ (z p hp)
      · refine .inr fun a ha => ?_
        obtain ⟨p, hp, rfl⟩ := List.mem_map.mp ha
        exact py_nt _ (z p hp)
    have hu2 : ∀ d ∈ ks.map py, X.A.in1.in1.units + d.depth < cLine := fun d hd => by
      obtain ⟨p, hp, rfl⟩ := List.mem_map.mp hd
      have := (so2 p hp).1
      unfold plainB depth64 at this
      simp only [Bool.and_eq_true, decide_eq_true_eq] at this
      show X.A.units + 1 + 1 + (py p).depth < cLine
      omega
    refine wpAny_bind (listItems_at hkS rfl ?_)
    -- the store of the keys is taken off
    have fr := Heap.SameBut.update s'.heap (s.heap.objs.size + 3) (fun o => { o with data := .freed })
    have fr0 : (s'.heap.update (s.heap.objs.size + 3) (fun o => { o with data := .freed })).get? (s.heap.objs.size + 3) = none := by
      have h1 := ((Heap.get?_eq_some _ _ _).mp hkS).1
      unfold Heap.get?
      rw [Heap.objs_update_self, h1]
      rfl
    refine PySem.W.keyH_end (κ := PySem.W.dataKind s'.heap (ks.map py)) (h₁ := s'.heap.update (s.heap.objs.size + 3) (fun o => { o with data := .freed })) (vs := its) (fun b o _ hb => ?_) fr0 hkS ha dk (show PySem.W.SortsAt X.prog X.w X.A.in1.in1 s' (PySem.W.dataKind s'.heap (ks.map py)) (List.toArray kits).toList from by rw [List.toList_toArray]; exact PySem.W.SortsAt.data er hal hsk hu2) (by rw [List.size_toArray]; exact lk) (by rw [lxs]; exact hz) fun h3 tk3 c k3 n3 => ⟨rfl, ?_⟩
    · by_cases hb2 : b = s.heap.objs.size + 3
      · rw [hb2, fr0] at hb; cases hb
      · exact (fr.2 b hb2).symm.trans hb
    have kp3 : ∀ b o, b ∉ [s.heap.objs.size + 1, s.heap.objs.size + 3] → s'.heap.get? b = some o → h3.get? b = some o := fun b o hb eb =>
      k3 b o (fun z => hb (by simp [z])) ((fr.2 b (fun z => hb (by simp [z]))).trans eb)
    have I3 : Inv X pins σ H' { s' with heap := h3, toks := tk3 } := (unpin I').turnedL (ch := [s.heap.objs.size + 1, s.heap.objs.size + 3]) kp3 fun b hb => by
      have hb : b = s.heap.objs.size + 1 ∨ b = s.heap.objs.size + 3 := by simpa using hb
      rcases hb with rfl | rfl
      · exact ⟨na, fa0.2⟩
      · exact ⟨nk, fk0.2⟩
    -- what the list then holds
    rw [List.toList_toArray] at n3
    have ko : PySem.W.KeyedOut false (ks.map py) its (PySem.W.sortVals (PySem.W.dataKind s'.heap (ks.map py)) false kits its) := ⟨s'.heap, kits, hal, rfl, er⟩
    have hz1 : (l.zip ks).length = xs.length := by rw [List.length_zip]; omega
    have em : ((l.zip ks).zip xs).map (fun b => py b.1.2) = ks.map py := by
      have z1 : ((l.zip ks).zip xs).map (fun b => py b.1.2) = (((l.zip ks).zip xs).map (·.1)).map fun p => py p.2 := by rw [List.map_map]; rfl
      rw [z1, List.map_fst_zip (by omega)]
      have z2 : (l.zip ks).map (fun p => py p.2) = ((l.zip ks).map (·.2)).map py := by rw [List.map_map]; rfl
      rw [z2, List.map_snd_zip (by omega)]
    have eo : PySem.W.EachIs (fun u (b : (D × D) × V) => RelV b.2 u) its ((l.zip ks).zip xs) := by
      have gen : ∀ {xs : List V} {us : List Value}, Vals xs us → ∀ {ps : List (D × D)}, ps.length = xs.length → PySem.W.EachIs (fun u (b : (D × D) × V) => RelV b.2 u) us (ps.zip xs) := fun {xs us} h => by
        induction h with
        | nil => intro ps hl; cases ps <;> first | exact .nil | simp at hl
        | cons q _ ih =>
          intro ps hl
          cases ps with
          | nil => simp at hl
          | cons p ps => exact .cons q (ih (by simpa using hl))
      exact gen rv hz1
    rw [← em] at ko
    have fin := PySem.W.keyedOut_each (fun b : (D × D) × V => py b.1.2) ko eo
    rw [em] at fin
    generalize hbs : ((l.zip ks).zip xs).mergeSort (PySem.W.dataLe false fun b : (D × D) × V => py b.1.2) = bs at fin
    have vf : Vals (bs.map (·.2)) (PySem.W.sortVals (PySem.W.dataKind s'.heap (ks.map py)) false kits its) := by
      have gen : ∀ {us : List Value} {bs : List ((D × D) × V)}, PySem.W.EachIs (fun u (b : (D × D) × V) => RelV b.2 u) us bs → Vals (bs.map (·.2)) us := fun h => by
        induction h with
        | nil => exact .nil
        | cons q _ ih => exact .cons q ih
      exact gen fin
    have mem : ∀ b ∈ (l.zip ks).zip xs, Rep w H O b.1.1 b.2 := by
      have gen : ∀ {l ks : List D} {xs : List V}, ks.length = l.length → Reps w H O l xs → ∀ b ∈ (l.zip ks).zip xs, Rep w H O b.1.1 b.2 := fun {l} => by
        induction l with
        | nil => intro ks xs hl hr b hb; simp at hb
        | cons d l ih =>
          intro ks xs hl ⟨v, r, e, h1, h2⟩ b hb
          subst e
          cases ks with
          | nil => simp at hl
          | cons k ks =>
            rw [List.zip_cons_cons, List.zip_cons_cons] at hb
            rcases List.mem_cons.mp hb with rfl | hb
            · exact h1
            · exact ih (by simpa using hl) h2 b hb
      exact gen lks r
    have rf : Reps w H O (keyed l ks) (bs.map (·.2)) := by
      have z : keyed l ks = bs.map (·.1.1) := by
        unfold keyed
        have z1 := List.map_mergeSort (r := PySem.W.dataLe false fun b : (D × D) × V => py b.1.2) (s := fun p q : D × D => leD p.2 q.2) (f := fun b : (D × D) × V => b.1) (l := (l.zip ks).zip xs) (fun a _ b _ => rfl)
        rw [List.map_fst_zip (by omega), hbs] at z1
        rw [← z1, List.map_map]
        rfl
      rw [z]
      have gen : ∀ {bs : List ((D × D) × V)}, (∀ b ∈ bs, Rep w H O b.1.1 b.2) → Reps w H O (bs.map (·.1.1)) (bs.map (·.2)) := fun {bs} => by
        induction bs with
        | nil => intro _; rfl
        | cons b bs ih => intro h; exact ⟨b.2, _, rfl, h b List.mem_cons_self, ih fun c m => h c (List.mem_cons_of_mem _ m)⟩
      exact gen fun b hb => mem b (by rw [← hbs] at hb; exact List.mem_mergeSort.mp hb)
    have lf : (bs.map (·.2)).length ≤ sizeLine := by
      rw [List.length_map, ← hbs, List.length_mergeSort, List.length_zip]
      omega
    have nO : ¬ O (s.heap.objs.size + 1) := dom.free fa0.1
    have smf : Same H (upd H' (s.heap.objs.size + 1) (.lst (bs.map (·.2)))) := sm.trans (same_new na)
    have rf2 := Reps.same smf _ _ rf
    have If : Inv X pins σ (upd H' (s.heap.objs.size + 1) (.lst (bs.map (·.2)))) { s' with heap := h3, toks := tk3 } :=
      I3.take (h' := h3) (t' := tk3) (fun b ob _ e => e) ⟨na, fa0.2⟩ ⟨lf, _, c, vf, n3⟩
    refine ⟨.ref (s.heap.objs.size + 1), _, If, rfl, q _ _ smf ⟨⟨_, _, rfl, upd_same, nO, rf2⟩, ?_⟩⟩
    exact ⟨_, rfl, fa0.1, rfl, _, _, rfl, upd_same, Reps.wide (fun b z => z.imp id fun z => by rw [z]; exact fa0.1) _ _ rf |> Reps.same smf _ _⟩
/-- sorted(a, key=f) -/
theorem sE_srk {a : Expr} {ia : E} {f : Str} {p p2 kp pos : Pos} (gd : Gd X W g w n) (hu : X.A.units + 66 < cLine) (hg : Gl X "sorted") (hr : g.fr "sorted" = true) (hgf : Gl X f) (hd : (f == ("__debug__" : Str)) = false) (hf : g.top f = true) (ha : PE X a (tE g (cal g n) w W ia)) (hs : starEach [a] X.env = (false, eval a X.env) :: starEach [] X.env) :
    PE X (.Call (.Name "sorted" p) [a] [⟨some "key", .Name f p2, kp⟩] pos) (tE g (cal g n) w W (.srk ia f)) := by
  obtain ⟨fa, fd, ps, hm, hk, hb, F⟩ := (gd.lv rfl).fn f hf
  have cr : CallRK X (.builtin "sorted") [Str.ofString "key"] (fun vs zs H Q => ∃ it xs O l ks, vs = [V.ref it] ∧ zs = [V.ref fa] ∧ Dom O H ∧ H it = some (.lst xs) ∧ Reps w H O l xs ∧ keysR (callD g n) f l = .ok ks ∧ sortOk ks = true ∧ HO1 w H O (.lst (keyed l ks)) Q) := by
    intro pins s σ H xs zs us ws Q I r rz ⟨it, ys, O, l, ks, e1, e2, dom, hp, rr, ek, so, q⟩
    subst e1 e2
    obtain ⟨u, rfl, ru⟩ := vals1 r
    cases (show u = Value.ref it from ru)
    obtain ⟨v, rfl, rw_⟩ := vals1 rz
    cases (show v = Value.ref fa from rw_)
    exact sorted_by gd hu F hb I dom hp rr ek so q
  refine PE.imp (pe_callBK cr hg (gd.fx.free _ hr) (by rfl) (pa_cons ha pa_nil hs) (pk_cons (pe_glob (v := .ref fa) hgf hm rfl hd) pk_nil) (by decide) (by decide) (by rw [hs]; rfl) (by rw [hs]; rfl)) fun σ H Q ⟨env, O, dom, en, h⟩ => ?_
  refine one_in (is := []) rV_ok dom (by rw [List.append_nil]; exact en) h fun v x H1 d1 e1 r1 s1 h1 => ?_
  obtain ⟨o, d⟩ := v
  cases d with
  | lst l =>
    have h1 : fR w W σ O (rV w O) H1 ((keysR (callD g n) f l).tame.bind fun ks => if sortOk ks = true then .ok (.o1, .lst (keyed l ks)) else .no) Q := h1
    obtain ⟨ks, ek, h1⟩ := h1.tame
    split at h1
    · rename_i so
      obtain ⟨p', vs, rfl, hp, _, rr⟩ := r1.1
      exact ⟨p', vs, O, l, ks, rfl, rfl, d1, hp, rr, ek, so, fun z H' s q => h1 z H' s q⟩
    · exact h1.elim
  | _ => exact h1.elim
end
end S2

set_option maxHeartbeats 4000000
/-! S2lh: sum([int(m) for m in marks]) in an except suite. -/
namespace S2
open PySem PySem.Spec PyProof.Rows L2

section
variable {prog : Program} {w : World} {A : Around} {E : Value → Shared → Prop} {s : Shared}
/-- a list's iterator at its end, an exception being handled -/
theorem nl_end {it l x1 : Addr} {i : Nat} {items : Array Value} {Q : Option Value → Shared → Prop} (hot : HotX.HotAt A x1 s.heap) (hit : s.heap.IsListIter it l i) (hl : s.heap.IsList l items) (hx : items[i]? = none)
    (done : ∀ h', Heap.ExtBut it s.heap h' → Q none { s with heap := h' }) : wpAny (model prog w) A (pyNext (.ref it)) Q E s := by
  obtain ⟨oi, hoi, hci, hdi⟩ := id hit
  obtain ⟨ol, hol, _, nl, hdl⟩ := hl
  obtain ⟨hh, o1, vs1, h1, d1, c1⟩ := hot
  have ne : x1 ≠ it := fun z => by
    subst z
    rw [h1] at hoi
    cases hoi
    rw [hdi] at d1
    cases d1
    simp at c1
  unfold pyNext
  refine wpAny_bind (wpAny_attempt (wpAny_callSpecial?_slot (name := Str.ofString "__next__") hit.typeIs slot_listiter_next (wpAny_call_entry slot_listiter_next hit.typeIs entry_listiter_next ?_ (args_listiter_next _))))
  show wpAny _ _ (field (.ref it) 0 >>= _) _ _ _
  refine wpAny_bind (wpAny_field hoi hdi (x := .ref l) rfl ?_)
  show wpAny _ _ (if (Value.ref l == Value.none) = true then _ else _) _ _ _
  refine PySem.W.KFB.if_not rfl ?_
  show wpAny _ _ (field (.ref it) 1 >>= _) _ _ _
  refine wpAny_bind (wpAny_field hoi hdi (x := .int i 0) rfl ?_)
  show wpAny _ _ (seqItems? (.ref l) >>= _) _ _ _
  refine wpAny_bind (wpAny_seqItems hol hdl ?_)
  simp only [hx, Int.toNat_natCast]
  refine wpAny_bind (wpAny_rule (wpAny_bind (wpAny_setField hoi hdi (by simp) ?_)))
  generalize hu : s.heap.update it _ = hp
  have k1 : hp.get? x1 = some o1 := by rw [← hu, Heap.get?_update_other _ _ (Ne.symm ne)]; exact h1
  show wpAny _ _ (newExc (.type "StopIteration") [] >>= _) _ _ _
  refine wpAny_bind ?_
  simp only [newExc, newTuple]
  refine wpAny_bind (wpAny_newObj_type (wpAny_bind (m := firstArgMember _ _) (wpAny_of_eq (a := Value.none) (by first | rfl | (simp only [firstArgMember]; rfl)) (wpAny_newObj_type ?_ (by size_fits)))) (by size_fits))
  have k2 := Heap.get?_push_of_some { cls := .type "tuple", data := .seq #[] } k1
  refine HotX.raiseNew_hot (x1 := x1) ⟨hh, o1, vs1, Heap.get?_push_of_some _ (Heap.get?_push_of_some _ k1), d1, c1⟩ (Nat.ne_of_lt (Heap.lt_size (Heap.get?_push_of_some _ k1))) (Heap.get?_push_size _ rfl) rfl (by first | (simp; done) | (simp; omega) | (simp only [Array.size_append]; simp; omega)) ?_
  refine wpAny_bind (wpAny_isInstance (T := "StopIteration") (b := true) ⟨_, Heap.get?_update_self _ (Heap.get?_push_size _ rfl) rfl, rfl⟩ isSubtype_stop ?_)
  refine wpAny_pure (done _ fun b o hb e => ?_)
  have e1 : hp.get? b = some o := by rw [← hu, Heap.get?_update_other _ _ (Ne.symm hb)]; exact e
  rw [Heap.get?_update_other _ _ (Nat.ne_of_gt (Heap.lt_size (Heap.get?_push_of_some _ e1)))]
  exact Heap.get?_push_of_some _ (Heap.get?_push_of_some _ e1)
/-- the walk along a list, an exception being handled: its object stays -/
theorem walks_hot {x1 : Addr} {o1 : Obj} {vs1 : Array Value} (hh : A.handled = some (.ref x1)) (d1 : o1.data = .fields vs1) (c1 : vs1[2]? = some .none) (it l : Addr) (ne : l ≠ it) (items : Array Value) :
    Walks prog w A it [it, l, x1] [it] items.size (fun i v => items[i]? = some v) (fun i h => h.IsListIter it l i ∧ h.IsList l items ∧ h.get? x1 = some o1 ∧ x1 ≠ it) where
  sub := fun b hb => by
    cases List.mem_singleton.mp hb
    exact List.mem_cons_self
  frame := fun _ _ _ ⟨s1, s2, s3, s4⟩ hk => ⟨s1.at fun o e => hk it (by simp) o e, s2.at fun o e => hk l (by simp) o e, hk x1 (by simp) _ s3, s4⟩
  item := fun i s Q E hi ⟨s1, s2, s3, s4⟩ hQ => wpAny_pyNext_list_item s1 s2 (x := items[i]) (by simp [hi]) fun h' hit' hs' =>
    hQ _ h' s.toks (by simp [hi]) ⟨hit', s2.extBut hs'.extBut ne, hs'.extBut x1 _ s4 s3, s4⟩ fun b o hb e => hs'.extBut b o (fun z => hb (by simp [z])) e
  done := fun s Q E ⟨s1, s2, s3, s4⟩ hQ => nl_end ⟨hh, o1, vs1, s3, d1, c1⟩ s1 s2 (by simp) fun h' he' => hQ h' s.toks fun b o hb e => he' b o (fun z => hb (by simp [z])) e
  self := fun _ _ _ _ st hQ => wpAny_pyIter_listiter st.1 hQ
/-- sum(xs), xs a list of ints, an exception being handled -/
theorem sum_hot {l x1 : Addr} {its : List Value} {ns : List Int} {Q : Value → Shared → Prop} (hot : HotX.HotAt A x1 s.heap) (hl : s.heap.IsList l its.toArray) (hi : IntsAre its ns)
    (h : ∀ h' tk t', (∀ b o, s.heap.get? b = some o → h'.get? b = some o) → Q (.int ns.sum t') { s with heap := h', toks := tk }) : wpAny (model prog w) A (call (.builtin "sum") [.ref l]) Q E s := by
  obtain ⟨hh, o1, vs1, g1, d1, c1⟩ := hot
  obtain ⟨xs, ex⟩ := hi.allInts.items
  have hn : numsOf (intItems xs).toList = ns := by rw [← ex]; exact hi.numsOf
  rw [nums_intItems] at hn
  rw [ex] at hl
  have hne : x1 ≠ s.heap.objs.size := Nat.ne_of_lt (Heap.lt_size g1)
  refine call_sum_walkG (iter_intList hl fun s₂ e st hfp hlI => ?_)
  subst e
  refine ⟨_, _, _, _, _, _, numAt xs, rfl, walks_hot (A := A.in1) (o1 := o1) hh d1 c1 _ l hlI (intItems xs), ⟨st.1, st.2, Heap.get?_push_of_some _ g1, hne⟩, fun b hb => ?_, (fun _ _ => intItems_at), fun h' tk t' hk => ?_⟩
  · rcases List.mem_cons.mp hb with z | z
    · exact hfp b (by rw [z]; exact List.mem_cons_self)
    · rcases List.mem_cons.mp z with z | z
      · exact hfp b (by rw [z]; simp)
      · cases List.mem_singleton.mp z
        exact Heap.lt_size (Heap.get?_push_of_some _ g1)
  · have q := h h' tk t' (old_kept hk)
    have e1 : (intItems xs).size = xs.size := by simp [intItems]
    rw [e1, preSum_eq, List.take_of_length_le (by simp), hn]
    exact q
end
section
variable {X : Cx} {pins : List (Addr × Obj)} {σ : L2.St} {H : Hp} {s : Shared}
def bI (b : Bool) : Int := if b = true then 1 else 0
/-- the block's invariant at the turn i -/
structure HInv (Y : Cx) (σ : L2.St) (H : Hp) (D it a : Addr) (bs : List Bool) (i : Nat) (s : Shared) : Prop where
  inv : Inv Y [] σ (upd H D (.lst ((bs.take i).map fun b => V.int (bI b)))) s
  st : s.heap.IsListIter it a i
  le : i ≤ bs.length
theorem lcH {elt tg iter : Expr} {scope : Scope} {own : List (Str × Nat)} {pos : Pos} {a : Addr} {bs : List Bool} {j : Nat} {Q : VK} (hot : L2H.HotC X) (hN : X.N.Nodup) (I : Inv X pins σ H s) (sq : SqL X.K H a (bs.map V.bl)) (hz : bs.length < sizeLine)
    (hi : ∀ {R : Value → Shared → Prop}, (∀ s', Inv X pins σ H s' → R (.ref a) s') → wpAny (model X.prog X.w) X.A (eval iter X.env) R X.xe s)
    (ok : BlkOk X.N X.env.scope scope own) (own1 : own.map (·.2) = [j])
    (hg : ∀ (s : Shared) (H : Hp) (C : Addr) (cl : List (Str × Addr)) (fp : List Addr), PG (X.blk s H scope (compEnvC scope cl C X.env) fp) tg (gName j))
    (he : ∀ (s : Shared) (H : Hp) (C : Addr) (cl : List (Str × Addr)) (fp : List Addr), PE (X.blk s H scope (compEnvC scope cl C X.env) fp) elt (fun σ H Q => ∃ b, σ[j]? = some (some (V.bl b)) ∧ Q (.int (bI b)) H))
    (hj : j < X.N.length) (hlen : σ.length = X.N.length) (hs : ∀ x, foldedSetIterable iter X.env x = pure x)
    (fin : ∀ D, H D = none → Q (.ref D) (upd H D (.lst (bs.map fun b => V.int (bI b))))) :
    wpAny (model X.prog X.w) X.A (eval (.ListComp elt [⟨tg, iter, [], 0⟩] scope pos) X.env) (EP X pins σ Q) X.xe s := by
  rw [eval_ListComp]
  have frees : ∀ y ∈ scope.names, y.2 = .free → ∃ c, X.env.cells.lookup y.1 = some c := fun y hy e => (ok.free y hy e).elim (fun k => I.ok.has _ (.inl k)) fun k => I.ok.has _ (.inr k)
  refine wpAny_comprehension_free (use := none) rfl hs (closure_ok frees) ok.kind (fun y hy e => (ok.uniq y hy).trans (by rw [e])) (hi fun s1 I1 => ?_)
  obtain ⟨its, rv, p, hz2⟩ := I1.list sq
  have hln : bs.length = its.length := by rw [← rv.length, List.length_map]
  refine wpAny_pyIter_list p.isList ?_
  generalize hit : s1.heap.objs.size = it
  generalize hs2 : ({ s1 with heap := s1.heap.push { cls := .type "list_iterator", data := .fields #[.ref a, .int 0 0] } } : Shared) = s2
  have h2 : s2.heap = s1.heap.push { cls := .type "list_iterator", data := .fields #[.ref a, .int 0 0] } := by rw [← hs2]
  have I2 : Inv X pins σ H s2 := by rw [← hs2]; exact I1.kept (t' := s1.toks) fun b o e => Heap.get?_push_of_some _ e
  have f2 : FpOk X pins H it := by
    have := I1.fpOk (H' := H) (b := s1.heap.objs.size) (Nat.le_refl _) (I1.hok.fresh (Nat.le_refl _))
    rw [hit] at this; exact this
  have st2 : s2.heap.IsListIter it a 0 := ⟨_, by rw [h2, ← hit]; exact Heap.get?_push_size _ rfl, rfl, rfl⟩
  refine wpAny_newObj_type (newEnv_comp ?_) (by show 0 ≤ sizeLine; decide)
  generalize hD : s2.heap.objs.size = D
  have nD : H D = none := I2.hok.fresh (Nat.le_of_eq hD)
  generalize hs3 : ({ s2 with heap := s2.heap.push { cls := .type "list", data := .seq ([] : List Value).toArray } } : Shared) = s3
  have h3 : s3.heap = s2.heap.push { cls := .type "list", data := .seq ([] : List Value).toArray } := by rw [← hs3]
  have I3 : Inv X pins σ (upd H D (.lst [])) s3 := by
    rw [← hs3]
    refine I2.laid (t' := s2.toks) (fun b o e => Heap.get?_push_of_some _ e) (Nat.le_of_eq hD) ⟨Nat.zero_le _, [], 0, .nil, ?_⟩
    rw [← hD]
    exact Heap.get?_push_size _ rfl
  have itD : it ≠ D := fun z => by
    obtain ⟨o, e, _⟩ := st2
    have := Heap.lt_size e
    rw [hD, z] at this
    exact Nat.lt_irrefl _ this
  have st3 : s3.heap.IsListIter it a 0 := st2.at fun o e => by rw [h3]; exact Heap.get?_push_of_some _ e
  have f3 : ∀ b ∈ [it], FpOk X pins (upd H D (.lst [])) b ∧ b < s3.heap.objs.size := fun b hb => by
    cases List.mem_singleton.mp hb
    obtain ⟨o, e, _⟩ := st3
    exact ⟨⟨by rw [upd_ne itD]; exact f2.1, f2.2⟩, Heap.lt_size e⟩
  have I4 := block_start I3 ok hN f3
  have pg := hg s3 (upd H D (.lst [])) s3.heap.objs.size (cellsFrom (s3.heap.objs.size + 1) scope.names (cloFrom X.env.cells scope.names [])) [it]
  have pe := he s3 (upd H D (.lst [])) s3.heap.objs.size (cellsFrom (s3.heap.objs.size + 1) scope.names (cloFrom X.env.cells scope.names [])) [it]
  show codeAny _ _ (.compStart (.ListComp elt [⟨tg, iter, [], 0⟩] scope pos) 0 (.ref it) (.ref D) (compEnvC scope (cellsFrom (s3.heap.objs.size + 1) scope.names (cloFrom X.env.cells scope.names [])) s3.heap.objs.size X.env)) (compPost (model X.prog X.w) X.A X.xe none (EP X pins σ Q) (.ref D) s3.heap.objs.size) { s3 with heap := pushCells (s3.heap.push { cls := .type "dict", data := .dict #[] }) scope.names }
  rw [own1] at I4
  generalize hce : compEnvC scope (cellsFrom (s3.heap.objs.size + 1) scope.names (cloFrom X.env.cells scope.names [])) s3.heap.objs.size X.env = ce at I4 pg pe ⊢
  have cL : ce.locals = s3.heap.objs.size := by subst hce; rfl
  generalize hs4 : ({ s3 with heap := pushCells (s3.heap.push { cls := .type "dict", data := .dict #[] }) scope.names } : Shared) = s4 at I4 ⊢
  have st4 : s4.heap.IsListIter it a 0 := st3.at fun o e => by rw [← hs4]; exact pushCells_keeps _ _ _ _ (Heap.get?_push_of_some _ e)
  have aD : ∀ u, SqL X.K (upd H D u) a (bs.map V.bl) := fun u => by
    rcases sq with (q | ⟨o, q⟩) | q
    · exact .inl (.inl (by rw [upd_ne (fun z => by rw [z, nD] at q; cases q)]; exact q))
    · exact .inl (.inr ⟨o, by rw [upd_ne (fun z => by rw [z, nD] at q; cases q)]; exact q⟩)
    · exact .inr q
  have fpo : ∀ {σ' : L2.St} {H' : Hp} {s' : Shared}, Inv (X.blk s3 (upd H D (.lst [])) scope ce [it]) [] σ' H' s' → H' it = none → FpOk (X.blk s3 (upd H D (.lst [])) scope ce [it]) [] H' it := fun {σ' H' s'} I' hn =>
    have mi : it ∈ [it] := List.mem_singleton.mpr rfl
    ⟨hn, (I'.ok.exf it mi).1, I'.ok.exfs it mi, .inl mi, fun x c e => (I'.ok.exf it mi).2 x c e, fun p hp => absurd (show p ∈ ([] : List (Addr × Obj)) ++ [] from hp) (by simp)⟩
  have itn : ∀ u, (upd H D u) it = none := fun u => by rw [upd_ne itD]; exact f2.1
  have loop : codeAny (model X.prog X.w) X.A (.compLoop (.ListComp elt [⟨tg, iter, [], 0⟩] scope pos) 0 (.ref it) (.ref D) ce) (compPost (model X.prog X.w) X.A X.xe none (EP X pins σ Q) (.ref D) s3.heap.objs.size) s4 := by
    refine compLoop_any (fun n s' => ∃ i, n = bs.length - i ∧ HInv (X.blk s3 (upd H D (.lst [])) scope ce [it]) (wipe σ [j]) H D it a bs i s') ?_ bs.length ⟨0, by omega, ⟨I4, st4, Nat.zero_le _⟩⟩
    rintro n s5 ⟨i, rfl, I5, st5, le5⟩
    obtain ⟨its5, rv5, p5, _⟩ := I5.list (aD _)
    have e5 : its5.length = bs.length := by rw [← rv5.length, List.length_map]
    obtain ⟨f0, f1, f4, f5, f6, f7⟩ := fpo I5 (itn _)
    by_cases hlt : i < bs.length
    · obtain ⟨u, hu, ru⟩ := rv5.get (show (bs.map V.bl)[i]? = some (V.bl bs[i]) by rw [List.getElem?_map, List.getElem?_eq_getElem hlt]; rfl)
      refine wpAny_pyNext_list_item st5 p5.isList (x := u) (by simpa using hu) fun h' st' sb => ?_
      have I6 : Inv (X.blk s3 (upd H D (.lst [])) scope ce [it]) [] (wipe σ [j]) (upd H D (.lst ((bs.take i).map fun b => V.int (bI b)))) { s5 with heap := h' } := I5.turned (t' := s5.toks) (fun b o hb e => (sb.2 b hb).trans e) f0 f1 f5 f6 f7
      obtain ⟨o6, e6, c6, d6⟩ := id st'
      refine go_of (s := { s5 with heap := h' }) e6 c6 d6 (by decide) ?_
      have I7 := I6.pinned (fp := [it]) (fun b hb => by cases List.mem_singleton.mp hb; exact fpo I6 (itn _)) (fun b hb => by
        cases List.mem_singleton.mp hb
        exact ⟨o6, e6, fun v z => by rw [d6] at z; cases z⟩)
      refine thnF (pg.run _ { s5 with heap := h' } _ _ (V.bl bs[i]) u (fun σ' H' => σ' = (wipe σ [j]).set j (some (V.bl bs[i])) ∧ H' = upd H D (.lst ((bs.take i).map fun b => V.int (bI b)))) I7 ru ⟨rfl, rfl⟩) fun _ s8 ⟨σ8, H8, I8, e8, eh8⟩ => ?_
      subst e8 eh8
      refine wpAny_tests_nil ?_
      simp only [if_true]
      have hj' : j < (wipe σ [j]).length := by rw [wipe_length, hlen]; exact hj
      refine thnF (pe.run _ s8 _ _ (fun v H' => v = V.int (bI bs[i]) ∧ H' = upd H D (.lst ((bs.take i).map fun b => V.int (bI b)))) I8 ⟨bs[i], List.getElem?_set_self hj', rfl, rfl⟩) fun z s10 ⟨yv, H10, I10, r10, ev, eh⟩ => ?_
      subst ev eh
      refine app_ok (X := X.blk s3 (upd H D (.lst [])) scope ce [it]) I10 upd_same (by rw [List.length_map, List.length_take]; omega) r10 fun s11 I11 => ⟨bs.length - (i + 1), by omega, i + 1, rfl, ?_⟩
      have pin := I11.pin (it, o6) (List.mem_append_right _ (List.mem_append_right _ (mem_pinsAt (List.mem_singleton.mpr rfl) e6)))
      have eq1 : upd (upd H D (.lst ((bs.take i).map fun b => V.int (bI b)))) D (.lst ((bs.take i).map (fun b => V.int (bI b)) ++ [.int (bI bs[i])])) = upd H D (.lst ((bs.take (i + 1)).map fun b => V.int (bI b))) := by
        have : bs.take (i + 1) = bs.take i ++ [bs[i]] := by rw [List.take_succ, List.getElem?_eq_getElem hlt]; rfl
        rw [this, List.map_append]
        funext b
        by_cases hb : b = D
        · subst hb; rw [upd_same, upd_same]; rfl
        · rw [upd_ne hb, upd_ne hb, upd_ne hb]
      rw [eq1] at I11
      refine ⟨(I11.unpinned (pins := [])).weak (by simp [List.length_set]) (fun k v e => ?_), st'.at fun o e => by rw [show o = o6 from Option.some.inj (e.symm.trans e6)]; exact pin.1, hlt⟩
      by_cases hk : k = j
      · subst hk
        have := (wipe_some e).2
        exact absurd (List.mem_singleton.mpr rfl) this
      · rw [List.getElem?_set_ne (Ne.symm hk)]; exact e
    · have ei : i = bs.length := by omega
      subst ei
      obtain ⟨p, ⟨hh, v1, d1, c1⟩, hp⟩ := hot
      obtain ⟨P1, P2, P3, P4, _⟩ := I3.pin p (List.mem_append_left _ hp)
      have nit : p.1 ∉ [it] := fun z => by
        have z := List.mem_singleton.mp z
        obtain ⟨o, e, _, d⟩ := st3
        rw [← z, P1] at e
        cases e
        rw [d] at d1
        cases d1
        simp at c1
      have g := I5.base.keep p.1 p.2 P1 P2 (fun z => (I3.stkSub _ z |> List.mem_cons.mp).elim P3 P4) nit
      refine nl_end (x1 := p.1) ⟨hh, p.2, v1, g, d1, c1⟩ st5 p5.isList (by simp; omega) fun h' eb => ?_
      have I6 : Inv (X.blk s3 (upd H D (.lst [])) scope ce [it]) [] (wipe σ [j]) (upd H D (.lst ((bs.take bs.length).map fun b => V.int (bI b)))) { s5 with heap := h' } := I5.turned (t' := s5.toks) (fun b o hb e => eb b o hb e) f0 f1 f5 f6 f7
      rw [List.take_length] at I6
      have I7 : Inv X pins σ (upd H D (.lst (bs.map fun b => V.int (bI b)))) { s5 with heap := h' } := I3.call' (ch := [it]) I6.os I6.base I6.hok I6.bare fun b hb => ⟨(f3 b hb).1.2.2.2.1, (f3 b hb).1.2.1, (f3 b hb).1.2.2.2.2.1, (f3 b hb).1.2.2.2.2.2⟩
      have nC : upd H D (.lst (bs.map fun b => V.int (bI b))) s3.heap.objs.size = none := by
        have z : upd H D (.lst (bs.map fun b => V.int (bI b))) ce.locals = none := I6.free
        rwa [cL] at z
      obtain ⟨m, hn, _⟩ := I6.loc
      have hn : h'.Ns ce.locals m := hn
      rw [cL] at hn
      obtain ⟨q0, q1, q2, q3, q4, q5⟩ := I3.fpOk (Nat.le_refl _) nC
      exact ⟨m, hn, fun h'' sb => ⟨.ref D, _, I7.turned (t' := s5.toks) (fun b o hb e => (sb.2 b hb).trans e) q0 q1 q3 q4 q5, rfl, fin D nD⟩⟩
  exact codeAny_compStart_list loop (wpAny_pyIter_listiter st4 loop)
end
end S2

set_option maxHeartbeats 4000000
/-! S2m: the check of the IR against the text, and its soundness. -/
namespace S2
open PySem PySem.Spec PyProof.Rows L2

def nmB1 (x : Str) : Bool := !(x == ("__debug__" : Str))
def nmB2 (x : Str) : Bool := !(x == ("__debug__" : Str)) && !(x == ("__classdict__" : Str))
def vrB (N : List Str) (sc : Scope) (i : Nat) (x : Str) : Bool := decide (N[i]? = some x) && visB sc x && nmB2 x
def nxt (op : BoolOp) (y : Expr) (rest : List Expr) (pos : Pos) : Expr := match rest with
  | [] => y
  | _ => .BoolOp op (y :: rest) pos
def isVar : E → Bool
  | .var _ => true
  | _ => false
def tgOwn : Tg → Expr → List (Str × Nat)
  | .nm i, .Name x _ => [(x, i)]
  | .tp is, .Tuple es _ _ => (es.filterMap fun e => match e with | .Name x _ => some x | _ => none).zip is
  | _, _ => []
/-- what a method is asked of here: a name, or a field of one -/
def okRc : Expr → Bool
  | .Call _ _ _ _ => false
  | _ => true
def bmN : Bm → Str
  | .index => "index" | .upper => "upper" | .split => "split" | .six => "index" | _ => "_"
def bmA : Bm → List Expr → Bool
  | .upper, [] => true
  | .split, [_] => true
  | .index, [_] => true
  | .six, [_] => true
  | _, _ => false
/-- a literal -/
def okLi (i : Int) : Expr → Bool
  | .Constant (.int c) _ _ => decide (i = c)
  | _ => false
def okLn : Expr → Bool
  | .Constant .none _ _ => true
  | _ => false
def okL : E → Expr → Bool
  | .int i, e => okLi i e
  | .non, e => okLn e
  | _, _ => false
def hsmB (g : G) (N : List Str) (hot : Bool) (i j : Nat) (sc : Scope) (e : Expr) : Bool := match e with
    | .Call (.Name s1 _) [.ListComp (.Call (.Name s2 _) [.Name m1 _] [] _) [⟨.Name m2 _, .Name x _, [], as⟩] scope _] [] _ => hot && decide (as = 0) && decide (s1 = "sum") && glB sc "sum" && g.fr "sum" && decide (s2 = "int") && glB (relS scope sc) "int" && g.fr "int" && decide (m1 = m2) &&
      decide (N[j]? = some m2) && blkC N sc scope [(m2, j)] && locB (relS scope sc) m2 && locB scope m2 && visB (relS scope sc) m2 && nmB2 m2 && vrB N sc i x
    | _ => false
def hcallB (g : G) (N : List Str) (hot : Bool) (f : Str) (i : Nat) (sc : Scope) (e : Expr) : Bool := match e with | .Call (.Name y _) [.Name x _] [] _ => hot && decide (y = f) && glB sc f && nmB1 f && g.hf f && vrB N sc i x | _ => false
/-- sorted(y, key=k) -/
def srkP : Expr → Option (Str × Expr × Str × Str)
  | .Call (.Name s _) [y] [⟨some kn, .Name k _, _⟩] _ => some (s, y, kn, k)
  | _ => none
def meB : Expr → Bool
  | .Name _ _ => true
  | .Subscript _ _ _ => true
  | _ => false
mutual
def okE (g : G) (N : List Str) (hot : Bool) : E → Scope → Expr → Bool
  | .non, _, e => match e with | .Constant .none _ _ => true | _ => false
  | .bl b, _, e => match e with | .Constant (.bool c) _ _ => b == c | _ => false
  | .int i, _, e => match e with | .Constant (.int c) _ _ => decide (i = c) | _ => false
  | .str s, _, e => match e with | .Constant (.str c) _ _ => decide (s = c) | _ => false
  | .var i, sc, e => match e with | .Name x _ => vrB N sc i x | _ => false
  | .g x, sc, e => match e with | .Name y _ => decide (x = y) && glB sc x && nmB1 x && (g.con x).isSome | _ => false
  | .bin o a b, sc, e => match e with | .BinOp l op r _ => decide (op = opOf o) && okE g N hot a sc l && okE g N hot b sc r | _ => false
  | .neg a, sc, e => match e with | .UnaryOp .USub x _ => okE g N hot a sc x | _ => false
  | .not a, sc, e => match e with | .UnaryOp .Not x _ => okE g N hot a sc x | _ => false
  | .and a b, sc, e => match e with | .BoolOp .And (x :: y :: rest) pos => okE g N hot a sc x && okE g N hot b sc (nxt .And y rest pos) | _ => false
  | .or a b, sc, e => match e with | .BoolOp .Or (x :: y :: rest) pos => okE g N hot a sc x && okE g N hot b sc (nxt .Or y rest pos) | _ => false
  | .cmp o a b, sc, e => match e with | .Compare l [op] [r] _ => decide (op = cmpOf o) && !behindInMarks (cmpOf o) r && okE g N hot a sc l && okE g N hot b sc r | _ => false
  | .chain o p a b c, sc, e => match e with | .Compare l [op, op'] [m, r] _ => decide (op = cmpOf o) && decide (op' = cmpOf p) && !lastMarks [cmpOf o, cmpOf p] [m, r] && okE g N hot a sc l && okE g N hot b sc m && okE g N hot c sc r | _ => false
  | .ife c a b, sc, e => match e with | .IfExp t x y _ => okT g N hot c sc t && okE g N hot a sc x && okE g N hot b sc y | _ => false
  | .tup es, sc, e => match e with | .Tuple l _ _ => okEs g N hot es sc l | _ => false
  | .lst es, sc, e => match e with | .List l _ => okEs g N hot es sc l | _ => false
  | .emp, _, e => match e with | .Dict [] [] _ => true | _ => false
  | .ix a b, sc, e => match e with | .Subscript x y _ => okE g N hot a sc x && okE g N hot b sc y | _ => false
  | .sl a lo hi, sc, e => match e with | .Subscript x (.Slice l h none _) _ => okE g N hot a sc x && okO g N hot lo sc l && okO g N hot hi sc h | _ => false
  | .fld a f, sc, e => match e with | .Attribute (.Name x _) n _ => decide (n = f) && g.nf f && (match a with | .var i => vrB N sc i x | _ => false) | _ => false
  | .isi a b, sc, e => match e with | .Call (.Name fn _) [x, .Name c _] [] _ => decide (fn = "isinstance") && glB sc "isinstance" && g.fr "isinstance" && decide (c = Str.ofString (btNm b)) && glB sc (Str.ofString (btNm b)) && g.fr (Str.ofString (btNm b)) && okE g N hot a sc x | _ => false
  | .isx i c, sc, e => match e with | .Call (.Name fn _) [.Name x _, .Name c' _] [] _ => hot && decide (fn = "isinstance") && glB sc "isinstance" && g.fr "isinstance" && decide (c' = c) && glB sc c && vrB N sc i x && (((g.exf c).isSome && nmB1 c) || (decide (c = Str.ofString "ValueError") && g.fr (Str.ofString "ValueError"))) | _ => false
  | .xfl i f, sc, e => match e with | .Attribute (.Name x _) n _ => hot && decide (n = f) && g.nf f && vrB N sc i x | _ => false
  | .hsm i j, sc, e => hsmB g N hot i j sc e
  | .rvt a, sc, e => match e with | .Call (.Name t _) [.Call (.Name r _) [y] [] _] [] _ => !hot && decide (t = "tuple") && decide (r = "reversed") && glB sc "tuple" && g.fr "tuple" && glB sc "reversed" && g.fr "reversed" && okE g N hot a sc y | _ => false
  | .lsv i, sc, e => match e with | .Call (.Name t _) [.Name x _] [] _ => !hot && decide (t = "list") && glB sc "list" && g.fr "list" && vrB N sc i x | _ => false
  | .rvl a, sc, e => match e with | .Call (.Name t _) [.Call (.Name r _) [y] [] _] [] _ => !hot && decide (t = "list") && decide (r = "reversed") && glB sc "list" && g.fr "list" && glB sc "reversed" && g.fr "reversed" && okE g N hot a sc y | _ => false
  | .srk a f, sc, e => match srkP e with
    | some (s, y, kn, k) => !hot && decide (s = "sorted") && decide (kn = "key") && decide (k = f) && glB sc "sorted" && g.fr "sorted" && glB sc f && nmB1 f && g.top f && okE g N hot a sc y
    | none => false
  | .hcall f i, sc, e => hcallB g N hot f i sc e
  | .call f es, sc, e => match e with | .Call (.Name x _) l [] _ => !hot && decide (x = f) && glB sc f && nmB1 f && g.top f && okEs g N hot es sc l | _ => false
  | .new c es, sc, e => match e with | .Call (.Name x _) (a :: l) [] _ => !hot && decide (x = c) && glB sc c && nmB1 c && g.cl c && okEs g N hot es sc (a :: l) | _ => false
  | .bi f es, sc, e => match e with | .Call (.Name x _) (a :: l) [] _ => (!hot || coolB f) && decide (x = nmB f) && ((isTy f).isSome || (isBl f).isSome) && glB sc (nmB f) && g.fr (nmB f) && okEs g N hot es sc (a :: l) | .Call (.Name x _) [a] [⟨some kn, kv, _⟩] _ => (match es with | .cons ia (.cons id .nil) => !hot && isKw f && decide (x = nmK f) && decide (kn = "default") && glB sc (nmK f) && g.fr (nmK f) && okE g N hot ia sc a && okL id kv | _ => false) | _ => false
  | .me m a es, sc, e => match e with | .Call (.Attribute o m' apos) l [] pos => !hot && decide (m' = m) && (apos.endLine == pos.line) && decide (l.length < 30) && meB o && okE g N hot a sc o && okEs g N hot es sc l | _ => false
  | .join s b, sc, e => match e with | .Call (.Attribute (.Constant (.str c) _ _) m apos) [y] [] pos => decide (m = "join") && (apos.endLine == pos.line) && decide (s = c) && okE g N hot b sc y | _ => false
  | .bm m a es, sc, e => match e with
    | .Call (.Attribute o m' apos) l [] pos => decide (m' = bmN m) && okRc o && (apos.endLine == pos.line) && okE g N hot a sc o && okEs g N hot es sc l && bmA m l
    | _ => false
  | .lc elt tg it c, sc, e => match e with
    | .ListComp x [⟨t, i, ifs, as⟩] scope _ => !hot && decide (as = 0) && blkC N sc scope (tgOwn tg t) && decide ((tgOwn tg t).map (·.2) = tgS tg) && okTg N (relS scope sc) tg t && okTg N scope tg t && okI g N hot it sc i && okE g N hot elt (relS scope sc) x && okC g N hot c (relS scope sc) ifs
    | _ => false
  | _, _, _ => false
def okEs (g : G) (N : List Str) (hot : Bool) : Es → Scope → List Expr → Bool
  | .nil, _, l => match l with | [] => true | _ => false
  | .cons a es, sc, l => match l with | x :: r => okE g N hot a sc x && okEs g N hot es sc r | _ => false
def okO (g : G) (N : List Str) (hot : Bool) : Eo → Scope → Option Expr → Bool
  | .none, _, l => match l with | none => true | _ => false
  | .some a, sc, l => match l with | some x => okE g N hot a sc x | _ => false
def okC (g : G) (N : List Str) (hot : Bool) : Eo → Scope → List Expr → Bool
  | .none, _, l => match l with | [] => true | _ => false
  | .some a, sc, l => match l with | [x] => okT g N hot a sc x | _ => false
def okT (g : G) (N : List Str) (hot : Bool) : E → Scope → Expr → Bool
  | .not a, sc, e => match e with | .UnaryOp .Not x _ => okT g N hot a sc x | _ => false
  | .and a b, sc, e => match e with | .BoolOp .And (x :: y :: rest) pos => okT g N hot a sc x && okT g N hot b sc (nxt .And y rest pos) | _ => false
  | .or a b, sc, e => match e with | .BoolOp .Or (x :: y :: rest) pos => okT g N hot a sc x && okT g N hot b sc (nxt .Or y rest pos) | _ => false
  | .cmp o a b, sc, e => match e with | .Compare l [op] [r] _ => decide (op = cmpOf o) && !behindInMarks (cmpOf o) r && okE g N hot a sc l && okE g N hot b sc r | _ => false
  | .chain o p a b c, sc, e => match e with | .Compare l [op, op'] [m, r] _ => decide (op = cmpOf o) && decide (op' = cmpOf p) && !lastMarks [cmpOf o, cmpOf p] [m, r] && okE g N hot a sc l && okE g N hot b sc m && okE g N hot c sc r | _ => false
  | .bl b, _, e => match e with | .Constant (.bool c) _ _ => b == c | _ => false
  | .var i, sc, e => match e with | .Name x _ => vrB N sc i x | _ => false
  | .ix a b, sc, e => match e with | .Subscript x y _ => okE g N hot a sc x && okE g N hot b sc y | _ => false
  | .isi a b, sc, e => match e with | .Call (.Name fn _) [x, .Name c _] [] _ => decide (fn = "isinstance") && glB sc "isinstance" && g.fr "isinstance" && decide (c = Str.ofString (btNm b)) && glB sc (Str.ofString (btNm b)) && g.fr (Str.ofString (btNm b)) && okE g N hot a sc x | _ => false
  | .isx i c, sc, e => match e with | .Call (.Name fn _) [.Name x _, .Name c' _] [] _ => hot && decide (fn = "isinstance") && glB sc "isinstance" && g.fr "isinstance" && decide (c' = c) && glB sc c && vrB N sc i x && (((g.exf c).isSome && nmB1 c) || (decide (c = Str.ofString "ValueError") && g.fr (Str.ofString "ValueError"))) | _ => false
  | .call f es, sc, e => match e with | .Call (.Name x _) l [] _ => !hot && decide (x = f) && glB sc f && nmB1 f && g.top f && okEs g N hot es sc l | _ => false
  | .bi f es, sc, e => match e with | .Call (.Name x _) (a :: l) [] _ => (!hot || coolB f) && decide (x = nmB f) && ((isTy f).isSome || (isBl f).isSome) && glB sc (nmB f) && g.fr (nmB f) && okEs g N hot es sc (a :: l) | _ => false
  | .me m a es, sc, e => match e with | .Call (.Attribute o m' apos) l [] pos => !hot && decide (m' = m) && (apos.endLine == pos.line) && decide (l.length < 30) && meB o && okE g N hot a sc o && okEs g N hot es sc l | _ => false
  | _, _, _ => false
def okI (g : G) (N : List Str) (hot : Bool) : It → Scope → Expr → Bool
  | .it e, sc, x => okE g N hot e sc x
  | .rng1 a, sc, e => match e with | .Call (.Name f _) [x] [] _ => decide (f = "range") && glB sc "range" && g.fr "range" && okE g N hot a sc x | _ => false
  | .rng2 a b, sc, e => match e with | .Call (.Name f _) [x, y] [] _ => decide (f = "range") && glB sc "range" && g.fr "range" && okE g N hot a sc x && okE g N hot b sc y | _ => false
  | .rev a, sc, e => match e with | .Call (.Name f _) [x] [] _ => decide (f = "reversed") && glB sc "reversed" && g.fr "reversed" && okE g N hot a sc x | _ => false
  | _, _, _ => false
end
end S2

set_option maxHeartbeats 4000000
/-! S2mh: what only an except suite says. -/
namespace S2
open PySem PySem.Spec PyProof.Rows L2

section
variable {X : Cx} {W : WX} {g : G} {w : Wr} {n : Nat} {C : Cal}
theorem Gd.hotc (gd : Gd X W g w n true) : L2H.HotC X := let ⟨p, h1, h2, _⟩ := gd.hc rfl; ⟨p, h1, h2⟩
theorem cr_sumH (hot : L2H.HotC X) : CallR X (.builtin "sum") (rSum X.K) := by
  intro pins s σ H vs us Q I r ⟨a, ns, e, sq, q⟩
  subst e
  obtain ⟨its, rv, hl, _⟩ := I.list sq
  obtain ⟨x1, ht⟩ := hot.at I
  rw [Vals.ref1 r]
  exact sum_hot ht hl.isList rv.ints fun h' tk t' hk => ⟨.int _, H, I.kept hk, ⟨_, rfl⟩, q⟩
/-- sum([int(m) for m in marks]) -/
theorem sE_hsm {i j : Nat} {x m : Str} {scope : Scope} {p0 p1 p2 p3 p4 p5 p6 pos : Pos} (gd : Gd X W g w n true) (hN : X.N[i]? = some x) (hv : Vis X.env.scope x) (hd : (x == ("__debug__" : Str)) = false) (hcd : (x == ("__classdict__" : Str)) = false)
    (gs : Gl X "sum") (rs : g.fr "sum" = true) (gi : glB (relS scope X.env.scope) "int" = true) (ri : g.fr "int" = true) (hj : X.N[j]? = some m) (bl : blkC X.N X.env.scope scope [(m, j)] = true) (l1 : locB (relS scope X.env.scope) m = true) (l2 : locB scope m = true)
    (mv : visB (relS scope X.env.scope) m = true) (md : (m == ("__debug__" : Str)) = false) (mcd : (m == ("__classdict__" : Str)) = false) :
    PE X (.Call (.Name "sum" p0) [.ListComp (.Call (.Name "int" p1) [.Name m p2] [] p3) [⟨.Name m p4, .Name x p5, [], 0⟩] scope p6] [] pos) (tE g C w W (.hsm i j)) := by
  have lc : PE X (.ListComp (.Call (.Name "int" p1) [.Name m p2] [] p3) [⟨.Name m p4, .Name x p5, [], 0⟩] scope p6) (fun σ H Q => ∃ a, ∃ bs : List Bool, σ[i]? = some (some (V.ref a)) ∧ SqL X.K H a (bs.map V.bl) ∧ bs.length < sizeLine ∧ ∀ D, H D = none → Q (.ref D) (upd H D (.lst (bs.map fun b => V.int (bI b))))) := by
    refine ⟨fun pins s σ H Q I ⟨a, bs, ea, sq, hz, fin⟩ => ?_⟩
    have hjl : j < X.N.length := (List.getElem?_eq_some_iff.mp hj).1
    refine lcH (j := j) (bs := bs) gd.hotc gd.nd I sq hz (fun {R} hR => ?_) (blkOk_by bl) rfl (fun s H C cl fp => ?_) (fun s H C cl fp => ?_) hjl I.len (fun _ => rfl) fin
    · refine wpAny_mono ((pe_var hN hv hd hcd).run pins s σ H (fun v H' => v = .ref a ∧ H' = H) I ⟨_, ea, rfl, rfl⟩) (fun u s' ⟨v, H', I', r, ev, eh⟩ => ?_) fun _ _ h => h
      subst ev eh
      cases (show u = Value.ref a from r)
      exact hR s' I'
    · exact pg_name (X := X.blk s H scope (compEnvC scope cl C X.env) fp) gd.nd hj (locB_ok l1) (fn_blk' (X := X) m l2)
    · have px : PE (X.blk s H scope (compEnvC scope cl C X.env) fp) (.Name m p2) (tVar j) := pe_var (X := X.blk s H scope (compEnvC scope cl C X.env) fp) hj (visB_ok mv) md mcd
      refine PE.imp (pe_callTy (X := X.blk s H scope (compEnvC scope cl C X.env) fp) call_int1 (glB_ok gi) (gd.fx.free _ ri) (by rfl) (pa_cons px pa_nil (by rfl)) (by decide) (by decide) (by rfl) (by rfl)) fun σ H Q ⟨b, e, q⟩ => ?_
      exact ⟨.bl b, e, .inr ⟨b, rfl, q⟩⟩
  refine PE.imp (pe_callB (cr_sumH gd.hotc) gs (gd.fx.free _ rs) (by rfl) (pa_cons lc pa_nil (by rfl)) (by decide) (by decide) (by rfl) (by rfl)) fun σ H Q ⟨env, O, dom, en, h⟩ => ?_
  have h : fR w W σ O (rV w O) H ((look env i).bind fun x => match x.2 with
    | .lst l => (match blsOf l with
      | some bs => if decide (bs.length < szL) then R.ok (Own.sh, D.int (bs.map fun b => if b = true then (1 : Int) else 0).sum) else .no
      | none => .no)
    | _ => .no) Q := h
  rcases look_tame (env := env) (i := i) with ⟨v, e1⟩ | e1
  · rw [e1] at h
    obtain ⟨o, d, e2, rfl, ox, oy⟩ := look_ok e1
    cases d <;> try exact h.elim
    rename_i l
    have h2 : fR w W σ O (rV w O) H (match blsOf l with
      | some bs => if decide (bs.length < szL) then R.ok (Own.sh, D.int (bs.map fun b => if b = true then (1 : Int) else 0).sum) else .no
      | none => .no) Q := h
    split at h2
    case h_2 => exact h2.elim
    rename_i bs hb
    split at h2
    case isFalse => exact h2.elim
    rename_i hz
    have hz := of_decide_eq_true hz
    rw [szL_eq] at hz
    obtain ⟨v, ev, a, vs, rfl, hp, _, r2⟩ := en.get (List.mem_singleton.mpr rfl) e2 ox oy
    have el := blsOf_eq hb
    subst el
    cases Reps.bls r2
    refine ⟨a, bs, ev, SqL.of hp, hz, fun D nD => ⟨D, (bs.map fun b => bI b), rfl, ?_, ?_⟩⟩
    · rw [List.map_map]; exact SqL.of upd_same
    · exact h2 _ _ (same_new nD) (VR.sh rfl)
  · rw [e1] at h; exact h.elim
/-- f(e), e the caught exception -/
theorem sE_hcall {i : Nat} {f x : Str} {p1 p2 pos : Pos} (gd : Gd X W g w n true) (hN : X.N[i]? = some x) (hv : Vis X.env.scope x) (hd : (x == ("__debug__" : Str)) = false) (hcd : (x == ("__classdict__" : Str)) = false) (hf : g.hf f = true) (hg : Gl X f) (fd : (f == ("__debug__" : Str)) = false) :
    PE X (.Call (.Name f p1) [.Name x p2] [] pos) (tE g (cal g n) w W (.hcall f i)) := by
  by_cases hn : n = 0
  · subst hn
    refine PE.imp (t := fun _ _ _ => False) ⟨fun _ _ _ _ _ _ h => h.elim⟩ fun σ H Q ⟨env, O, dom, en, h⟩ => ?_
    have h : fR w W σ O (rV w O) H (match env[i]? with
      | some (some (.ex, .ob k ns vs)) => if (g.exf k).isSome = true then R.no else .no
      | _ => .no) Q := h
    split at h
    · split at h <;> exact h
    · exact h
  obtain ⟨m, rfl⟩ : ∃ m, n = m + 1 := ⟨n - 1, by omega⟩
  obtain ⟨fa, fdat, ps, h1, h2, h3, F⟩ := gd.hl hn f hf
  obtain ⟨p, q1, q2, q3, q4, q5⟩ := gd.hc rfl
  refine PE.imp (pe_callHG F (gd.rmH rfl hn) gd.ng q1 q2 hg h1 h2 h3 (pe_var hN hv hd hcd) fd (by rfl)) fun σ H Q ⟨env, O, dom, en, h⟩ => ?_
  have h : fR w W σ O (rV w O) H (match env[i]? with
    | some (some (.ex, .ob k ns vs)) => if (g.exf k).isSome = true then (hotR g f (.ob k ns vs)).tame else .no
    | _ => .no) Q := h
  split at h
  case h_2 => exact h.elim
  rename_i k ns vs e
  split at h
  case isFalse => exact h.elim
  obtain ⟨e1, e2⟩ := en.1.2 (i, false) (List.mem_singleton.mpr rfl) _ e
  refine ⟨.ref w.xi.a, e1, _, O, _, _, by rw [q3], q4, q5, dom, e2, ?_⟩
  cases z : hotR g f (.ob k ns vs) with
  | ok v => rw [z] at h; exact h
  | exc d => rw [z] at h; exact h.elim
  | no => rw [z] at h; exact h
theorem nm1' {x : Str} (h : nmB1 x = true) : (x == ("__debug__" : Str)) = false := by
  unfold nmB1 at h
  simpa using h
theorem nm2' {x : Str} (h : nmB2 x = true) : (x == ("__debug__" : Str)) = false ∧ (x == ("__classdict__" : Str)) = false := by
  unfold nmB2 at h
  simpa using h
theorem sE_hsmB {hot : Bool} {i j : Nat} {e : Expr} (gd : Gd X W g w n hot) (h : hsmB g X.N hot i j X.env.scope e = true) : PE X e (tE g C w W (.hsm i j)) := by
  unfold hsmB at h; split at h
  · simp only [Bool.and_eq_true, decide_eq_true_eq] at h
    obtain ⟨⟨⟨⟨⟨⟨⟨⟨⟨⟨⟨⟨⟨⟨⟨h0, h1⟩, h2⟩, h3⟩, h4⟩, h5⟩, h6⟩, h7⟩, h8⟩, h9⟩, h10⟩, h11⟩, h12⟩, h13⟩, h14⟩, h15⟩ := h
    subst h0 h1 h2 h5 h8
    unfold vrB at h15
    simp only [Bool.and_eq_true, decide_eq_true_eq] at h15
    exact sE_hsm gd h15.1.1 (visB_ok h15.1.2) (nm2' h15.2).1 (nm2' h15.2).2 (glB_ok h3) h4 h6 h7 h9 h10 h11 h12 h13 (nm2' h14).1 (nm2' h14).2
  · cases h
theorem sE_hcallB {hot : Bool} {f : Str} {i : Nat} {e : Expr} (gd : Gd X W g w n hot) (h : hcallB g X.N hot f i X.env.scope e = true) : PE X e (tE g (cal g n) w W (.hcall f i)) := by
  unfold hcallB at h; split at h
  · simp only [Bool.and_eq_true, decide_eq_true_eq] at h
    obtain ⟨⟨⟨⟨⟨h0, h1⟩, h2⟩, h3⟩, h4⟩, h5⟩ := h
    subst h0 h1
    unfold vrB at h5
    simp only [Bool.and_eq_true, decide_eq_true_eq] at h5
    exact sE_hcall gd h5.1.1 (visB_ok h5.1.2) (nm2' h5.2).1 (nm2' h5.2).2 h4 (glB_ok h2) (nm1' h3)
  · cases h
theorem hsmB_sh {hot : Bool} {N : List Str} {i j : Nat} {sc : Scope} {e : Expr} (h : hsmB g N hot i j sc e = true) : ∃ f a k p, e = .Call f a k p := by
  unfold hsmB at h; split at h
  · exact ⟨_, _, _, _, rfl⟩
  · cases h
theorem hcallB_sh {hot : Bool} {N : List Str} {f : Str} {i : Nat} {sc : Scope} {e : Expr} (h : hcallB g N hot f i sc e = true) : ∃ f a k p, e = .Call f a k p := by
  unfold hcallB at h; split at h
  · exact ⟨_, _, _, _, rfl⟩
  · cases h
end
end S2

set_option maxHeartbeats 4000000
/-! S2n: every checked expression does what the evaluator says. -/
namespace S2
open PySem PySem.Spec PyProof.Rows L2

def shB : Expr → Bool
  | .Constant _ _ _ => true
  | .Name _ _ => true
  | .BinOp _ _ _ _ => true
  | .UnaryOp _ _ _ => true
  | .BoolOp _ _ _ => true
  | .Compare _ _ _ _ => true
  | .IfExp _ _ _ _ => true
  | .Tuple _ _ _ => true
  | .List _ _ => true
  | .Dict _ _ _ => true
  | .Subscript _ _ _ => true
  | .Attribute _ _ _ => true
  | .Call _ _ _ _ => true
  | .ListComp _ _ _ _ => true
  | _ => false
theorem srkP_sh {e y : Expr} {s kn k : Str} (h : srkP e = some (s, y, kn, k)) : ∃ p q kp pos, e = .Call (.Name s p) [y] [⟨some kn, .Name k q, kp⟩] pos := by
  unfold srkP at h
  split at h
  · cases h; exact ⟨_, _, _, _, rfl⟩
  · cases h
theorem okE_sh {g : G} {N : List Str} {hot : Bool} {ir : E} {e : Expr} {sc : Scope} (h : okE g N hot ir sc e = true) : shB e = true := by
  cases ir <;> unfold okE at h <;> first
    | (obtain ⟨_, _, _, _, rfl⟩ := hsmB_sh h; rfl)
    | (obtain ⟨_, _, _, _, rfl⟩ := hcallB_sh h; rfl)
    | (split at h; (rename_i z; obtain ⟨_, _, _, _, rfl⟩ := srkP_sh z; rfl); cases h)
    | ((repeat' split at h) <;> first | rfl | (exact absurd h Bool.false_ne_true))
theorem sh_star {e : Expr} (h : shB e = true) (es : List Expr) (env : PySem.Env) : starEach (e :: es) env = (false, eval e env) :: starEach es env := by
  cases e <;> first | rfl | (exact absurd h Bool.false_ne_true)
theorem sh_ix {e : Expr} (h : shB e = true) : PlainIx e := by
  cases e <;> first | (intro o i; rfl) | (exact absurd h Bool.false_ne_true)
theorem sh_fold {e : Expr} (h : shB e = true) (env : PySem.Env) : ∀ x, foldedSetIterable e env x = pure x := by
  cases e <;> first | (intro x; rfl) | (exact absurd h Bool.false_ne_true)
theorem okEs_plain {g : G} {N : List Str} {hot : Bool} {X : Cx} : ∀ {is : Es} {es : List Expr} {sc : Scope}, okEs g N hot is sc es = true → Plain X es
  | .nil, es, sc, h => by
    unfold okEs at h
    split at h
    · trivial
    · cases h
  | .cons a is, es, sc, h => by
    unfold okEs at h
    split at h
    · rw [Bool.and_eq_true] at h
      exact ⟨sh_star (okE_sh h.1) _ _, okEs_plain h.2⟩
    · cases h
theorem nm1 {x : Str} (h : nmB1 x = true) : (x == ("__debug__" : Str)) = false := by
  unfold nmB1 at h
  simpa using h
theorem nm2 {x : Str} (h : nmB2 x = true) : (x == ("__debug__" : Str)) = false ∧ (x == ("__classdict__" : Str)) = false := by
  unfold nmB2 at h
  simpa using h
/-- what holds of the table -/
structure Tab (g : G) (w : Wr) : Prop where
  cl : ∀ c, g.cl c = true → w.cl c = true
theorem gd_blk {X : Cx} {W : WX} {g : G} {w : Wr} {n : Nat} (gd : Gd X W g w n) (s : Shared) (H : Hp) (scope : Scope) (ce : PySem.Env) (fp : List Addr) : Gd (X.blk s H scope ce fp) Wf g w n :=
  ⟨gd.fx, gd.nd, gd.calm, gd.room2, fun _ _ ⟨_, _, _, _, _, _, _, _, _, _, _, _, _, _, _, _, q⟩ => q.elim, gd.ng, (fun z => by cases z), gd.hl, (fun z => by cases z), gd.lv, fun z => by cases z⟩
theorem wrs_blk {X : Cx} {s : Shared} {H : Hp} {scope : Scope} {C : Addr} {cl : List (Str × Addr)} {fp : List Addr} : True := trivial
theorem okI_sh {g : G} {N : List Str} {hot : Bool} {ir : It} {e : Expr} {sc : Scope} (h : okI g N hot ir sc e = true) : shB e = true := by
  cases ir <;> unfold okI at h
  case it a => exact okE_sh h
  all_goals (repeat' split at h) <;> first | rfl | (exact absurd h Bool.false_ne_true)
theorem isx_tst {g : G} {C : Cal} {i : Nat} {c : Str} (env : Env) : tst g C (.isx i c) env = (ev g C (.isx i c) env).bind fun x => (truthD x.2).tame := by
  show (match env[i]? with
    | some (some (.ex, .ob k _ _)) => if (g.exf k).isSome = true then R.ok (g.sub k c) else .no
    | _ => .no) = (match env[i]? with
    | some (some (.ex, .ob k _ _)) => if (g.exf k).isSome = true then R.ok (Own.sh, D.bl (g.sub k c)) else .no
    | _ => .no).bind fun x => (truthD x.2).tame
  split
  · split <;> rfl
  · rfl
theorem sE_isx0 {X : Cx} {W : WX} {g : G} {w : Wr} {n : Nat} {hot : Bool} {C : Cal} {i : Nat} {c fn x c' : Str} {p p1 p2 pos : Pos} (gd : Gd X W g w n hot)
    (h : (hot && decide (fn = ("isinstance" : Str)) && glB X.env.scope "isinstance" && g.fr "isinstance" && decide (c' = c) && glB X.env.scope c && vrB X.N X.env.scope i x && (((g.exf c).isSome && nmB1 c) || (decide (c = Str.ofString "ValueError") && g.fr (Str.ofString "ValueError")))) = true) :
    PE X (.Call (.Name fn p) [.Name x p1, .Name c' p2] [] pos) (tE g C w W (.isx i c)) := by
  simp only [Bool.and_eq_true, decide_eq_true_eq, Bool.or_eq_true] at h
  obtain ⟨⟨⟨⟨⟨⟨⟨h1, h2⟩, h3⟩, h4⟩, h5⟩, h6⟩, h7⟩, h8⟩ := h
  subst h2; subst h5
  unfold vrB at h7
  simp only [Bool.and_eq_true, decide_eq_true_eq] at h7
  exact (gd.sx h1).isx _ _ _ _ _ _ _ _ _ h7.1.1 (visB_ok h7.1.2) (nm2 h7.2).1 (nm2 h7.2).2 (glB_ok h3) h4 (glB_ok h6) (h8.imp (fun z => ⟨z.1, nm1 z.2⟩) id)
theorem okL_ok {X : Cx} {w : Wr} {g : G} {C : Cal} {id : E} {e : Expr} (h : okL id e = true) : ∃ d v, PE X e (tC v) ∧ (∀ env, ev g C id env = .ok (.sh, d)) ∧ (∀ H O, Rep w H O d v) ∧ rd id = [] := by
  cases id with
  | int i =>
    have h : okLi i e = true := h
    unfold okLi at h; split at h
    · cases of_decide_eq_true h; exact ⟨_, _, pe_int, fun _ => rfl, fun _ _ => rfl, rfl⟩
    · cases h
  | non =>
    have h : okLn e = true := h
    unfold okLn at h; split at h
    · exact ⟨_, _, pe_non, fun _ => rfl, fun _ _ => rfl, rfl⟩
    · cases h
  | _ => cases h
theorem okEs_nil {g : G} {N : List Str} {hot : Bool} {is : Es} {sc : Scope} (h : okEs g N hot is sc [] = true) : is = .nil := by
  cases is with
  | nil => rfl
  | cons a r => unfold okEs at h; cases h
theorem sE_bmA {X : Cx} {W : WX} {g : G} {w : Wr} {C : Cal} {m : Bm} {io : E} {is : Es} {o : Expr} {l : List Expr} {apos pos : Pos} (h2 : okRc o = true) (h3 : (apos.endLine == pos.line) = true) (ho : PE X o (tE g C w W io)) (hs : PA X l (tEs g C w W is)) (hp : Plain X l) (hn : l = [] → is = .nil) (h : bmA m l = true) :
    PE X (.Call (.Attribute o (bmN m) apos) l [] pos) (tE g C w W (.bm m io is)) := by
  have hb : ∀ nm, attributeBase o nm X.env (eval o X.env) = eval o X.env := fun nm => by
    cases o <;> first | rfl | (exact absurd h2 Bool.false_ne_true)
  unfold bmA at h
  split at h
  · cases hn rfl
    exact sE_bm0 PySem.F.plainAttrs_str PySem.F.slot_str_upper PySem.F.type_str_upper bm_upper (fun v x H1 H2 O => ty_str (.inl rfl)) ho (hb _) h3
  · exact sE_bm1 PySem.F.plainAttrs_str PySem.F.slot_str_split PySem.F.type_str_split bm_split (fun v x H1 H2 O => ty_str (.inr (.inl rfl))) ho hs hp (by simp) (hb _) h3
  · exact sE_bm1 PySem.F.plainAttrs_list PySem.F.slot_list_index PySem.F.type_list_index bm_index (fun v x H1 H2 O => ty_lst) ho hs hp (by simp) (hb _) h3
  · exact sE_bm1 PySem.F.plainAttrs_str PySem.F.slot_str_index PySem.F.type_str_index bm_six (fun v x H1 H2 O => ty_str (.inr (.inr rfl))) ho hs hp (by simp) (hb _) h3
  · cases h
theorem meB_base {o : Expr} {m : Str} {env : PySem.Env} (h : meB o = true) : attributeBase o m env (eval o env) = eval o env := by
  unfold meB at h
  split at h
  · rfl
  · rfl
  · cases h
mutual
theorem sE : ∀ (ir : E) {X : Cx} {W : WX} {g : G} {w : Wr} {n : Nat} {hot : Bool} (gd : Gd X W g w n hot) (tb : Tab g w) (hu : X.A.units + 66 < cLine) {e : Expr}, okE g X.N hot ir X.env.scope e = true → PE X e (tE g (cal g n) w W ir)
  | .non, X, W, g, w, n, hot, gd, tb, hu, e, h => by
    unfold okE at h; split at h
    · exact sE_val pe_non (fun _ => rfl) fun _ _ => rfl
    · cases h
  | .bl b, X, W, g, w, n, hot, gd, tb, hu, e, h => by
    unfold okE at h; split at h
    · cases (beq_iff_eq.mp h); exact sE_val pe_bl (fun _ => rfl) fun _ _ => rfl
    · cases h
  | .int b, X, W, g, w, n, hot, gd, tb, hu, e, h => by
    unfold okE at h; split at h
    · cases (of_decide_eq_true h); exact sE_val pe_int (fun _ => rfl) fun _ _ => rfl
    · cases h
  | .str b, X, W, g, w, n, hot, gd, tb, hu, e, h => by
    unfold okE at h; split at h
    · cases (of_decide_eq_true h); exact sE_val pe_str (fun _ => rfl) fun _ _ => rfl
    · cases h
  | .var i, X, W, g, w, n, hot, gd, tb, hu, e, h => by
    unfold okE at h; split at h
    · unfold vrB at h
      simp only [Bool.and_eq_true, decide_eq_true_eq] at h
      exact sE_var h.1.1 (visB_ok h.1.2) (nm2 h.2).1 (nm2 h.2).2
    · cases h
  | .g x, X, W, g, w, n, hot, gd, tb, hu, e, h => by
    unfold okE at h; split at h
    · simp only [Bool.and_eq_true, decide_eq_true_eq] at h
      obtain ⟨⟨⟨h1, h2⟩, h3⟩, h4⟩ := h
      subst h1
      exact sE_g gd.fx (glB_ok h2) (nm1 h3) h4
    · cases h
  | .bin o a b, X, W, g, w, n, hot, gd, tb, hu, e, h => by
    unfold okE at h; split at h
    · simp only [Bool.and_eq_true, decide_eq_true_eq] at h
      obtain ⟨⟨h1, h2⟩, h3⟩ := h
      subst h1
      exact sE_bin (sE a gd tb hu h2) (sE b gd tb hu h3) gd.fx.hK o
    · cases h
  | .neg a, X, W, g, w, n, hot, gd, tb, hu, e, h => by
    unfold okE at h; split at h
    · exact sE_neg (sE a gd tb hu h)
    · cases h
  | .not a, X, W, g, w, n, hot, gd, tb, hu, e, h => by
    unfold okE at h; split at h
    · exact sE_not (sE a gd tb hu h) gd.fx.hK
    · cases h
  | .and a b, X, W, g, w, n, hot, gd, tb, hu, e, h => by
    unfold okE at h; split at h
    · rename_i x y rest pos
      rw [Bool.and_eq_true] at h
      refine sE_and (sE a gd tb hu h.1) gd.fx.hK ?_
      have q := sE b gd tb hu h.2
      cases rest with
      | nil => exact pe_one q
      | cons _ _ => exact q
    · cases h
  | .or a b, X, W, g, w, n, hot, gd, tb, hu, e, h => by
    unfold okE at h; split at h
    · rename_i x y rest pos
      rw [Bool.and_eq_true] at h
      refine sE_or (sE a gd tb hu h.1) gd.fx.hK ?_
      have q := sE b gd tb hu h.2
      cases rest with
      | nil => exact pe_one q
      | cons _ _ => exact q
    · cases h
  | .cmp o a b, X, W, g, w, n, hot, gd, tb, hu, e, h => by
    unfold okE at h; split at h
    · simp only [Bool.and_eq_true, decide_eq_true_eq, Bool.not_eq_true'] at h
      obtain ⟨⟨⟨h1, h2⟩, h3⟩, h4⟩ := h
      subst h1
      exact sE_cmp (sE a gd tb hu h3) (sE b gd tb hu h4) gd.fx.hK hu o h2
    · cases h
  | .chain o p a b c, X, W, g, w, n, hot, gd, tb, hu, e, h => by
    unfold okE at h; split at h
    · simp only [Bool.and_eq_true, decide_eq_true_eq, Bool.not_eq_true'] at h
      obtain ⟨⟨⟨⟨⟨h1, h2⟩, h3⟩, h4⟩, h5⟩, h6⟩ := h
      subst h1; subst h2
      exact sE_chain (sE a gd tb hu h4) (sE b gd tb hu h5) (sE c gd tb hu h6) gd.fx.hK hu o p h3
    · cases h
  | .ife c a b, X, W, g, w, n, hot, gd, tb, hu, e, h => by
    unfold okE at h; split at h
    · simp only [Bool.and_eq_true] at h
      exact sE_ife (sE b gd tb hu h.2) (sT c gd tb hu h.1.1).1 (sE a gd tb hu h.1.2)
    · cases h
  | .tup es, X, W, g, w, n, hot, gd, tb, hu, e, h => by
    unfold okE at h; split at h
    · exact sE_tup (sEs es gd tb hu h)
    · cases h
  | .lst es, X, W, g, w, n, hot, gd, tb, hu, e, h => by
    unfold okE at h; split at h
    · exact sE_lst (sEs es gd tb hu h)
    · cases h
  | .emp, X, W, g, w, n, hot, gd, tb, hu, e, h => by
    unfold okE at h; split at h
    · exact sE_emp
    · cases h
  | .ix a b, X, W, g, w, n, hot, gd, tb, hu, e, h => by
    unfold okE at h; split at h
    · rw [Bool.and_eq_true] at h
      have hb := sE b gd tb hu h.2
      have hs := sh_ix (okE_sh h.2)
      by_cases hv : ∃ i, a = .var i
      · obtain ⟨i, rfl⟩ := hv
        have h1 := h.1
        unfold okE at h1; split at h1
        · unfold vrB at h1
          simp only [Bool.and_eq_true, decide_eq_true_eq] at h1
          exact sE_ixv hb gd.fx.hK hu h1.1.1 (visB_ok h1.1.2) (nm2 h1.2).1 (nm2 h1.2).2 hs
        · cases h1
      · exact sE_ix (sE a gd tb hu h.1) hb gd.fx.hK hu hs fun i z => hv ⟨i, z⟩
    · cases h
  | .sl a lo hi, X, W, g, w, n, hot, gd, tb, hu, e, h => by
    unfold okE at h; split at h
    · simp only [Bool.and_eq_true] at h
      exact sE_sl gd.fx.hK (sE a gd tb hu h.1.1) (sO lo gd tb hu h.1.2) (sO hi gd tb hu h.2)
    · cases h
  | .fld a f, X, W, g, w, n, hot, gd, tb, hu, e, h => by
    unfold okE at h; split at h
    · simp only [Bool.and_eq_true, decide_eq_true_eq] at h
      obtain ⟨⟨h1, h2⟩, h3⟩ := h
      subst h1
      split at h3
      · unfold vrB at h3
        simp only [Bool.and_eq_true, decide_eq_true_eq] at h3
        exact sE_fldv gd.fx h2 h3.1.1 (visB_ok h3.1.2) (nm2 h3.2).1 (nm2 h3.2).2 (by rfl)
      · cases h3
    · cases h
  | .isi a b, X, W, g, w, n, hot, gd, tb, hu, e, h => by
    unfold okE at h; split at h
    · simp only [Bool.and_eq_true, decide_eq_true_eq] at h
      obtain ⟨⟨⟨⟨⟨⟨h1, h2⟩, h3⟩, h4⟩, h5⟩, h6⟩, h7⟩ := h
      subst h1; subst h4
      exact sE_isi gd.fx b (glB_ok h2) h3 (glB_ok h5) h6 (sE a gd tb hu h7) (sh_star (okE_sh h7) _ _)
    · cases h
  | .isx i c, X, W, g, w, n, hot, gd, tb, hu, e, h => by
    unfold okE at h; split at h
    · exact sE_isx0 gd h
    · cases h
  | .xfl i f, X, W, g, w, n, hot, gd, tb, hu, e, h => by
    unfold okE at h; split at h
    · simp only [Bool.and_eq_true, decide_eq_true_eq] at h
      obtain ⟨⟨⟨h1, h2⟩, h3⟩, h4⟩ := h
      subst h2
      unfold vrB at h4
      simp only [Bool.and_eq_true, decide_eq_true_eq] at h4
      exact (gd.sx h1).xfl _ _ _ _ _ _ _ h4.1.1 (visB_ok h4.1.2) (nm2 h4.2).1 (nm2 h4.2).2 h3
    · cases h
  | .hsm i j, X, W, g, w, n, hot, gd, tb, hu, e, h => by unfold okE at h; exact sE_hsmB gd h
  | .rvt a, X, W, g, w, n, hot, gd, tb, hu, e, h => by
    unfold okE at h; split at h
    · simp only [Bool.and_eq_true, decide_eq_true_eq] at h
      obtain ⟨⟨⟨⟨⟨⟨⟨h0, h1⟩, h2⟩, h3⟩, h4⟩, h5⟩, h6⟩, h7⟩ := h
      have h0 : hot = false := by simpa using h0
      subst h0 h1 h2
      exact sE_revT gd.fx (gd.calm rfl) (glB_ok h3) h4 (glB_ok h5) h6 (sE a gd tb hu h7) (by rw [sh_star (okE_sh h7), starEach_nil])
    · cases h
  | .rvl a, X, W, g, w, n, hot, gd, tb, hu, e, h => by
    unfold okE at h; split at h
    · simp only [Bool.and_eq_true, decide_eq_true_eq] at h
      obtain ⟨⟨⟨⟨⟨⟨⟨h0, h1⟩, h2⟩, h3⟩, h4⟩, h5⟩, h6⟩, h7⟩ := h
      have h0 : hot = false := by simpa using h0
      subst h0 h1 h2
      exact sE_revL gd.fx (gd.calm rfl) (glB_ok h3) h4 (glB_ok h5) h6 (sE a gd tb hu h7) (by rw [sh_star (okE_sh h7), starEach_nil])
    · cases h
  | .lsv i, X, W, g, w, n, hot, gd, tb, hu, e, h => by
    unfold okE at h; split at h
    · simp only [Bool.and_eq_true, decide_eq_true_eq] at h
      obtain ⟨⟨⟨⟨h0, h1⟩, h2⟩, h3⟩, h4⟩ := h
      subst h1
      unfold vrB at h4
      simp only [Bool.and_eq_true, decide_eq_true_eq] at h4
      exact sE_lsv gd.fx (glB_ok h2) h3 h4.1.1 (visB_ok h4.1.2) (nm2 h4.2).1 (nm2 h4.2).2
    · cases h
  | .rgt _ _, X, W, g, w, n, hot, gd, tb, hu, e, h => by unfold okE at h; cases h
  | .dl1 _ _, X, W, g, w, n, hot, gd, tb, hu, e, h => by unfold okE at h; cases h
  | .srk a f, X, W, g, w, n, hot, gd, tb, hu, e, h => by
    unfold okE at h; split at h
    · rename_i s y kn k hk
      obtain ⟨p, q, kp, pos, rfl⟩ := srkP_sh hk
      simp only [Bool.and_eq_true, decide_eq_true_eq] at h
      obtain ⟨⟨⟨⟨⟨⟨⟨⟨⟨h0, h1⟩, h2⟩, h3⟩, h4⟩, h5⟩, h6⟩, h7⟩, h8⟩, h9⟩ := h
      have h0 : hot = false := by simpa using h0
      subst h0 h1 h2 h3
      exact sE_srk gd hu (glB_ok h4) h5 (glB_ok h6) (nm1 h7) h8 (sE a gd tb hu h9) (sh_star (okE_sh h9) _ _)
    · cases h
  | .hcall f i, X, W, g, w, n, hot, gd, tb, hu, e, h => by unfold okE at h; exact sE_hcallB gd h
  | .call f es, X, W, g, w, n, hot, gd, tb, hu, e, h => by
    unfold okE at h; split at h
    · simp only [Bool.and_eq_true, decide_eq_true_eq] at h
      obtain ⟨⟨⟨⟨⟨h0, h1⟩, h2⟩, h3⟩, h4⟩, h5⟩ := h
      have h0 : hot = false := by simpa using h0
      subst h0
      subst h1
      cases es with
      | nil =>
        unfold okEs at h5; split at h5
        · exact sE_call0 gd h4 (glB_ok h2) (nm1 h3)
        · cases h5
      | cons i is =>
        have hp := okEs_plain (X := X) h5
        have hs := sEs (.cons i is) gd tb hu h5
        unfold okEs at h5; split at h5
        · exact sE_call gd h4 (glB_ok h2) (nm1 h3) hs hp
        · cases h5
    · cases h
  | .new c es, X, W, g, w, n, hot, gd, tb, hu, e, h => by
    unfold okE at h; split at h
    · simp only [Bool.and_eq_true, decide_eq_true_eq] at h
      obtain ⟨⟨⟨⟨⟨h0, h1⟩, h2⟩, h3⟩, h4⟩, h5⟩ := h
      have h0 : hot = false := by simpa using h0
      subst h0
      subst h1
      cases n with
      | zero =>
        refine PE.imp (t := fun _ _ _ => False) ⟨fun _ _ _ _ _ _ h => h.elim⟩ fun σ H Q ⟨env, O, dom, en, f⟩ => ?_
        exact f.elim
      | succ m => exact sE_new gd rfl h4 (tb.cl _ h4) (glB_ok h2) (nm1 h3) (sEs es gd tb hu h5) (okEs_plain h5)
    · cases h
  | .bi f es, X, W, g, w, n, hot, gd, tb, hu, e, h => by
    unfold okE at h; split at h
    · simp only [Bool.and_eq_true, decide_eq_true_eq, Bool.or_eq_true] at h
      obtain ⟨⟨⟨⟨⟨h0, h1⟩, h2⟩, h3⟩, h4⟩, h5⟩ := h
      subst h1
      exact sE_bi gd hu f (h0.symm.imp id fun z => gd.calm (by simpa using z)) h2 (glB_ok h3) h4 (sEs es gd tb hu h5) (okEs_plain h5)
    · split at h
      · rename_i ia id'
        simp only [Bool.and_eq_true, decide_eq_true_eq] at h
        obtain ⟨⟨⟨⟨⟨⟨⟨h0, h1⟩, h2⟩, h3⟩, h4⟩, h5⟩, h6⟩, h7⟩ := h
        subst h2 h3
        obtain ⟨d, v, k1, k2, k3, k4⟩ := okL_ok (X := X) (w := w) (g := g) (C := cal g n) h7
        exact sE_kw gd hu (gd.calm (by simpa using h0)) h1 (glB_ok h4) h5 (sE ia gd tb hu h6) k1 k2 k3 k4 (by rw [sh_star (okE_sh h6), starEach_nil])
      · cases h
    · cases h
  | .me m a es, X, W, g, w, n, hot, gd, tb, hu, e, h => by
    unfold okE at h; split at h
    · simp only [Bool.and_eq_true, decide_eq_true_eq] at h
      obtain ⟨⟨⟨⟨⟨⟨h0, h1⟩, h2⟩, h3⟩, h4⟩, h6⟩, h5⟩ := h
      have h0 : hot = false := by simpa using h0
      subst h0
      subst h1
      cases es with
      | nil =>
        unfold okEs at h5; split at h5
        · exact sE_me0 gd (sE a gd tb hu h6) (meB_base h4) h2
        · cases h5
      | cons i is =>
        have hp := okEs_plain (X := X) h5
        have hs := sEs (.cons i is) gd tb hu h5
        unfold okEs at h5; split at h5
        · exact sE_me gd (sE a gd tb hu h6) (meB_base h4) hs hp h3 h2
        · cases h5
    · cases h
  | .join z b, X, W, g, w, n, hot, gd, tb, hu, e, h => by
    unfold okE at h; split at h
    · simp only [Bool.and_eq_true, decide_eq_true_eq] at h
      obtain ⟨⟨⟨h1, h2⟩, h3⟩, h4⟩ := h
      subst h1; subst h3
      exact sE_join gd.fx.hK pe_str (sE b gd tb hu h4) (by rw [sh_star (okE_sh h4), starEach_nil]) (by rfl) h2
    · cases h
  | .bm m a es, X, W, g, w, n, hot, gd, tb, hu, e, h => by
    unfold okE at h; split at h
    · rename_i o m' apos l pos
      simp only [Bool.and_eq_true, decide_eq_true_eq] at h
      obtain ⟨⟨⟨⟨⟨h1, h2⟩, h3⟩, h4⟩, h5⟩, h6⟩ := h
      subst h1
      exact sE_bmA h2 h3 (sE a gd tb hu h4) (sEs es gd tb hu h5) (okEs_plain h5) (fun z => okEs_nil (z ▸ h5)) h6
    · cases h
  | .lc elt tg it c, X, W, g, w, n, hot, gd, tb, hu, e, h => by
    unfold okE at h; split at h
    · rename_i x t i ifs as scope p
      simp only [Bool.and_eq_true, decide_eq_true_eq] at h
      obtain ⟨⟨⟨⟨⟨⟨⟨⟨h0, h1⟩, h2⟩, h3⟩, h4⟩, h5⟩, h6⟩, h7⟩, h8⟩ := h
      have h0 : hot = false := by simpa using h0
      subst h0
      subst h1
      have hs : ∀ y, foldedSetIterable i X.env y = pure y := sh_fold (okI_sh h6) _
      refine PE.imp (pe_lc (g := gT X.K tg) (own := tgOwn tg t) (gd.calm rfl) gd.nd (sI it gd tb hu h6) (blkOk_by h2)
        (fun s H C cl fp => sG (X := X.blk s H scope (compEnvC scope cl C X.env) fp) gd.nd (gd.calm rfl) (fun x => fn_blk' x) h4 h5)
        (fun s H C cl fp => sC c (X := X.blk s H scope (compEnvC scope cl C X.env) fp) (gd_blk gd s H scope _ fp) tb hu h8)
        (fun s H C cl fp => sE elt (X := X.blk s H scope (compEnvC scope cl C X.env) fp) (gd_blk gd s H scope _ fp) tb hu h7) hs) fun σ H Q h => ?_
      rw [h3]
      have := lc_in (fun j hj => hj) (fun j hj => hj) h
      rwa [gd.fx.hK] at this
    · cases h
  | .dc _ _ _ _, X, W, g, w, n, hot, gd, tb, hu, e, h => by unfold okE at h; cases h
theorem sEs : ∀ (is : Es) {X : Cx} {W : WX} {g : G} {w : Wr} {n : Nat} {hot : Bool} (gd : Gd X W g w n hot) (tb : Tab g w) (hu : X.A.units + 66 < cLine) {es : List Expr}, okEs g X.N hot is X.env.scope es = true → PA X es (tEs g (cal g n) w W is)
  | .nil, X, W, g, w, n, hot, gd, tb, hu, es, h => by
    unfold okEs at h; split at h
    · exact sA_nil
    · cases h
  | .cons a is, X, W, g, w, n, hot, gd, tb, hu, es, h => by
    unfold okEs at h; split at h
    · rw [Bool.and_eq_true] at h
      exact sA_cons (sE a gd tb hu h.1) (sEs is gd tb hu h.2) (sh_star (okE_sh h.1) _ _)
    · cases h
theorem sO : ∀ (o : Eo) {X : Cx} {W : WX} {g : G} {w : Wr} {n : Nat} {hot : Bool} (gd : Gd X W g w n hot) (tb : Tab g w) (hu : X.A.units + 66 < cLine) {e : Option Expr}, okO g X.N hot o X.env.scope e = true → PO X e (tO g (cal g n) w W o)
  | .none, X, W, g, w, n, hot, gd, tb, hu, es, h => by
    unfold okO at h; split at h
    · exact sO_none
    · cases h
  | .some a, X, W, g, w, n, hot, gd, tb, hu, es, h => by
    unfold okO at h; split at h
    · exact sO_some (sE a gd tb hu h)
    · cases h
theorem sC : ∀ (o : Eo) {X : Cx} {g : G} {w : Wr} {n : Nat} {hot : Bool} (gd : Gd X Wf g w n hot) (tb : Tab g w) (hu : X.A.units + 66 < cLine) {e : List Expr}, okC g X.N hot o X.env.scope e = true → PTs X e (tC' g (cal g n) w o)
  | .none, X, g, w, n, hot, gd, tb, hu, es, h => by
    unfold okC at h; split at h
    · exact sC_none
    · cases h
  | .some a, X, g, w, n, hot, gd, tb, hu, es, h => by
    unfold okC at h; split at h
    · exact sC_some (sT a gd tb hu h).1
    · cases h
theorem sI : ∀ (o : It) {X : Cx} {W : WX} {g : G} {w : Wr} {n : Nat} {hot : Bool} (gd : Gd X W g w n hot) (tb : Tab g w) (hu : X.A.units + 66 < cLine) {tg e : Expr}, okI g X.N hot o X.env.scope e = true → PI X tg e (tI g (cal g n) w W o)
  | .it a, X, W, g, w, n, hot, gd, tb, hu, tg, e, h => by
    unfold okI at h
    exact sI_it gd.fx.hK (sE a gd tb hu h)
  | .rng1 a, X, W, g, w, n, hot, gd, tb, hu, tg, e, h => by
    unfold okI at h; split at h
    · simp only [Bool.and_eq_true, decide_eq_true_eq] at h
      obtain ⟨⟨⟨h1, h2⟩, h3⟩, h4⟩ := h
      subst h1
      exact sI_rng1 gd.fx (glB_ok h2) h3 (sE a gd tb hu h4) (sh_star (okE_sh h4) _ _)
    · cases h
  | .rng2 a b, X, W, g, w, n, hot, gd, tb, hu, tg, e, h => by
    unfold okI at h; split at h
    · simp only [Bool.and_eq_true, decide_eq_true_eq] at h
      obtain ⟨⟨⟨⟨h1, h2⟩, h3⟩, h4⟩, h5⟩ := h
      subst h1
      exact sI_rng2 gd.fx (glB_ok h2) h3 (sE a gd tb hu h4) (sE b gd tb hu h5) (sh_star (okE_sh h4) _ _) (sh_star (okE_sh h5) _ _)
    · cases h
  | .rng3 _ _ _, X, W, g, w, n, hot, gd, tb, hu, tg, e, h => by unfold okI at h; cases h
  | .rev a, X, W, g, w, n, hot, gd, tb, hu, tg, e, h => by
    unfold okI at h; split at h
    · simp only [Bool.and_eq_true, decide_eq_true_eq] at h
      obtain ⟨⟨⟨h1, h2⟩, h3⟩, h4⟩ := h
      subst h1
      exact sI_rev gd.fx.hK gd.fx (glB_ok h2) h3 (sE a gd tb hu h4) (sh_star (okE_sh h4) _ _)
    · cases h
  | .enum _, X, W, g, w, n, hot, gd, tb, hu, tg, e, h => by unfold okI at h; cases h
  | .items _, X, W, g, w, n, hot, gd, tb, hu, tg, e, h => by unfold okI at h; cases h
  | .vals _, X, W, g, w, n, hot, gd, tb, hu, tg, e, h => by unfold okI at h; cases h
theorem sT : ∀ (ir : E) {X : Cx} {W : WX} {g : G} {w : Wr} {n : Nat} {hot : Bool} (gd : Gd X W g w n hot) (tb : Tab g w) (hu : X.A.units + 66 < cLine) {e : Expr}, okT g X.N hot ir X.env.scope e = true → PT X e (tT g (cal g n) w W ir) ∧ (∀ op vs pos, e = .BoolOp op vs pos → PW X e (tT g (cal g n) w W ir))
  | .not a, X, W, g, w, n, hot, gd, tb, hu, e, h => by
    unfold okT at h; split at h
    · exact ⟨sT_not (sT a gd tb hu h).1, fun _ _ _ z => by cases z⟩
    · cases h
  | .and a b, X, W, g, w, n, hot, gd, tb, hu, e, h => by
    unfold okT at h; split at h
    · rename_i x y rest pos
      rw [Bool.and_eq_true] at h
      have q := sT b gd tb hu h.2
      have r : PW X (.BoolOp .And (x :: y :: rest) pos) (tT g (cal g n) w W (.and a b)) := by
        refine sT_and (sT a gd tb hu h.1).1 ?_
        cases rest with
        | nil => exact pw_and1 q.1
        | cons _ _ => exact q.2 _ _ _ rfl
      exact ⟨PW.pt r, fun _ _ _ _ => r⟩
    · cases h
  | .or a b, X, W, g, w, n, hot, gd, tb, hu, e, h => by
    unfold okT at h; split at h
    · rename_i x y rest pos
      rw [Bool.and_eq_true] at h
      have q := sT b gd tb hu h.2
      have r : PW X (.BoolOp .Or (x :: y :: rest) pos) (tT g (cal g n) w W (.or a b)) := by
        refine sT_or (sT a gd tb hu h.1).1 ?_
        cases rest with
        | nil => exact pw_or1 q.1
        | cons _ _ => exact q.2 _ _ _ rfl
      exact ⟨PW.pt r, fun _ _ _ _ => r⟩
    · cases h
  | .cmp o a b, X, W, g, w, n, hot, gd, tb, hu, e, h => by
    unfold okT at h; split at h
    · simp only [Bool.and_eq_true, decide_eq_true_eq, Bool.not_eq_true'] at h
      obtain ⟨⟨⟨h1, h2⟩, h3⟩, h4⟩ := h
      subst h1
      exact ⟨sT_cmp (sE a gd tb hu h3) (sE b gd tb hu h4) gd.fx.hK hu o h2, fun _ _ _ z => by cases z⟩
    · cases h
  | .chain o p a b c, X, W, g, w, n, hot, gd, tb, hu, e, h => by
    unfold okT at h; split at h
    · simp only [Bool.and_eq_true, decide_eq_true_eq, Bool.not_eq_true'] at h
      obtain ⟨⟨⟨⟨⟨h1, h2⟩, h3⟩, h4⟩, h5⟩, h6⟩ := h
      subst h1; subst h2
      exact ⟨sT_chain (sE a gd tb hu h4) (sE b gd tb hu h5) (sE c gd tb hu h6) gd.fx.hK hu o p h3, fun _ _ _ z => by cases z⟩
    · cases h
  | .bl b, X, W, g, w, n, hot, gd, tb, hu, e, h => by
    unfold okT at h; split at h
    · cases (beq_iff_eq.mp h)
      exact ⟨sT_val (sE_val pe_bl (fun _ => rfl) fun _ _ => rfl) gd.fx.hK (fun _ => by rfl) (fun _ => rfl), fun _ _ _ z => by cases z⟩
    · cases h
  | .var i, X, W, g, w, n, hot, gd, tb, hu, e, h => by
    unfold okT at h; split at h
    · unfold vrB at h
      simp only [Bool.and_eq_true, decide_eq_true_eq] at h
      exact ⟨sT_val (sE_var h.1.1 (visB_ok h.1.2) (nm2 h.2).1 (nm2 h.2).2) gd.fx.hK (fun _ => by rfl) (fun _ => rfl), fun _ _ _ z => by cases z⟩
    · cases h
  | .ix a b, X, W, g, w, n, hot, gd, tb, hu, e, h => by
    have q : PE X e (tE g (cal g n) w W (.ix a b)) := by
      unfold okT at h; split at h
      · rw [Bool.and_eq_true] at h
        have hb := sE b gd tb hu h.2
        have hs := sh_ix (okE_sh h.2)
        by_cases hv : ∃ i, a = .var i
        · obtain ⟨i, rfl⟩ := hv
          have h1 := h.1
          unfold okE at h1; split at h1
          · unfold vrB at h1
            simp only [Bool.and_eq_true, decide_eq_true_eq] at h1
            exact sE_ixv hb gd.fx.hK hu h1.1.1 (visB_ok h1.1.2) (nm2 h1.2).1 (nm2 h1.2).2 hs
          · cases h1
        · exact sE_ix (sE a gd tb hu h.1) hb gd.fx.hK hu hs fun i z => hv ⟨i, z⟩
      · cases h
    refine ⟨sT_val q gd.fx.hK ?_ (fun _ => rfl), fun op vs pos z => ?_⟩
    · unfold okT at h; split at h
      · intro _; rfl
      · cases h
    · subst z; unfold okT at h; cases h
  | .isi a b, X, W, g, w, n, hot, gd, tb, hu, e, h => by
    have q : PE X e (tE g (cal g n) w W (.isi a b)) := by
      unfold okT at h; split at h
      · simp only [Bool.and_eq_true, decide_eq_true_eq] at h
        obtain ⟨⟨⟨⟨⟨⟨h1, h2⟩, h3⟩, h4⟩, h5⟩, h6⟩, h7⟩ := h
        subst h1; subst h4
        exact sE_isi gd.fx b (glB_ok h2) h3 (glB_ok h5) h6 (sE a gd tb hu h7) (sh_star (okE_sh h7) _ _)
      · cases h
    refine ⟨sT_val q gd.fx.hK ?_ isi_tst, fun op vs pos z => ?_⟩
    · unfold okT at h; split at h
      · intro _; rfl
      · cases h
    · subst z; unfold okT at h; cases h
  | .isx i c, X, W, g, w, n, hot, gd, tb, hu, e, h => by
    have q : PE X e (tE g (cal g n) w W (.isx i c)) := by
      unfold okT at h; split at h
      · exact sE_isx0 gd h
      · cases h
    refine ⟨sT_val q gd.fx.hK ?_ isx_tst, fun op vs pos z => ?_⟩
    · unfold okT at h; split at h
      · intro _; rfl
      · cases h
    · subst z; unfold okT at h; cases h
  | .call f es, X, W, g, w, n, hot, gd, tb, hu, e, h => by
    have q : PE X e (tE g (cal g n) w W (.call f es)) := by
      unfold okT at h; split at h
      · simp only [Bool.and_eq_true, decide_eq_true_eq] at h
        obtain ⟨⟨⟨⟨⟨h0, h1⟩, h2⟩, h3⟩, h4⟩, h5⟩ := h
        have h0 : hot = false := by simpa using h0
        subst h0
        subst h1
        cases es with
        | nil =>
          unfold okEs at h5; split at h5
          · exact sE_call0 gd h4 (glB_ok h2) (nm1 h3)
          · cases h5
        | cons i is =>
          have hp := okEs_plain (X := X) h5
          have hs := sEs (.cons i is) gd tb hu h5
          unfold okEs at h5; split at h5
          · exact sE_call gd h4 (glB_ok h2) (nm1 h3) hs hp
          · cases h5
      · cases h
    refine ⟨sT_val q gd.fx.hK ?_ (fun _ => rfl), fun op vs pos z => ?_⟩
    · unfold okT at h; split at h
      · intro _; rfl
      · cases h
    · subst z; unfold okT at h; cases h
  | .bi f es, X, W, g, w, n, hot, gd, tb, hu, e, h => by
    have q : PE X e (tE g (cal g n) w W (.bi f es)) := by
      unfold okT at h; split at h
      · simp only [Bool.and_eq_true, decide_eq_true_eq, Bool.or_eq_true] at h
        obtain ⟨⟨⟨⟨⟨h0, h1⟩, h2⟩, h3⟩, h4⟩, h5⟩ := h
        subst h1
        exact sE_bi gd hu f (h0.symm.imp id fun z => gd.calm (by simpa using z)) h2 (glB_ok h3) h4 (sEs es gd tb hu h5) (okEs_plain h5)
      · cases h
    refine ⟨sT_val q gd.fx.hK ?_ (fun _ => rfl), fun op vs pos z => ?_⟩
    · unfold okT at h; split at h
      · intro _; rfl
      · cases h
    · subst z; unfold okT at h; cases h
  | .me m a es, X, W, g, w, n, hot, gd, tb, hu, e, h => by
    have q : PE X e (tE g (cal g n) w W (.me m a es)) := by
      unfold okT at h; split at h
      · simp only [Bool.and_eq_true, decide_eq_true_eq] at h
        obtain ⟨⟨⟨⟨⟨⟨h0, h1⟩, h2⟩, h3⟩, h4⟩, h6⟩, h5⟩ := h
        have h0 : hot = false := by simpa using h0
        subst h0
        subst h1
        cases es with
        | nil =>
          unfold okEs at h5; split at h5
          · exact sE_me0 gd (sE a gd tb hu h6) (meB_base h4) h2
          · cases h5
        | cons i is =>
          have hp := okEs_plain (X := X) h5
          have hs := sEs (.cons i is) gd tb hu h5
          unfold okEs at h5; split at h5
          · exact sE_me gd (sE a gd tb hu h6) (meB_base h4) hs hp h3 h2
          · cases h5
      · cases h
    refine ⟨sT_val q gd.fx.hK ?_ (fun _ => rfl), fun op vs pos z => ?_⟩
    · unfold okT at h; split at h
      · intro _; rfl
      · cases h
    · subst z; unfold okT at h; cases h
  | .non, X, W, g, w, n, hot, gd, tb, hu, e, h => by unfold okT at h; cases h
  | .int _, X, W, g, w, n, hot, gd, tb, hu, e, h => by unfold okT at h; cases h
  | .str _, X, W, g, w, n, hot, gd, tb, hu, e, h => by unfold okT at h; cases h
  | .g _, X, W, g, w, n, hot, gd, tb, hu, e, h => by unfold okT at h; cases h
  | .bin _ _ _, X, W, g, w, n, hot, gd, tb, hu, e, h => by unfold okT at h; cases h
  | .neg _, X, W, g, w, n, hot, gd, tb, hu, e, h => by unfold okT at h; cases h
  | .ife _ _ _, X, W, g, w, n, hot, gd, tb, hu, e, h => by unfold okT at h; cases h
  | .tup _, X, W, g, w, n, hot, gd, tb, hu, e, h => by unfold okT at h; cases h
  | .lst _, X, W, g, w, n, hot, gd, tb, hu, e, h => by unfold okT at h; cases h
  | .emp, X, W, g, w, n, hot, gd, tb, hu, e, h => by unfold okT at h; cases h
  | .sl _ _ _, X, W, g, w, n, hot, gd, tb, hu, e, h => by unfold okT at h; cases h
  | .fld _ _, X, W, g, w, n, hot, gd, tb, hu, e, h => by unfold okT at h; cases h
  | .xfl _ _, X, W, g, w, n, hot, gd, tb, hu, e, h => by unfold okT at h; cases h
  | .new _ _, X, W, g, w, n, hot, gd, tb, hu, e, h => by unfold okT at h; cases h
  | .hsm _ _, X, W, g, w, n, hot, gd, tb, hu, e, h => by unfold okT at h; cases h
  | .rvt _, X, W, g, w, n, hot, gd, tb, hu, e, h => by unfold okT at h; cases h
  | .rvl _, X, W, g, w, n, hot, gd, tb, hu, e, h => by unfold okT at h; cases h
  | .lsv _, X, W, g, w, n, hot, gd, tb, hu, e, h => by unfold okT at h; cases h
  | .rgt _ _, X, W, g, w, n, hot, gd, tb, hu, e, h => by unfold okT at h; cases h
  | .dl1 _ _, X, W, g, w, n, hot, gd, tb, hu, e, h => by unfold okT at h; cases h
  | .srk _ _, X, W, g, w, n, hot, gd, tb, hu, e, h => by unfold okT at h; cases h
  | .hcall _ _, X, W, g, w, n, hot, gd, tb, hu, e, h => by unfold okT at h; cases h
  | .bm _ _ _, X, W, g, w, n, hot, gd, tb, hu, e, h => by unfold okT at h; cases h
  | .join _ _, X, W, g, w, n, hot, gd, tb, hu, e, h => by unfold okT at h; cases h
  | .lc _ _ _ _, X, W, g, w, n, hot, gd, tb, hu, e, h => by unfold okT at h; cases h
  | .dc _ _ _ _, X, W, g, w, n, hot, gd, tb, hu, e, h => by unfold okT at h; cases h
end
end S2

set_option maxHeartbeats 4000000
/-! S2o: the slots of a def in between. -/
namespace S2
open PySem PySem.Spec PyProof.Rows L2

def SlotOk (w : Wr) (H : Hp) (P : Addr → Prop) (ow : List Addr) : Own → D → V → Prop
  | .sh, d, v => ow = [] ∧ Rep w H P d v
  | .o1, d, v => ∃ p, ow = [p] ∧ v = .ref p ∧ isLD d = true ∧ RepK w H P d v
  | .o2, d, v => ∃ p qs l, ow = p :: qs ∧ (p :: qs).Nodup ∧ d = .lst l ∧ v = .ref p ∧ H p = some (.lst (qs.map V.ref)) ∧ Kids w H P l qs
  | .oi, d, v => ∃ p c ns ds, ow = [p] ∧ d = .ob c ns ds ∧ v = .ref p ∧ RepK w H P d v
  | .ex, d, v => ow = [] ∧ v = .ref w.xi.a ∧ XR w H P w.xi.cls w.xi.dd d
/-- all that is owned -/
def Pof (P0 : Addr → Prop) (own : Nat → List Addr) : Addr → Prop := fun a => P0 a ∨ ∃ i, a ∈ own i
structure EnvS (w : Wr) (H0 : Hp) (P0 : Addr → Prop) (X0 : Addr) (H : Hp) (σ : L2.St) (env : Env) (own : Nat → List Addr) : Prop where
  len : env.length = σ.length
  same : Same H0 H
  dom0 : Dom P0 H0
  dis : ∀ i j a, a ∈ own i → a ∈ own j → i = j
  new : ∀ i a, a ∈ own i → H0 a = none
  slot : ∀ i o d, env[i]? = some (some (o, d)) → ∃ v, σ[i]? = some (some v) ∧ SlotOk w H (Pof P0 own) (own i) o d v
  emp : ∀ i, (∀ o d, env[i]? ≠ some (some (o, d))) → own i = []
  one : ∀ (i : Nat) (d : D) (v : V), env[i]? = some (some (Own.oi, d)) → σ[i]? = some (some v) → v = V.ref X0
section
variable {w : Wr} {H0 H H1 : Hp} {P0 P P' : Addr → Prop} {X0 : Addr} {σ : L2.St} {env : Env} {own : Nat → List Addr} {ow : List Addr}
theorem SlotOk.wide (s : ∀ a, P' a → P a ∨ H a = none) : ∀ {o : Own} {d : D} {v : V}, SlotOk w H P ow o d v → SlotOk w H P' ow o d v
  | .sh, _, _, ⟨e, r⟩ => ⟨e, Rep.wide s _ _ r⟩
  | .o1, _, _, ⟨p, e, e2, l, r⟩ => ⟨p, e, e2, l, RepK.wide s _ _ r⟩
  | .o2, _, _, ⟨p, qs, l, e, nd, e1, e2, h, k⟩ => ⟨p, qs, l, e, nd, e1, e2, h, k.wide s⟩
  | .oi, _, _, ⟨p, c, ns, ds, e, e1, e2, r⟩ => ⟨p, c, ns, ds, e, e1, e2, RepK.wide s _ _ r⟩
  | .ex, _, _, e => ⟨e.1, e.2.1, e.2.2.wide s⟩
theorem SlotOk.same (s : Same H H1) : ∀ {o : Own} {d : D} {v : V}, SlotOk w H P ow o d v → SlotOk w H1 P ow o d v
  | .sh, _, _, ⟨e, r⟩ => ⟨e, Rep.same s _ _ r⟩
  | .o1, _, _, ⟨p, e, e2, l, r⟩ => ⟨p, e, e2, l, RepK.same s _ _ r⟩
  | .o2, _, _, ⟨p, qs, l, e, nd, e1, e2, h, k⟩ => ⟨p, qs, l, e, nd, e1, e2, s _ _ h, k.same s⟩
  | .oi, _, _, ⟨p, c, ns, ds, e, e1, e2, r⟩ => ⟨p, c, ns, ds, e, e1, e2, RepK.same s _ _ r⟩
  | .ex, _, _, e => ⟨e.1, e.2.1, e.2.2.same s⟩
theorem EnvS.later (E : EnvS w H0 P0 X0 H σ env own) (s : Same H H1) : EnvS w H0 P0 X0 H1 σ env own :=
  ⟨E.len, E.same.trans s, E.dom0, E.dis, E.new, fun i o d e => (E.slot i o d e).imp fun _ q => ⟨q.1, q.2.same s⟩, E.emp, E.one⟩
/-- what stands at an owned address -/
def OwnObj (w : Wr) (x : Option HO) : Prop := Mut x
theorem repK_mut {d : D} {v : V} {p : Addr} (e : v = .ref p) (r : RepK w H P d v) (h : isLD d = true ∨ ∃ c ns ds, d = .ob c ns ds) : Mut (H p) := by
  rcases h with h | ⟨c, ns, ds, rfl⟩
  · cases d <;> simp only [isLD, Bool.false_eq_true] at h
    · obtain ⟨_, vs, e3, hp, _⟩ := r
      rw [e] at e3; cases e3
      rw [hp]; trivial
    · obtain ⟨_, e3, hp⟩ := r
      rw [e] at e3; cases e3
      rcases hp with ⟨_, hp, _⟩ | ⟨_, hp, _⟩ <;> (rw [hp]; trivial)
  · obtain ⟨_, dx, fs, e3, hp, _⟩ := r
    rw [e] at e3; cases e3
    rw [hp]; trivial
theorem SlotOk.muts {o : Own} {d : D} {v : V} (h : SlotOk w H P ow o d v) : ∀ a ∈ ow, Mut (H a) := by
  intro a m
  cases o with
  | sh => rw [h.1] at m; cases m
  | ex => rw [h.1] at m; cases m
  | o1 =>
    obtain ⟨p, e, e2, l, r⟩ := h
    rw [e] at m
    cases List.mem_singleton.mp m
    exact repK_mut e2 r (.inl l)
  | oi =>
    obtain ⟨p, c, ns, ds, e, e1, e2, r⟩ := h
    rw [e] at m
    cases List.mem_singleton.mp m
    exact repK_mut e2 r (.inr ⟨_, _, _, e1⟩)
  | o2 =>
    obtain ⟨p, qs, l, e, nd, e1, e2, h, k⟩ := h
    rw [e] at m
    rcases List.mem_cons.mp m with z | z
    · rw [z, h]; trivial
    · obtain ⟨us, q⟩ := k.there a z
      rw [q]; trivial
theorem EnvS.at_ (E : EnvS w H0 P0 X0 H σ env own) {i : Nat} {a : Addr} (m : a ∈ own i) : ∃ o d v, env[i]? = some (some (o, d)) ∧ σ[i]? = some (some v) ∧ SlotOk w H (Pof P0 own) (own i) o d v := by
  by_cases z : ∃ o d, env[i]? = some (some (o, d))
  · obtain ⟨o, d, e⟩ := z
    obtain ⟨v, h1, h2⟩ := E.slot i o d e
    exact ⟨o, d, v, e, h1, h2⟩
  · have := E.emp i fun o d e => z ⟨o, d, e⟩
    rw [this] at m; cases m
theorem EnvS.mut (E : EnvS w H0 P0 X0 H σ env own) {i : Nat} {a : Addr} (m : a ∈ own i) : Mut (H a) := by
  obtain ⟨o, d, v, _, _, s⟩ := E.at_ m
  exact s.muts a m
theorem EnvS.dom (E : EnvS w H0 P0 X0 H σ env own) : Dom (Pof P0 own) H := fun a z => by
  rcases z with z | ⟨i, z⟩
  · exact E.dom0.same E.same a z
  · intro e
    have := E.mut z
    rw [e] at this
    exact this
/-- an owned address is none of the caller's -/
theorem EnvS.notP0 (E : EnvS w H0 P0 X0 H σ env own) {i : Nat} {a : Addr} (m : a ∈ own i) : ¬ P0 a := fun z => E.dom0 a z (E.new i a m)

/-! ### freezing -/
theorem frzA_get (is : List (Nat × Bool)) : ∀ (env : Env) (k j : Nat), (frzA is k env)[j]? = (env[j]?).map (frzS is (k + j))
  | [], _, _ => by simp [frzA]
  | s :: r, k, 0 => by simp [frzA]
  | s :: r, k, j + 1 => by
    show (frzA is (k + 1) r)[j]? = _
    rw [frzA_get is r (k + 1) j]
    simp only [List.getElem?_cons_succ]
    rw [show k + 1 + j = k + (j + 1) by omega]
theorem frz_get {is : List (Nat × Bool)} {env : Env} {j : Nat} : (frz is env)[j]? = (env[j]?).map (frzS is j) := by
  unfold frz
  rw [frzA_get, Nat.zero_add]
theorem frzA_len (is : List (Nat × Bool)) : ∀ (env : Env) (k : Nat), (frzA is k env).length = env.length
  | [], _ => rfl
  | s :: r, k => by
    show (frzA is (k + 1) r).length + 1 = _
    rw [frzA_len is r (k + 1)]; rfl
/-- what stays owned -/
def kept (is : List (Nat × Bool)) (env : Env) (own : Nat → List Addr) (k : Nat) : List Addr := match env[k]? with
  | some (some (.o1, _)) => if is.contains (k, true) = true then [] else own k
  | some (some (.o2, _)) => if is.contains (k, true) = true then [] else if is.contains (k, false) = true then (own k).take 1 else own k
  | _ => own k
theorem kept_sub {is : List (Nat × Bool)} {k : Nat} : ∀ a ∈ kept is env own k, a ∈ own k := by
  intro a m
  unfold kept at m
  split at m
  · split at m
    · cases m
    · exact m
  · split at m
    · cases m
    · split at m
      · exact List.mem_of_mem_take m
      · exact m
  · exact m
theorem pof_kept {is : List (Nat × Bool)} : ∀ a, Pof P0 (kept is env own) a → Pof P0 own a := fun a z => z.imp id fun ⟨i, m⟩ => ⟨i, kept_sub a m⟩
theorem EnvS.frz (E : EnvS w H0 P0 X0 H σ env own) (is : List (Nat × Bool)) : EnvS w H0 P0 X0 H σ (frz is env) (kept is env own) where
  len := by unfold S2.frz; rw [frzA_len]; exact E.len
  same := E.same
  dom0 := E.dom0
  dis := fun i j a h1 h2 => E.dis i j a (kept_sub a h1) (kept_sub a h2)
  new := fun i a h => E.new i a (kept_sub a h)
  one := fun i d v e hv => by
    rw [frz_get] at e
    cases q : env[i]? with
    | none => rw [q] at e; cases e
    | some s =>
      rw [q] at e
      have e : frzS is i s = some (.oi, d) := Option.some.inj e
      have : s = some (.oi, d) := by
        cases s with
        | none => cases e
        | some od =>
          obtain ⟨o1, d1⟩ := od
          cases o1 <;> unfold frzS at e <;> (repeat' split at e) <;> cases e <;> rfl
      exact E.one i d v (by rw [q, this]) hv
  emp := fun i h => by
    have : own i = [] := E.emp i fun o d e => by
      have q : (S2.frz is env)[i]? = some (frzS is i (some (o, d))) := by rw [frz_get, e]; rfl
      have : ∃ o' d', frzS is i (some (o, d)) = some (o', d') := by
        cases o <;> unfold frzS <;> (repeat' split) <;> exact ⟨_, _, rfl⟩
      obtain ⟨o', d', q'⟩ := this
      exact h o' d' (by rw [q, q'])
    refine List.eq_nil_iff_forall_not_mem.mpr fun a m => ?_
    have := kept_sub a m
    rw [‹own i = []›] at this
    cases this
  slot := fun i o d e => by
    rw [frz_get] at e
    cases q : env[i]? with
    | none => rw [q] at e; cases e
    | some s =>
      rw [q] at e
      have e : frzS is i s = some (o, d) := Option.some.inj e
      cases s with
      | none => cases e
      | some od =>
        obtain ⟨o1, d1⟩ := od
        obtain ⟨v, hv, so⟩ := E.slot i o1 d1 q
        refine ⟨v, hv, ?_⟩
        have sub : ∀ a, Pof P0 (kept is env own) a → Pof P0 own a ∨ H a = none := fun a z => .inl (pof_kept a z)
        have none_of : ∀ a ∈ own i, kept is env own i = [] → ¬ Pof P0 (kept is env own) a := fun a m k z => by
          rcases z with z | ⟨j, z⟩
          · exact E.notP0 m z
          · have := E.dis j i a (kept_sub a z) m
            subst this
            rw [k] at z; cases z
        cases o1 with
        | sh =>
          cases e
          have : kept is env own i = own i := by unfold kept; rw [q]
          rw [this]; exact so.wide sub
        | oi =>
          cases e
          have : kept is env own i = own i := by unfold kept; rw [q]
          rw [this]; exact so.wide sub
        | ex =>
          cases e
          have : kept is env own i = own i := by unfold kept; rw [q]
          rw [this]; exact so.wide sub
        | o1 =>
          have e : (if is.contains (i, true) = true then some (Own.sh, d1) else some (Own.o1, d1)) = some (o, d) := e
          split at e
          · rename_i hc
            cases e
            have k : kept is env own i = [] := by unfold kept; rw [q]; simp only [hc, if_true]
            obtain ⟨p, e1, e2, l, r⟩ := so
            refine ⟨k, ?_⟩
            have np := none_of p (by rw [e1]; exact List.mem_singleton.mpr rfl) k
            have r := RepK.wide sub _ _ r
            subst e2
            cases d <;> simp only [isLD, Bool.false_eq_true] at l
            · obtain ⟨a', vs, e3, hp, rr⟩ := r
              cases e3
              exact ⟨p, vs, rfl, hp, np, rr⟩
            · obtain ⟨a', e3, hp⟩ := r
              cases e3
              exact ⟨p, rfl, np, hp⟩
          · rename_i hc
            cases e
            have k : kept is env own i = own i := by unfold kept; rw [q]; simp only [hc]; rfl
            rw [k]; exact so.wide sub
        | o2 =>
          have e : (if is.contains (i, true) = true then some (Own.sh, d1) else if is.contains (i, false) = true then some (Own.o1, d1) else some (Own.o2, d1)) = some (o, d) := e
          split at e
          · rename_i hc
            cases e
            have k : kept is env own i = [] := by unfold kept; rw [q]; simp only [hc, if_true]
            obtain ⟨p, qs, l, e1, nd, e2, e3, hp, ks⟩ := so
            have np : ∀ a ∈ own i, ¬ Pof P0 (kept is env own) a := fun a m => none_of a m k
            rw [e1] at np
            subst e2; subst e3
            exact ⟨k, p, _, rfl, hp, np p List.mem_cons_self, Kids.reps (fun a z => pof_kept a z) (fun a m => np a (List.mem_cons_of_mem _ m)) ks⟩
          · rename_i hc
            split at e
            · rename_i hc2
              cases e
              obtain ⟨p, qs, l, e1, nd, e2, e3, hp, ks⟩ := so
              have k : kept is env own i = [p] := by unfold kept; rw [q]; simp only [hc, hc2]; rw [e1]; rfl
              subst e2; subst e3
              refine ⟨p, k, rfl, rfl, p, _, rfl, hp, Kids.reps (fun a z => pof_kept a z) (fun a m z => ?_) ks⟩
              rcases z with z | ⟨j, z⟩
              · exact E.notP0 (i := i) (by rw [e1]; exact List.mem_cons_of_mem _ m) z
              · have := E.dis j i a (kept_sub a z) (by rw [e1]; exact List.mem_cons_of_mem _ m)
                subst this
                rw [k] at z
                cases List.mem_singleton.mp z
                exact (List.nodup_cons.mp nd).1 m
            · rename_i hc2
              cases e
              have k : kept is env own i = own i := by unfold kept; rw [q]; simp only [hc, hc2]; rfl
              rw [k]; exact so.wide sub
/-- the slots as an expression reads them -/
theorem EnvS.enter (E : EnvS w H0 P0 X0 H σ env own) (is : List (Nat × Bool)) : EnvE w H (Pof P0 (kept is env own)) σ env is := by
  refine ⟨⟨E.len, fun i m d e => ?_⟩, fun i m o d e ox oy => ?_⟩
  · have q : (S2.frz is env)[i.1]? = some (some (.ex, d)) := by rw [frz_get, e]; rfl
    obtain ⟨v, hv, so⟩ := (E.frz is).slot i.1 _ _ q
    exact ⟨by rw [hv, so.2.1], so.2.2⟩
  have q : (S2.frz is env)[i.1]? = some (frzS is i.1 (some (o, d))) := by rw [frz_get, e]; rfl
  obtain ⟨i, b⟩ := i
  have mc : is.contains (i, b) = true := by simpa using m
  have F := (E.frz is).slot i
  cases o with
  | ex => exact absurd rfl ox
  | sh =>
    obtain ⟨v, hv, so⟩ := F _ _ q
    refine ⟨v, hv, ?_⟩
    split
    · exact so.2
    · exact so.2.k
  | oi =>
    obtain ⟨v, hv, so⟩ := F _ _ q
    refine ⟨v, hv, ?_⟩
    split
    · exact absurd rfl (oy (by assumption))
    · obtain ⟨_, _, _, _, _, _, _, r⟩ := so
      exact r
  | o1 =>
    cases b with
    | true =>
      have q : (S2.frz is env)[i]? = some (some (.sh, d)) := by rw [q]; unfold frzS; simp only [mc, if_true]
      obtain ⟨v, hv, so⟩ := F _ _ q
      exact ⟨v, hv, so.2⟩
    | false =>
      by_cases hc : is.contains (i, true) = true
      · have q : (S2.frz is env)[i]? = some (some (.sh, d)) := by rw [q]; unfold frzS; simp only [hc, if_true]
        obtain ⟨v, hv, so⟩ := F _ _ q
        exact ⟨v, hv, so.2.k⟩
      · have q : (S2.frz is env)[i]? = some (some (.o1, d)) := by rw [q]; unfold frzS; simp only [hc]; rfl
        obtain ⟨v, hv, so⟩ := F _ _ q
        obtain ⟨_, _, _, _, r⟩ := so
        exact ⟨v, hv, r⟩
  | o2 =>
    cases b with
    | true =>
      have q : (S2.frz is env)[i]? = some (some (.sh, d)) := by rw [q]; unfold frzS; simp only [mc, if_true]
      obtain ⟨v, hv, so⟩ := F _ _ q
      exact ⟨v, hv, so.2⟩
    | false =>
      by_cases hc : is.contains (i, true) = true
      · have q : (S2.frz is env)[i]? = some (some (.sh, d)) := by rw [q]; unfold frzS; simp only [hc, if_true]
        obtain ⟨v, hv, so⟩ := F _ _ q
        exact ⟨v, hv, so.2.k⟩
      · have q : (S2.frz is env)[i]? = some (some (.o1, d)) := by rw [q]; unfold frzS; simp only [hc, mc]; rfl
        obtain ⟨v, hv, so⟩ := F _ _ q
        obtain ⟨_, _, _, _, r⟩ := so
        exact ⟨v, hv, r⟩
end
end S2

set_option maxHeartbeats 4000000
/-! S2p: what a statement makes of the slots. -/
namespace S2
open PySem PySem.Spec PyProof.Rows L2

section
variable {w : Wr} {H0 H H1 : Hp} {O P0 P P' : Addr → Prop} {X0 : Addr} {σ σ' : L2.St} {env env' : Env} {own : Nat → List Addr} {ow : List Addr} {v : OD} {x : V}
theorem IsLD.same (s : Same H H1) {p : Addr} (h : IsLD (H p)) : IsLD (H1 p) := by
  cases e : H p with
  | none => rw [e] at h; exact h.elim
  | some o => rw [s _ _ e, ← e]; exact h
/-- what is given up by freezing are lists and dicts -/
theorem EnvS.ld (E : EnvS w H0 P0 X0 H σ env own) {is : List (Nat × Bool)} {a : Addr} (h : Pof P0 own a) : Pof P0 (kept is env own) a ∨ IsLD (H a) := by
  rcases h with h | ⟨i, h⟩
  · exact .inl (.inl h)
  · by_cases z : a ∈ kept is env own i
    · exact .inl (.inr ⟨i, z⟩)
    · obtain ⟨o, d, v, e, _, so⟩ := E.at_ h
      cases o with
      | sh => rw [so.1] at h; cases h
      | ex => rw [so.1] at h; cases h
      | oi =>
        have : kept is env own i = own i := by unfold kept; rw [e]
        rw [this] at z
        exact absurd h z
      | o1 =>
        obtain ⟨p, e1, e2, l, r⟩ := so
        rw [e1] at h
        cases List.mem_singleton.mp h
        refine .inr ?_
        cases d <;> simp only [isLD, Bool.false_eq_true] at l
        · obtain ⟨_, vs, e3, hp, _⟩ := r
          rw [e2] at e3; cases e3
          rw [hp]; trivial
        · obtain ⟨_, e3, hp⟩ := r
          rw [e2] at e3; cases e3
          rcases hp with ⟨_, hp, _⟩ | ⟨_, hp, _⟩ <;> (rw [hp]; trivial)
      | o2 =>
        obtain ⟨p, qs, l, e1, nd, e2, e3, hp, ks⟩ := so
        rw [e1] at h
        refine .inr ?_
        rcases List.mem_cons.mp h with q | q
        · rw [q, hp]; trivial
        · obtain ⟨us, y⟩ := ks.there a q
          rw [y]; trivial
theorem any_false {α : Type} {p : α → Bool} {l : List α} (h : l.any p = false) : ∀ a ∈ l, p a = false := by
  intro a m
  cases q : p a with
  | false => rfl
  | true => rw [List.any_eq_true.mpr ⟨a, m, q⟩] at h; cases h
theorem Kids.up (s : ∀ a, P' a → P a ∨ IsLD (H a)) : ∀ {l : List D} {qs : List Addr}, (l.any fun k => hasLs (kids k)) = false → Kids w H P l qs → Kids w H P' l qs
  | [], _, _, h => h
  | d :: l, _, a, ⟨m, q, r, us, e, e2, h, hr, t⟩ => by
    subst e
    rw [List.any_cons, Bool.or_eq_false_iff] at a
    exact ⟨m, q, r, us, rfl, e2, h, Reps.up s _ _ a.1 hr, Kids.up s a.2 t⟩
theorem VR.up (hl : leaks v = false) (dom : Dom P H) (s : ∀ a, P a → O a ∨ IsLD (H1 a)) (r : VR w H H1 O v x) : VR w H H1 P v x := by
  obtain ⟨o, d⟩ := v
  obtain ⟨r1, f⟩ := r
  cases o with
  | sh => exact ⟨Rep.up s _ _ hl r1, True.intro⟩
  | oi => exact f.elim
  | ex => exact f.elim
  | o1 =>
    obtain ⟨p, e, n, l, rk⟩ := f
    have s2 : ∀ a, (P a ∨ a = p) → (O a ∨ a = p) ∨ IsLD (H1 a) := fun a z => by
      rcases z with z | z
      · exact (s a z).imp .inl id
      · exact .inl (.inr z)
    have np : ¬ P p := dom.free n
    have hl : hasLs (kids d) = false := hl
    have rk' : RepK w H1 (fun a => P a ∨ a = p) d x := by
      cases d <;> simp only [isLD, Bool.false_eq_true] at l
      · obtain ⟨a, vs, e3, hp, rr⟩ := rk
        exact ⟨a, vs, e3, hp, Reps.up s2 _ _ hl rr⟩
      · obtain ⟨a, e3, hp⟩ := rk
        exact ⟨a, e3, hp.imp (fun ⟨kvs, q, k, r⟩ => ⟨kvs, q, k, Reps.up s2 _ _ hl r⟩) (fun ⟨kvs, q, k, r⟩ => ⟨kvs, q, k, Reps.up s2 _ _ hl r⟩)⟩
    refine ⟨?_, p, e, n, l, rk'⟩
    cases d <;> simp only [isLD, Bool.false_eq_true] at l
    · obtain ⟨a, vs, e3, hp, rr⟩ := rk'
      rw [e] at e3; cases e3
      exact ⟨p, vs, e, hp, np, Reps.mono (fun a z => .inl z) _ _ rr⟩
    · obtain ⟨a, e3, hp⟩ := rk'
      rw [e] at e3; cases e3
      exact ⟨p, e, np, hp.imp (fun ⟨kvs, q, k, r⟩ => ⟨kvs, q, k, Reps.mono (fun a z => .inl z) _ _ r⟩) (fun ⟨kvs, q, k, r⟩ => ⟨kvs, q, k, Reps.mono (fun a z => .inl z) _ _ r⟩)⟩
  | o2 =>
    obtain ⟨p, qs, l, e, e2, n, hp, nd, q, ks⟩ := f
    have e : d = .lst l := e
    subst e
    have hl : (l.any fun k => hasLs (kids k)) = false := hl
    have ks' : Kids w H1 (fun a => P a ∨ a ∈ p :: qs) l qs := Kids.up (fun a z => by
      rcases z with z | z
      · exact (s a z).imp .inl id
      · exact .inl (.inr z)) hl ks
    exact ⟨⟨p, _, e2, hp, dom.free n, Kids.reps (fun a z => .inl z) (fun a m => dom.free (q a m)) ks'⟩, p, qs, l, rfl, e2, n, hp, nd, q, ks'⟩
/-- behind an expression -/
theorem EnvS.aftI (E : EnvS w H0 P0 X0 H σ env own) (is : List (Nat × Bool)) (s : Same H H1) (r : VR w H H1 (Pof P0 (kept is env own)) v x) : ∃ own1, EnvS w H0 P0 X0 H σ (aftI is v env) own1 ∧ VR w H H1 (Pof P0 own1) v x := by
  unfold S2.aftI
  split
  · exact ⟨_, E.frz is, r⟩
  · rename_i hl
    refine ⟨own, E, VR.up (by simpa using hl) E.dom (fun a z => (E.ld z).imp id fun z => IsLD.same s z) r⟩
theorem EnvS.aft (E : EnvS w H0 P0 X0 H σ env own) (e : S2.E) (s : Same H H1) (r : VR w H H1 (Pof P0 (kept (rd e) env own)) v x) : ∃ own1, EnvS w H0 P0 X0 H σ (aft e v env) own1 ∧ VR w H H1 (Pof P0 own1) v x := E.aftI (rd e) s r
/-- the value's own addresses -/
theorem VR.owned (r : VR w H H1 P v x) : ∃ ov : List Addr, (∀ a ∈ ov, H a = none) ∧ ∀ P2 : Addr → Prop, (∀ a, P2 a → P a ∨ a ∈ ov) → SlotOk w H1 P2 ov v.1 v.2 x := by
  obtain ⟨o, d⟩ := v
  obtain ⟨r1, f⟩ := r
  cases o with
  | sh => exact ⟨[], fun _ m => absurd m (by simp), fun P2 s => ⟨rfl, Rep.mono (fun a z => (s a z).elim id fun m => absurd m (by simp)) _ _ r1⟩⟩
  | oi => exact f.elim
  | ex => exact f.elim
  | o1 =>
    obtain ⟨p, e, n, l, rk⟩ := f
    exact ⟨[p], fun a m => by rw [List.mem_singleton.mp m]; exact n, fun P2 s => ⟨p, rfl, e, l, RepK.wide (fun a z => .inl ((s a z).imp id fun m => List.mem_singleton.mp m)) _ _ rk⟩⟩
  | o2 =>
    obtain ⟨p, qs, l, e, e2, n, hp, nd, q, ks⟩ := f
    refine ⟨p :: qs, fun a m => ?_, fun P2 s => ⟨p, qs, l, rfl, nd, e, e2, hp, ks.wide fun a z => .inl (s a z)⟩⟩
    rcases List.mem_cons.mp m with z | z
    · rw [z]; exact n
    · exact q a z
/-- a slot gets the value -/
theorem EnvS.set (E : EnvS w H0 P0 X0 H σ env own) (s : Same H H1) (r : VR w H H1 (Pof P0 own) v x) (i : Nat) : ∃ own2, EnvS w H0 P0 X0 H1 (σ.set i (some x)) (env.set i (some v)) own2 := by
  by_cases hi : i < env.length
  · obtain ⟨ov, hn, ok⟩ := VR.owned r
    have sub : ∀ a, Pof P0 (fun j => if j = i then ov else own j) a → Pof P0 own a ∨ a ∈ ov := fun a z => by
      rcases z with z | ⟨j, z⟩
      · exact .inl (.inl z)
      · by_cases e : j = i
        · exact .inr (by simpa only [e, if_true] using z)
        · exact .inl (.inr ⟨j, by simpa only [e, if_false] using z⟩)
    refine ⟨fun j => if j = i then ov else own j, ?_, E.same.trans s, E.dom0, fun j k a h1 h2 => ?_, fun j a h => ?_, fun j o d e => ?_, fun j h => ?_, fun j d u e hu => ?_⟩
    · rw [List.length_set, List.length_set]; exact E.len
    · have no : ∀ j, a ∈ ov → a ∈ own j → False := fun j m1 m2 => by
        have := E.mut m2
        rw [hn a m1] at this
        exact this
      by_cases e1 : j = i
      · by_cases e2 : k = i
        · rw [e1, e2]
        · simp only [e1, if_true] at h1
          simp only [e2, if_false] at h2
          exact (no k h1 h2).elim
      · by_cases e2 : k = i
        · simp only [e1, if_false] at h1
          simp only [e2, if_true] at h2
          exact (no j h2 h1).elim
        · simp only [e1, if_false] at h1
          simp only [e2, if_false] at h2
          exact E.dis j k a h1 h2
    · by_cases e1 : j = i
      · simp only [e1, if_true] at h
        exact E.same.free (hn a h)
      · simp only [e1, if_false] at h
        exact E.new j a h
    · by_cases e1 : j = i
      · subst e1
        rw [List.getElem?_set_self hi] at e
        cases e
        refine ⟨x, List.getElem?_set_self (E.len ▸ hi), ?_⟩
        simp only [if_true]
        exact ok _ sub
      · rw [List.getElem?_set_ne (Ne.symm e1)] at e
        obtain ⟨u, h1, h2⟩ := E.slot j o d e
        refine ⟨u, by rw [List.getElem?_set_ne (Ne.symm e1)]; exact h1, ?_⟩
        simp only [e1, if_false]
        exact (h2.wide fun a z => (sub a z).imp id fun m => hn a m).same s
    · by_cases e1 : j = i
      · subst e1
        exact absurd (List.getElem?_set_self hi) (h v.1 v.2)
      · simp only [e1, if_false]
        exact E.emp j fun o d e => h o d (by rw [List.getElem?_set_ne (Ne.symm e1)]; exact e)
    · by_cases e1 : j = i
      · subst e1
        rw [List.getElem?_set_self hi] at e
        cases e
        exact r.2.elim
      · rw [List.getElem?_set_ne (Ne.symm e1)] at e hu
        exact E.one j d u e hu
  · refine ⟨own, ?_⟩
    have hl := E.len
    have h1 : σ.length ≤ i := by omega
    have h2 : env.length ≤ i := by omega
    rw [List.set_eq_of_length_le h1, List.set_eq_of_length_le h2]
    exact E.later s
/-- some slots get shared values -/
theorem EnvS.put (E : EnvS w H0 P0 X0 H σ env own) {is : List Nat} (p : Put w H (Pof P0 own) is env σ env' σ') : ∃ own2, EnvS w H0 P0 X0 H σ' env' own2 := by
  have sub : ∀ a, Pof P0 (fun j => if j ∈ is then [] else own j) a → Pof P0 own a := fun a z => by
    rcases z with z | ⟨j, z⟩
    · exact .inl z
    · by_cases e : j ∈ is
      · simp only [e, if_true] at z; cases z
      · exact .inr ⟨j, by simpa only [e, if_false] using z⟩
  have sub1 : ∀ j a, a ∈ (if j ∈ is then [] else own j) → a ∈ own j := fun j a z => by
    by_cases e : j ∈ is
    · simp only [e, if_true] at z; cases z
    · simpa only [e, if_false] using z
  refine ⟨fun j => if j ∈ is then [] else own j, by rw [p.le, p.ls]; exact E.len, E.same, E.dom0, fun j k a h1 h2 => E.dis j k a (sub1 j a h1) (sub1 k a h2), fun j a h => E.new j a (sub1 j a h), fun j o d e => ?_, fun j h => ?_, fun j d u e hu => ?_⟩
  · by_cases e1 : j ∈ is
    · have hn : j < env.length := by
        have := (List.getElem?_eq_some_iff.mp e).1
        rw [p.le] at this; exact this
      obtain ⟨d', u, h1, h2, r⟩ := p.at' j e1 hn
      rw [h1] at e
      cases e
      refine ⟨u, h2, ?_⟩
      simp only [e1, if_true]
      exact ⟨rfl, Rep.mono sub _ _ r⟩
    · obtain ⟨h1, h2⟩ := p.out j e1
      rw [h1] at e
      obtain ⟨u, h3, h4⟩ := E.slot j o d e
      refine ⟨u, by rw [h2]; exact h3, ?_⟩
      simp only [e1, if_false]
      exact h4.wide fun a z => .inl (sub a z)
  · by_cases e1 : j ∈ is
    · simp only [e1, if_true]
    · simp only [e1, if_false]
      exact E.emp j fun o d e => h o d (by rw [(p.out j e1).1]; exact e)
  · by_cases e1 : j ∈ is
    · have hn : j < env.length := by
        have := (List.getElem?_eq_some_iff.mp e).1
        rw [p.le] at this; exact this
      obtain ⟨d', u', h1, h2, r⟩ := p.at' j e1 hn
      rw [h1] at e
      cases e
    · obtain ⟨h1, h2⟩ := p.out j e1
      rw [h1] at e
      rw [h2] at hu
      exact E.one j d u e hu
/-! ### written in place -/
theorem RepK.writeAt {p a : Addr} {u : HO} (op : P p) (m : Mut (H p)) (ne : a ≠ p) : ∀ {d : D}, RepK w H P d (.ref a) → RepK w (upd H p u) P d (.ref a)
  | .non, h => h
  | .bl _, h => h
  | .int _, h => h
  | .str _, h => h
  | .scr l, h => Rep.write op m (.scr l) _ h
  | .tup l, h => Rep.write op m (.tup l) _ h
  | .lst l, ⟨a', vs, e, h, r⟩ => by cases e; exact ⟨a, vs, rfl, by rw [upd_ne ne]; exact h, Reps.write op m _ _ r⟩
  | .dct _ ds, ⟨a', e, h⟩ => by
    cases e
    exact ⟨a, rfl, h.imp (fun ⟨kvs, q, k, r⟩ => ⟨kvs, by rw [upd_ne ne]; exact q, k, Reps.write op m _ _ r⟩) (fun ⟨kvs, q, k, r⟩ => ⟨kvs, by rw [upd_ne ne]; exact q, k, Reps.write op m _ _ r⟩)⟩
  | .ob _ _ ds, ⟨a', dx, fs, e, h, k, r⟩ => by cases e; exact ⟨a, dx, fs, rfl, by rw [upd_ne ne]; exact h, k, Reps.write op m _ _ r⟩
theorem SlotOk.write {p : Addr} {u : HO} (op : P p) (m : Mut (H p)) (n : p ∉ ow) : ∀ {o : Own} {d : D} {v : V}, SlotOk w H P ow o d v → SlotOk w (upd H p u) P ow o d v
  | .sh, _, _, ⟨e, r⟩ => ⟨e, Rep.write op m _ _ r⟩
  | .o1, _, _, ⟨q, e, e2, l, r⟩ => ⟨q, e, e2, l, by subst e2; exact RepK.writeAt op m (fun z => n (by rw [e, z]; exact List.mem_singleton.mpr rfl)) r⟩
  | .o2, _, _, ⟨q, qs, l, e, nd, e1, e2, h, k⟩ => ⟨q, qs, l, e, nd, e1, e2, by rw [upd_ne (fun z => n (by rw [e, z]; exact List.mem_cons_self))]; exact h, k.write op m fun z => n (by rw [e]; exact List.mem_cons_of_mem _ z)⟩
  | .oi, _, _, ⟨q, c, ns, ds, e, e1, e2, r⟩ => ⟨q, c, ns, ds, e, e1, e2, by subst e2; exact RepK.writeAt op m (fun z => n (by rw [e, z]; exact List.mem_singleton.mpr rfl)) r⟩
  | .ex, _, _, e => ⟨e.1, e.2.1, e.2.2.write op m⟩
/-- one slot's own object is written -/
theorem EnvS.writ (E : EnvS w H0 P0 X0 H σ env own) {i : Nat} {p : Addr} {u : HO} {o : Own} {d : D} (m : p ∈ own i) (oi : o = .oi → ∃ d', env[i]? = some (some (.oi, d'))) (new : ∀ x, σ[i]? = some (some x) → SlotOk w (upd H p u) (Pof P0 own) (own i) o d x) : EnvS w H0 P0 X0 (upd H p u) σ (env.set i (some (o, d))) own := by
  obtain ⟨o1, d1, v1, e1, e2, so⟩ := E.at_ m
  have hi : i < env.length := (List.getElem?_eq_some_iff.mp e1).1
  have op : Pof P0 own p := .inr ⟨i, m⟩
  have mu := E.mut m
  refine ⟨by rw [List.length_set]; exact E.len, fun b x h => ?_, E.dom0, E.dis, E.new, fun j o' d' e => ?_, fun j h => ?_, fun j d' u' e hu => ?_⟩
  · have : b ≠ p := fun z => by rw [z, E.new i p m] at h; cases h
    rw [upd_ne this]
    exact E.same _ _ h
  · by_cases z : j = i
    · subst z
      rw [List.getElem?_set_self hi] at e
      cases e
      exact ⟨v1, e2, new v1 e2⟩
    · rw [List.getElem?_set_ne (Ne.symm z)] at e
      obtain ⟨x, h1, h2⟩ := E.slot j o' d' e
      exact ⟨x, h1, h2.write op mu fun q => z (E.dis j i p q m)⟩
  · by_cases z : j = i
    · subst z
      exact absurd (List.getElem?_set_self hi) (h o d)
    · exact E.emp j fun o' d' e => h o' d' (by rw [List.getElem?_set_ne (Ne.symm z)]; exact e)
  · by_cases z : j = i
    · subst z
      rw [List.getElem?_set_self hi] at e
      cases e
      obtain ⟨d2, e2⟩ := oi rfl
      exact E.one j d2 u' e2 hu
    · rw [List.getElem?_set_ne (Ne.symm z)] at e
      exact E.one j d' u' e hu
theorem EnvS.upd1 (E : EnvS w H0 P0 X0 H σ env own) {i : Nat} {l : List D} (e : env[i]? = some (some (.o1, .lst l))) : ∃ p vs, σ[i]? = some (some (.ref p)) ∧ H p = some (.lst vs) ∧ Reps w H (Pof P0 own) l vs ∧
    ∀ l' vs', Reps w H (Pof P0 own) l' vs' → EnvS w H0 P0 X0 (upd H p (.lst vs')) σ (env.set i (some (.o1, .lst l'))) own := by
  obtain ⟨x, hx, p, e1, e2, _, r⟩ := E.slot i _ _ e
  obtain ⟨_, vs, e3, hp, rr⟩ := r
  rw [e2] at e3; cases e3
  have m : p ∈ own i := by rw [e1]; exact List.mem_singleton.mpr rfl
  refine ⟨p, vs, by rw [hx, e2], hp, rr, fun l' vs' r' => E.writ m (fun z => by cases z) fun x' hx' => ?_⟩
  rw [hx] at hx'
  cases hx'
  exact ⟨p, e1, e2, rfl, p, vs', e2, upd_same, Reps.write (.inr ⟨i, m⟩) (E.mut m) _ _ r'⟩
theorem EnvS.updD (E : EnvS w H0 P0 X0 H σ env own) {i : Nat} {ks ds : List D} (e : env[i]? = some (some (.o1, .dct ks ds))) (ht : isTk ks = false) : ∃ p, ∃ kvs : List (Key × V), σ[i]? = some (some (.ref p)) ∧ H p = some (.dK kvs) ∧ ks = kvs.map (fun q => keyD q.1) ∧ Reps w H (Pof P0 own) ds (kvs.map (·.2)) ∧
    ∀ (kvs' : List (Key × V)) (ks' ds' : List D), ks' = kvs'.map (fun q => keyD q.1) → Reps w H (Pof P0 own) ds' (kvs'.map (·.2)) → EnvS w H0 P0 X0 (upd H p (.dK kvs')) σ (env.set i (some (.o1, .dct ks' ds'))) own := by
  obtain ⟨x, hx, p, e1, e2, _, r⟩ := E.slot i _ _ e
  obtain ⟨p', kvs, e3, hp, h2, rr⟩ := dct_k r ht
  rw [e2] at e3; cases e3
  have m : p ∈ own i := by rw [e1]; exact List.mem_singleton.mpr rfl
  refine ⟨p, kvs, by rw [hx, e2], hp, h2, rr, fun kvs' ks' ds' k' r' => E.writ m (fun z => by cases z) fun x' hx' => ?_⟩
  rw [hx] at hx'
  cases hx'
  exact ⟨p, e1, e2, rfl, p, e2, .inl ⟨kvs', upd_same, k', Reps.write (.inr ⟨i, m⟩) (E.mut m) _ _ r'⟩⟩
theorem Kids.get : ∀ {l : List D} {qs : List Addr} {n : Nat} {m : List D}, Kids w H P l qs → l[n]? = some (.lst m) → ∃ q us, qs[n]? = some q ∧ H q = some (.lst us) ∧ Reps w H P m us
  | [], _, _, _, _, h => by simp at h
  | _ :: _, _, 0, m, ⟨m', q, r, us, e, e2, h, hr, _⟩, x => by
    subst e; subst e2
    cases (show D.lst m' = .lst m from Option.some.inj x)
    exact ⟨q, us, rfl, h, hr⟩
  | _ :: _, _, n + 1, m, ⟨_, q, r, us, e, e2, _, _, t⟩, x => by
    subst e2
    exact Kids.get (n := n) t x
theorem Kids.len : ∀ {l : List D} {qs : List Addr}, Kids w H P l qs → l.length = qs.length
  | [], _, h => by rw [show _ = [] from h]; rfl
  | _ :: _, _, ⟨_, q, r, us, e, e2, _, _, t⟩ => by rw [e2, List.length_cons, List.length_cons, Kids.len t]
theorem Kids.put {m' : List D} {us' : List V} {q : Addr} (op : P q) (mu : Mut (H q)) (hr : Reps w H P m' us') : ∀ {l : List D} {qs : List Addr} {n : Nat}, qs.Nodup → Kids w H P l qs → qs[n]? = some q → Kids w (upd H q (.lst us')) P (l.set n (.lst m')) qs
  | [], _, _, _, h, x => by rw [show _ = [] from h] at x; simp at x
  | _ :: _, _, 0, nd, ⟨m, q', r, us, e, e2, h, _, t⟩, x => by
    subst e; subst e2
    cases (show q' = q from Option.some.inj x)
    exact ⟨m', _, r, us', rfl, rfl, upd_same, Reps.write op mu _ _ hr, t.write op mu (List.nodup_cons.mp nd).1⟩
  | _ :: _, _, n + 1, nd, ⟨m, q', r, us, e, e2, h, hr', t⟩, x => by
    subst e; subst e2
    have x : r[n]? = some q := x
    have ne : q' ≠ q := fun z => (List.nodup_cons.mp nd).1 (by rw [z]; exact List.mem_of_getElem? x)
    exact ⟨m, q', r, us, rfl, rfl, by rw [upd_ne ne]; exact h, Reps.write op mu _ _ hr', Kids.put op mu hr (List.nodup_cons.mp nd).2 t x⟩
theorem EnvS.upd2 (E : EnvS w H0 P0 X0 H σ env own) {i n : Nat} {l m : List D} (e : env[i]? = some (some (.o2, .lst l))) (hn : l[n]? = some (.lst m)) : ∃ (p : Addr) (qs : List Addr) (q : Addr) (us : List V), σ[i]? = some (some (.ref p)) ∧ H p = some (.lst (qs.map V.ref)) ∧ qs.length = l.length ∧ qs[n]? = some q ∧ H q = some (.lst us) ∧ Reps w H (Pof P0 own) m us ∧
    ∀ m' us', Reps w H (Pof P0 own) m' us' → EnvS w H0 P0 X0 (upd H q (.lst us')) σ (env.set i (some (.o2, .lst (l.set n (.lst m'))))) own := by
  obtain ⟨x, hx, p, qs, l', e1, nd, e2, e3, hp, ks⟩ := E.slot i _ _ e
  cases e2
  obtain ⟨q, us, hq, hq2, hr⟩ := ks.get hn
  have mq : q ∈ qs := List.mem_of_getElem? hq
  have m1 : q ∈ own i := by rw [e1]; exact List.mem_cons_of_mem _ mq
  refine ⟨p, qs, q, us, by rw [hx, e3], hp, ks.len.symm, hq, hq2, hr, fun m' us' r' => E.writ m1 (fun z => by cases z) fun x' hx' => ?_⟩
  rw [hx] at hx'
  cases hx'
  have ne : p ≠ q := fun z => (List.nodup_cons.mp nd).1 (by rw [z]; exact mq)
  exact ⟨p, qs, _, e1, nd, rfl, e3, by rw [upd_ne ne]; exact hp, Kids.put (.inr ⟨i, m1⟩) (E.mut m1) r' (List.nodup_cons.mp nd).2 ks hq⟩
theorem putF_set {f : Str} {d : D} {y : V} : ∀ {ns : List Str} {ds : List D} {fs : List (Str × V)}, fs.map (·.1) = ns → Reps w H P ds (fs.map (·.2)) → Rep w H P d y → (putF f y fs).map (·.1) = (setF f d ns ds).1 ∧ Reps w H P (setF f d ns ds).2 ((putF f y fs).map (·.2))
  | [], ds, fs, e, r, ry => by
    have : fs = [] := by cases fs <;> first | rfl | cases e
    subst this
    have : ds = [] := by cases ds <;> first | rfl | (obtain ⟨_, _, z, _⟩ := r; cases z)
    subst this
    exact ⟨rfl, y, [], rfl, ry, rfl⟩
  | n :: ns, [], fs, e, r, ry => by
    have z : fs.map (·.2) = [] := r
    have : fs = [] := by cases fs <;> first | rfl | cases z
    subst this
    cases e
  | n :: ns, x :: ds, [], e, _, _ => by cases e
  | n :: ns, x :: ds, (m, v) :: fs, e, r, ry => by
    obtain ⟨v', r', e2, h1, h2⟩ := r
    have e1 : m = n := (List.cons.inj e).1
    have e3 : fs.map (·.1) = ns := (List.cons.inj e).2
    have e4 := List.cons.inj e2
    subst e1
    by_cases z : m = f
    · have p1 : putF f y ((m, v) :: fs) = (m, y) :: fs := by show (if m = f then _ else _) = _; rw [if_pos z]
      have p2 : setF f d (m :: ns) (x :: ds) = (m :: ns, d :: ds) := by show (if m = f then _ else _) = _; rw [if_pos z]
      rw [p1, p2]
      exact ⟨by rw [List.map_cons, e3], y, fs.map (·.2), rfl, ry, by rw [show fs.map (·.2) = r' from e4.2]; exact h2⟩
    · have p1 : putF f y ((m, v) :: fs) = (m, v) :: putF f y fs := by show (if m = f then _ else _) = _; rw [if_neg z]
      have p2 : setF f d (m :: ns) (x :: ds) = (m :: (setF f d ns ds).1, x :: (setF f d ns ds).2) := by show (if m = f then _ else _) = _; rw [if_neg z]
      obtain ⟨q1, q2⟩ := putF_set (f := f) e3 (by rw [show fs.map (·.2) = r' from e4.2]; exact h2) ry
      rw [p1, p2]
      exact ⟨by rw [List.map_cons, q1], v, _, rfl, by rw [show v = v' from e4.1]; exact h1, q2⟩
theorem EnvS.updI (E : EnvS w H0 P0 X0 H σ env own) {i : Nat} {c : Str} {ns : List Str} {ds : List D} (e : env[i]? = some (some (.oi, .ob c ns ds))) : ∃ p dx fs, σ[i]? = some (some (.ref p)) ∧ H p = some (.ins (w.ca c) dx fs) ∧ w.cl c = true ∧ fs.length = ns.length ∧
    ∀ f d y, Rep w H (Pof P0 own) d y → EnvS w H0 P0 X0 (upd H p (.ins (w.ca c) dx (putF f y fs))) σ (env.set i (some (.oi, .ob c (setF f d ns ds).1 (setF f d ns ds).2))) own := by
  obtain ⟨x, hx, p, c', ns', ds', e1, e0, e2, r⟩ := E.slot i _ _ e
  cases e0
  obtain ⟨_, dx, fs, e3, hp, ⟨hc, hk⟩, rr⟩ := r
  rw [e2] at e3; cases e3
  have m : p ∈ own i := by rw [e1]; exact List.mem_singleton.mpr rfl
  refine ⟨p, dx, fs, by rw [hx, e2], hp, hc, by rw [← hk, List.length_map], fun f d y ry => E.writ m (fun _ => ⟨_, e⟩) fun x' hx' => ?_⟩
  rw [hx] at hx'
  cases hx'
  obtain ⟨q1, q2⟩ := putF_set (f := f) hk rr ry
  exact ⟨p, c, _, _, e1, rfl, e2, p, dx, _, e2, upd_same, ⟨hc, q1⟩, Reps.write (.inr ⟨i, m⟩) (E.mut m) _ _ q2⟩
/-- a value with no list in it, among all that is owned -/
theorem EnvS.flat (E : EnvS w H0 P0 X0 H σ env own) {is : List (Nat × Bool)} {d : D} (s : Same H H1) (hl : hasL d = false) (r : Rep w H1 (Pof P0 (kept is env own)) d x) : Rep w H1 (Pof P0 own) d x :=
  Rep.up (fun a z => (E.ld z).imp id fun z => IsLD.same s z) _ _ hl r
/-- a value that leaves the def -/
theorem VR.back (E : EnvS w H0 P0 X0 H σ env own) (s : Same H H1) (sub : ∀ a, P0 a → O a) (r : VR w H H1 O v x) : VR w H0 H1 P0 v x := by
  obtain ⟨o, d⟩ := v
  obtain ⟨r1, f⟩ := r
  refine ⟨Rep.mono sub _ _ r1, ?_⟩
  have sub2 : ∀ (Z : Addr → Prop) a, (P0 a ∨ Z a) → (O a ∨ Z a) ∨ H1 a = none := fun Z a z => .inl (z.imp (sub a) id)
  cases o with
  | sh => exact True.intro
  | oi => exact f.elim
  | ex => exact f.elim
  | o1 =>
    obtain ⟨p, e, n, l, rk⟩ := f
    exact ⟨p, e, E.same.free n, l, RepK.wide (sub2 _) _ _ rk⟩
  | o2 =>
    obtain ⟨p, qs, l, e, e2, n, hp, nd, q, ks⟩ := f
    exact ⟨p, qs, l, e, e2, E.same.free n, hp, nd, fun a m => E.same.free (q a m), ks.wide (sub2 _)⟩
/-- a slot's value that leaves the def -/
theorem EnvS.gone (E : EnvS w H0 P0 X0 H σ env own) {i : Nat} {o : Own} {d : D} (e : env[i]? = some (some (o, d))) (ox : o ≠ .ex) (oy : o ≠ .oi) : ∃ x, σ[i]? = some (some x) ∧ VR w H0 H P0 (o, d) x := by
  obtain ⟨x, hx, so⟩ := E.slot i o d e
  refine ⟨x, hx, ?_⟩
  have sub : ∀ a, P0 a → Pof P0 own a := fun a z => .inl z
  cases o with
  | sh => exact ⟨Rep.mono sub _ _ so.2, True.intro⟩
  | oi => exact absurd rfl oy
  | ex => exact absurd rfl ox
  | o1 =>
    obtain ⟨p, e1, e2, l, r⟩ := so
    have m : p ∈ own i := by rw [e1]; exact List.mem_singleton.mpr rfl
    have np := E.notP0 m
    have rk : RepK w H (fun a => P0 a ∨ a = p) d x := RepK.wide (fun a z => .inl (z.elim .inl fun z => .inr ⟨i, by rw [z]; exact m⟩)) _ _ r
    subst e2
    refine ⟨?_, p, rfl, E.new i p m, l, rk⟩
    cases d <;> simp only [isLD, Bool.false_eq_true] at l
    · obtain ⟨a', vs, e3, hp, rr⟩ := r
      cases e3
      exact ⟨p, vs, rfl, hp, np, Reps.mono sub _ _ rr⟩
    · obtain ⟨a', e3, hp⟩ := r
      cases e3
      exact ⟨p, rfl, np, hp.imp (fun ⟨kvs, q, k, r⟩ => ⟨kvs, q, k, Reps.mono sub _ _ r⟩) (fun ⟨kvs, q, k, r⟩ => ⟨kvs, q, k, Reps.mono sub _ _ r⟩)⟩
  | o2 =>
    obtain ⟨p, qs, l, e1, nd, e2, e3, hp, ks⟩ := so
    have m : ∀ a ∈ p :: qs, a ∈ own i := fun a h => by rw [e1]; exact h
    subst e2
    exact ⟨⟨p, _, e3, hp, E.notP0 (m p List.mem_cons_self), Kids.reps sub (fun a h => E.notP0 (m a (List.mem_cons_of_mem _ h))) ks⟩, p, qs, l, rfl, e3, E.new i p (m p List.mem_cons_self), hp, nd, fun a h => E.new i a (m a (List.mem_cons_of_mem _ h)), ks.wide fun a z => .inl (z.imp id fun z => ⟨i, m a z⟩)⟩
end
end S2

set_option maxHeartbeats 4000000
/-! S2q: one rule for each form of statement. -/
namespace S2
open PySem PySem.Spec PyProof.Rows L2

/-- a statement's end, and what is wanted of it -/
def fO (w : Wr) (W : WX) (H0 : Hp) (P0 : Addr → Prop) (X0 : Addr) (D : Ends) : Out → Prop
  | .nx env => ∀ σ H own, EnvS w H0 P0 X0 H σ env own → D.nx σ H
  | .ret o d => ∀ x H, Same H0 H → VR w H0 H P0 (o, d) x → D.rt x H
  | .brk env => ∀ σ H own, EnvS w H0 P0 X0 H σ env own → D.bk σ H
  | .ct env => ∀ σ H own, EnvS w H0 P0 X0 H σ env own → D.ct σ H
  | .exc env e => ∀ σ H own cls dd, EnvS w H0 P0 X0 H σ env own → XR w H (Pof P0 own) cls dd e → W cls dd σ H
  | .no => False
def tSt (w : Wr) (W : WX) (f : Env → Out) : TS := fun D σ H => ∃ H0 P0 X0 env own, EnvS w H0 P0 X0 H σ env own ∧ fO w W H0 P0 X0 D (f env)
abbrev tS (g : G) (C : Cal) (w : Wr) (W : WX) (s : S) : TS := tSt w W (exS g C s)
abbrev tSs (g : G) (C : Cal) (w : Wr) (W : WX) (s : Ss) : TS := tSt w W (exs g C s)
theorem PS.imp {X : Cx} {e : Stmt} {t t' : TS} (h : PS X e t) (k : ∀ D σ H, t' D σ H → t D σ H) : PS X e t' := ⟨fun pins s σ H Q I q => h.run pins s σ H Q I (k Q σ H q)⟩
theorem PSs.imp {X : Cx} {e : List Stmt} {t t' : TS} (h : PSs X e t) (k : ∀ D σ H, t' D σ H → t D σ H) : PSs X e t' := ⟨fun pins s σ H Q I q => h.run pins s σ H Q I (k Q σ H q)⟩
section
variable {X : Cx} {W : WX} {g : G} {w : Wr} {n : Nat} {C : Cal} {H0 : Hp} {P0 : Addr → Prop} {X0 : Addr} {a b e : Expr} {ia ib ie : E} {pos p : Pos}
/-- into an expression of a statement -/
theorem ev_in {α β : Type} {rel : (Addr → Prop) → Hp → Hp → α → β → Prop} {D : Ends} {σ : L2.St} {H : Hp} {env : Env} {own : Nat → List Addr} {r : Env → R α} {is : List (Nat × Bool)} {f : α → Out} {Q : β → Hp → Prop} (E : EnvS w H0 P0 X0 H σ env own) (h : fO w W H0 P0 X0 D ((r env).to is env f))
    (k : ∀ v x H1, Same H H1 → rel (Pof P0 (kept is env own)) H H1 v x → fO w W H0 P0 X0 D (f v) → Q x H1) : tF w W rel r is σ H Q := by
  refine ⟨env, Pof P0 (kept is env own), (E.frz is).dom, E.enter is, ?_⟩
  cases q : r env with
  | ok v => rw [q] at h; exact fun x H1 s1 r1 => k v x H1 s1 r1 h
  | exc d =>
    rw [q] at h
    exact fun cls dd H' s x => h σ H' _ cls dd ((E.frz is).later s) x
  | no => rw [q] at h; exact h
theorem sS_nil : PSs X [] (tSs g C w W .nil) := PSs.imp pss_nil fun D σ H ⟨H0, P0, X0, env, own, E, f⟩ => f σ H own E
theorem sS_cons {st : Stmt} {rest : List Stmt} {s : S} {ss : Ss} (h1 : PS X st (tS g C w W s)) (h2 : PSs X rest (tSs g C w W ss)) : PSs X (st :: rest) (tSs g C w W (.cons s ss)) :=
  PSs.imp (pss_cons h1 h2) fun D σ H ⟨H0, P0, X0, env, own, E, f⟩ => by
    refine ⟨H0, P0, X0, env, own, E, ?_⟩
    have f : fO w W H0 P0 X0 D (match exS g C s env with
      | .nx env' => exs g C ss env'
      | o => o) := f
    cases q : exS g C s env with
    | nx env' => rw [q] at f; exact fun σ' H' own' E' => ⟨H0, P0, X0, env', own', E', f⟩
    | ret o d => rw [q] at f; exact f
    | brk env' => rw [q] at f; exact f
    | ct env' => rw [q] at f; exact f
    | exc env' e => rw [q] at f; exact f
    | no => rw [q] at f; exact f
theorem sS_pass : PS X (.Pass pos) (tS g C w W .pass) := PS.imp ps_pass fun D σ H ⟨H0, P0, X0, env, own, E, f⟩ => f σ H own E
theorem sS_doc {x j} : PS X (.Expr (.Constant (.str x) j p) pos) (tS g C w W .doc) := PS.imp ps_doc fun D σ H ⟨H0, P0, X0, env, own, E, f⟩ => f σ H own E
theorem sS_brk : PS X (.Break pos) (tS g C w W .brk) := PS.imp ps_break fun D σ H ⟨H0, P0, X0, env, own, E, f⟩ => f σ H own E
theorem sS_cont : PS X (.Continue pos) (tS g C w W .cont) := PS.imp ps_continue fun D σ H ⟨H0, P0, X0, env, own, E, f⟩ => f σ H own E
theorem sS_retn : PS X (.Return none pos) (tS g C w W .retn) := PS.imp ps_retN fun D σ H ⟨H0, P0, X0, env, own, E, f⟩ => f .non H E.same (VR.sh rfl)
/-- name = e -/
theorem asg_in {i : Nat} {D : Ends} {σ : L2.St} {H : Hp} (h : tS g C w W (.asg i ie) D σ H) : tAsg (tE g C w W ie) (gName i) D σ H := by
  obtain ⟨H0, P0, X0, env, own, E, f⟩ := h
  refine ev_in E f fun v x H1 s1 r1 k => ?_
  obtain ⟨own1, E1, r2⟩ := E.aft ie s1 r1
  obtain ⟨own2, E2⟩ := E1.set s1 r2 i
  exact k _ _ own2 E2
theorem sS_ex (he : PE X e (tE g C w W ie)) (hs : swapsWith e none pos.line X.env = pure false) : PS X (.Expr e pos) (tS g C w W (.ex ie)) :=
  PS.imp (ps_expr he hs) fun D σ H ⟨H0, P0, X0, env, own, E, f⟩ => ev_in E f fun v x H1 s1 r1 k => k σ H1 own (E.later s1)
theorem sS_if {x y : List Stmt} {sx sy : Ss} (hc : PT X a (tT g C w W ia)) (hx : PSs X x (tSs g C w W sx)) (hy : PSs X y (tSs g C w W sy)) : PS X (.If a x y pos) (tS g C w W (.ife ia sx sy)) :=
  PS.imp (ps_if hc hx hy) fun D σ H ⟨H0, P0, X0, env, own, E, f⟩ => ev_in (rel := rI Bool) E f fun v x H1 s1 r1 k => by
    have r1 : x = v := r1
    subst r1
    cases x with
    | true => exact ⟨H0, P0, X0, env, own, E.later s1, k⟩
    | false => exact ⟨H0, P0, X0, env, own, E.later s1, k⟩
/-- (a, b) = e -/
theorem sS_tup {is : List Nat} {t : Expr} (hw : w.K = X.K) (he : PE X e (tE g C w W ie)) (hg : PG X t (gT X.K (.tp is))) (hs : swapsWithSole [t] e pos.line X.env = pure false) (hw2 : swappedStores [t] e X.env = pure none) (h1 : (assignEach [t] X.env).map (·.2) = [assign t X.env]) :
    PS X (.Assign [t] e pos) (tS g C w W (.tup is ie)) :=
  PS.imp (ps_asg he hg hs hw2 h1) fun D σ H ⟨H0, P0, X0, env, own, E, f⟩ => ev_in E f fun v x H1 s1 r1 k => by
    have r1 : VR w H H1 (Pof P0 (kept (rd ie) env own)) v x := r1
    obtain ⟨own1, E1, r2⟩ := E.aft (v := (.sh, v.2)) ie s1 (VR.sh r1.1)
    cases q : bindT (.tp is) v.2 (aft ie (.sh, v.2) env) with
    | none => rw [q] at k; exact k.elim
    | some env' =>
      rw [q] at k
      have E2 := E1.later s1
      obtain ⟨σ', gq, pu⟩ := put_tg E2.len q r2.1
      obtain ⟨own2, E3⟩ := E2.put pu
      rw [← hw]
      exact gq _ (k _ _ own2 E3)
/-- return e -/
theorem sS_ret (he : PE X e (tE g C w W ie)) (hv : ∀ i, ie ≠ .var i) : PS X (.Return (some e) pos) (tS g C w W (.ret ie)) :=
  PS.imp (ps_ret he) fun D σ H ⟨H0, P0, X0, env, own, E, f⟩ => by
    have q : exS g C (.ret ie) env = (ev g C ie env).to (rd ie) env fun v => .ret v.1 v.2 := by
      show (retV ie env (ev g C ie env)).to (rd ie) env (fun v => .ret v.1 v.2) = _
      cases ie <;> first | rfl | exact absurd rfl (hv _)
    rw [q] at f
    exact ev_in E f fun v x H1 s1 r1 k => k x H1 (E.same.trans s1) (VR.back E s1 (fun a z => .inl z) r1)
theorem sS_retv {i : Nat} {x : Str} (hN : X.N[i]? = some x) (hv : Vis X.env.scope x) (hd : (x == ("__debug__" : Str)) = false) (hcd : (x == ("__classdict__" : Str)) = false) : PS X (.Return (some (.Name x p)) pos) (tS g C w W (.ret (.var i))) :=
  PS.imp (ps_ret (pe_var hN hv hd hcd)) fun D σ H ⟨H0, P0, X0, env, own, E, f⟩ => by
    have f : fO w W H0 P0 X0 D ((match env[i]? with
      | some (some (.oi, _)) => R.no
      | some (some (.ex, _)) => .no
      | some (some (o, d)) => .ok (o, d)
      | _ => .no).to [(i, true)] env fun v => .ret v.1 v.2) := f
    split at f
    · exact f.elim
    · exact f.elim
    · rename_i o d n1 n2 e
      obtain ⟨v, hx, r⟩ := E.gone e (fun z => by subst z; exact n2 rfl) (fun z => by subst z; exact n1 rfl)
      exact ⟨v, hx, f v H E.same r⟩
    · exact f.elim
end
end S2

set_option maxHeartbeats 4000000
/-! S2r: lists and instances written, loops. -/
namespace S2
open PySem PySem.Spec PyProof.Rows L2

section
variable {X : Cx} {W : WX} {g : G} {w : Wr} {n : Nat} {C : Cal} {a b e : Expr} {ia ib ie : E} {pos p p2 : Pos}
theorem own1_ok {x : Nat} {env : Env} {o : Own} {l : List D} (h : own1 x env = some (o, l)) : env[x]? = some (some (.o1, .lst l)) := by
  unfold own1 at h
  split at h
  · rename_i l' e
    cases h
    exact e
  · cases h
theorem own2_ok {x : Nat} {env : Env} {l : List D} (h : own2 x env = some l) : env[x]? = some (some (.o2, .lst l)) := by
  unfold own2 at h
  split at h
  · rename_i l' e
    cases h
    exact e
  · cases h
theorem isL_ok {w : Wr} {H0 H : Hp} {P0 : Addr → Prop} {X0 : Addr} {σ : L2.St} {env : Env} {own : Nat → List Addr} {x : Nat} (E : EnvS w H0 P0 X0 H σ env own) (h : isL x env = true) : ∃ p vs, σ[x]? = some (some (.ref p)) ∧ H p = some (.lst vs) := by
  unfold isL at h
  split at h
  · rename_i l e
    obtain ⟨v, hv, q, e1, e2, _, r⟩ := E.slot _ _ _ e
    obtain ⟨a, vs, e3, hp, _⟩ := r
    exact ⟨a, vs, by rw [hv, e3], hp⟩
  · rename_i l e
    obtain ⟨v, hv, q, qs, l', e1, nd, e2, e3, hp, _⟩ := E.slot _ _ _ e
    exact ⟨q, _, by rw [hv, e3], hp⟩
  · cases h
theorem sS_app {i : Nat} {x : Str} {apos : Pos} (hN : X.N[i]? = some x) (hv : Vis X.env.scope x) (hd : (x == ("__debug__" : Str)) = false) (hcd : (x == ("__classdict__" : Str)) = false) (he : PE X e (tE g C w W ie)) (hp : Plain X [e]) (hl : (apos.endLine == p2.line) = true) :
    PS X (.Expr (.Call (.Attribute (.Name x p) "append" apos) [e] [] p2) pos) (tS g C w W (.app i ie)) := by
  refine PS.imp (ps_expr (pe_bm PySem.F.plainAttrs_list PySem.F.slot_list_append (by kernel_rfl) mt_append (pe_var hN hv hd hcd) (pa_cons he pa_nil hp.1) (by rfl) ?_ hl hp.1 (hp.2.any p2)) (by rfl)) fun D σ H ⟨H0, P0, X0, env, own, E, f⟩ => ?_
  · have := hp.form (pos := p2) (show 1 < 30 by decide)
    have hk : backToKw p2 (keywordEach [] X.env) = [] := by rfl
    rw [hk]
    unfold methodCallForm at this
    simpa using this
  · have f : fO w W H0 P0 X0 D (if isL i env = true then (ev g C ie env).to (rd ie) env fun v => (match own1 i (frz [(i, false)] (aft ie v env)) with
      | some (_, l) => if decide (l.length < szL) then .nx ((frz [(i, false)] (aft ie v env)).set i (some (.o1, .lst (l ++ [v.2])))) else .no
      | none => .no) else .no) := f
    split at f
    case isFalse => exact f.elim
    rename_i hi
    obtain ⟨q, vs, hq, hq2⟩ := isL_ok E hi
    refine ⟨.ref q, hq, .inl ⟨rfl, vs, SqL.of hq2⟩, ev_in E f fun v y H1 s1 r1 k => ?_⟩
    obtain ⟨own1', E1, r2⟩ := E.aft ie s1 r1
    have E2 := (E1.frz [(i, false)]).later s1
    cases z : own1 i (frz [(i, false)] (aft ie v env)) with
    | none => rw [z] at k; exact k.elim
    | some ol =>
      obtain ⟨o, l⟩ := ol
      rw [z] at k
      obtain ⟨q', vs', h1, h2, h3, mk⟩ := E2.upd1 (own1_ok z)
      rw [hq] at h1
      cases h1
      have k : fO w W H0 P0 X0 D (if decide (l.length < szL) = true then .nx ((frz [(i, false)] (aft ie v env)).set i (some (.o1, .lst (l ++ [v.2])))) else .no) := k
      split at k
      · rename_i hz
        have hz := of_decide_eq_true hz
        rw [szL_eq, h3.length] at hz
        exact ⟨q, vs', y, rfl, rfl, h2, hz, k _ _ _ (mk _ _ (Reps.append h3 (Reps.one (Rep.mono (fun a z => pof_kept a z) _ _ r2.1))))⟩
      · exact k.elim
theorem sS_rev {i : Nat} {x : Str} {apos : Pos} (hN : X.N[i]? = some x) (hv : Vis X.env.scope x) (hd : (x == ("__debug__" : Str)) = false) (hcd : (x == ("__classdict__" : Str)) = false) (hl : (apos.endLine == p2.line) = true) :
    PS X (.Expr (.Call (.Attribute (.Name x p) "reverse" apos) [] [] p2) pos) (tS g C w W (.rev i)) := by
  refine PS.imp (ps_expr (pe_bm0 PySem.F.plainAttrs_list PySem.F.slot_list_reverse (by kernel_rfl) mt_reverse (pe_var hN hv hd hcd) (by rfl) hl) (by rfl)) fun D σ H ⟨H0, P0, X0, env, own, E, f⟩ => ?_
  have f : fO w W H0 P0 X0 D (match own1 i (frz [(i, false)] env) with
    | some (_, l) => .nx ((frz [(i, false)] env).set i (some (.o1, .lst l.reverse)))
    | none => .no) := f
  have E2 := E.frz [(i, false)]
  cases z : own1 i (frz [(i, false)] env) with
  | none => rw [z] at f; exact f.elim
  | some ol =>
    obtain ⟨o, l⟩ := ol
    rw [z] at f
    obtain ⟨q, vs, h1, h2, h3, mk⟩ := E2.upd1 (own1_ok z)
    exact ⟨.ref q, h1, .inl ⟨rfl, vs, SqL.of h2⟩, q, vs, rfl, rfl, h2, f _ _ _ (mk _ _ (Reps.reverse h3))⟩
theorem EnvS.wr1 {w : Wr} {H0 H : Hp} {P0 : Addr → Prop} {X0 : Addr} {σ : L2.St} {env : Env} {own : Nat → List Addr} (E : EnvS w H0 P0 X0 H σ env own) {i : Nat} {l : List D} (e : env[i]? = some (some (.o1, .lst l))) {q : Addr} (hq : σ[i]? = some (some (.ref q))) {d : D} {v : V} {u : HO} (r : Rep w H (Pof P0 own) d v) : Rep w (upd H q u) (Pof P0 own) d v := by
  obtain ⟨x, hx, q', e1, e2, _, _⟩ := E.slot i _ _ e
  rw [hq] at hx
  cases hx
  cases e2
  have m : q ∈ own i := by rw [e1]; exact List.mem_singleton.mpr rfl
  exact Rep.write (.inr ⟨i, m⟩) (E.mut m) _ _ r
theorem sS_popd {i : Nat} {x : Str} {apos : Pos} (hN : X.N[i]? = some x) (hv : Vis X.env.scope x) (hd : (x == ("__debug__" : Str)) = false) (hcd : (x == ("__classdict__" : Str)) = false) (hl : (apos.endLine == p2.line) = true) :
    PS X (.Expr (.Call (.Attribute (.Name x p) "pop" apos) [] [] p2) pos) (tS g C w W (.popd i .none)) := by
  refine PS.imp (ps_expr (pe_bm0 PySem.F.plainAttrs_list PySem.F.slot_list_pop (by kernel_rfl) mt_pop (pe_var hN hv hd hcd) (by rfl) hl) (by rfl)) fun D σ H ⟨H0, P0, X0, env, own, E, f⟩ => ?_
  have f : fO w W H0 P0 X0 D (match own1 i env with
    | some (_, l) => if l.isEmpty = true then .no else .nx (env.set i (some (.o1, .lst l.dropLast)))
    | none => .no) := f
  cases z : own1 i env with
  | none => rw [z] at f; exact f.elim
  | some ol =>
    obtain ⟨o, l⟩ := ol
    rw [z] at f
    have f : fO w W H0 P0 X0 D (if l.isEmpty = true then .no else .nx (env.set i (some (.o1, .lst l.dropLast)))) := f
    split at f
    · exact f.elim
    rename_i hl
    obtain ⟨q, vs, h1, h2, h3, mk⟩ := E.upd1 (own1_ok z)
    have hne : vs ≠ [] := fun e => hl (by
      rw [e] at h3
      have := h3.length
      rw [List.length_nil] at this
      rw [List.length_eq_zero_iff.mp this]; rfl)
    have hlt : vs.length - 1 < vs.length := Nat.sub_lt (List.length_pos_iff.mpr hne) Nat.one_pos
    exact ⟨.ref q, h1, .inl ⟨rfl, vs, SqL.of h2⟩, q, vs, vs[vs.length - 1], rfl, rfl, h2, List.getElem?_eq_getElem hlt, f _ _ _ (mk _ _ (by rw [List.dropLast_eq_take, List.dropLast_eq_take, ← h3.length]; exact Reps.take _ h3))⟩
theorem sS_appop {i j : Nat} {x y : Str} {apos bpos p3 p4 : Pos} (hN : X.N[i]? = some x) (hv : Vis X.env.scope x) (hd : (x == ("__debug__" : Str)) = false) (hcd : (x == ("__classdict__" : Str)) = false)
    (hN2 : X.N[j]? = some y) (hv2 : Vis X.env.scope y) (hd2 : (y == ("__debug__" : Str)) = false) (hcd2 : (y == ("__classdict__" : Str)) = false) (he : PE X e (tE g C w W ie)) (hp : Plain X [e]) (hl : (apos.endLine == p2.line) = true) (hl2 : (bpos.endLine == p4.line) = true) :
    PS X (.Expr (.Call (.Attribute (.Name x p) "append" apos) [.Call (.Attribute (.Name y p3) "pop" bpos) [e] [] p4] [] p2) pos) (tS g C w W (.appop i j (.some ie))) := by
  have form : ∀ {e : Expr} {p2 : Pos}, Plain X [e] → ((backTo p2 (starEach [e] X.env)).all (fun x => !x.1) && (backToKw p2 (keywordEach [] X.env)).all (fun x => x.1.isSome) && decide ([e].length + ([] : List Keyword).length + (if ([] : List Keyword).isEmpty then 0 else 1) < 30)) = true := fun {e p2} hp => by
    have := hp.form (pos := p2) (show 1 < 30 by decide)
    have hk : backToKw p2 (keywordEach [] X.env) = [] := by rfl
    rw [hk]
    unfold methodCallForm at this
    simpa using this
  have hq : PE X (.Call (.Attribute (.Name y p3) "pop" bpos) [e] [] p4) _ := pe_bm PySem.F.plainAttrs_list PySem.F.slot_list_pop (by kernel_rfl) mt_popAt (pe_var hN2 hv2 hd2 hcd2) (pa_cons he pa_nil hp.1) (by rfl) (form hp) hl2 hp.1 (hp.2.any p4)
  have hs2 : starEach [.Call (.Attribute (.Name y p3) "pop" bpos) [e] [] p4] X.env = (false, eval (.Call (.Attribute (.Name y p3) "pop" bpos) [e] [] p4) X.env) :: starEach [] X.env := by rfl
  have hp2 : Plain X [.Call (.Attribute (.Name y p3) "pop" bpos) [e] [] p4] := ⟨hs2, trivial⟩
  refine PS.imp (ps_expr (pe_bm PySem.F.plainAttrs_list PySem.F.slot_list_append (by kernel_rfl) mt_append (pe_var hN hv hd hcd) (pa_cons hq pa_nil hs2) (by rfl) (form hp2) hl hs2 (hp2.2.any p2)) (by rfl)) fun D σ H ⟨H0, P0, X0, env, own, E, f⟩ => ?_
  have f : fO w W H0 P0 X0 D (if (isL i env && isL j env) = true then (ev g C ie env).to (rd ie) env fun k => popA i j k.2 (frz [(i, false), (j, false)] (aft ie k env)) else .no) := f
  split at f
  case isFalse => exact f.elim
  rename_i hi
  rw [Bool.and_eq_true] at hi
  obtain ⟨q, vs, hq1, hq2⟩ := isL_ok E hi.1
  obtain ⟨qy, vy, hy1, hy2⟩ := isL_ok E hi.2
  refine ⟨.ref q, hq1, .inl ⟨rfl, vs, SqL.of hq2⟩, .ref qy, hy1, .inl ⟨rfl, vy, SqL.of hy2⟩, ev_in E f fun k yv H1 s1 r1 f1 => ?_⟩
  obtain ⟨own1', E1, r2⟩ := E.aft ie s1 r1
  have E2 := (E1.frz [(i, false), (j, false)]).later s1
  obtain ⟨ko, kd⟩ := k
  cases kd <;> try exact f1.elim
  rename_i jj
  obtain rfl : yv = .int jj := r1.1
  generalize frz [(i, false), (j, false)] (aft ie (ko, .int jj) env) = env2 at f1 E2
  have f1 : fO w W H0 P0 X0 D (popA i j (.int jj) env2) := f1
  unfold popA at f1
  cases z1 : own1 j env2 with
  | none => simp only [z1] at f1; exact f1.elim
  | some ol =>
    obtain ⟨o, l⟩ := ol
    simp only [z1] at f1
    cases z2 : L2.ixN l.length jj with
    | none => simp only [z2] at f1; exact f1.elim
    | some m =>
      simp only [z2] at f1
      cases z3 : l[m]? with
      | none => simp only [z3] at f1; exact f1.elim
      | some d =>
        simp only [z3] at f1
        obtain ⟨q', vs', h1, h2, h3, mk⟩ := E2.upd1 (own1_ok z1)
        rw [hy1] at h1
        cases h1
        have E3 := mk (l.eraseIdx m) (vs'.eraseIdx m) (Reps.erase m h3)
        obtain ⟨dv, hd1, hd2⟩ := Reps.get h3 z3
        cases z4 : own1 i (env2.set j (some (.o1, .lst (l.eraseIdx m)))) with
        | none => simp only [z4] at f1; exact f1.elim
        | some ol =>
          obtain ⟨o2, l2⟩ := ol
          simp only [z4] at f1
          split at f1
          case isFalse => exact f1.elim
          rename_i hz
          simp only [Bool.and_eq_true, decide_eq_true_eq] at hz
          obtain ⟨q2, us, g1, g2, g3, mk2⟩ := E3.upd1 (own1_ok z4)
          rw [hq1] at g1
          cases g1
          obtain ⟨b1, b2⟩ := absLe_ok hz.2
          have hz1 := hz.1
          rw [szL_eq, g3.length] at hz1
          refine ⟨qy, vs', jj, m, dv, rfl, rfl, h2, by omega, by omega, ?_, hd1, q, us, dv, rfl, rfl, g2, hz1, f1 _ _ _ (mk2 _ _ (Reps.append g3 (Reps.one ?_)))⟩
          · rw [← h3.length]; exact (ixN_seq z2).1
          · exact E2.wr1 (own1_ok z1) hy1 hd2
theorem sS_appat {i : Nat} {x : Str} {apos p3 : Pos} (hN : X.N[i]? = some x) (hv : Vis X.env.scope x) (hd : (x == ("__debug__" : Str)) = false) (hcd : (x == ("__classdict__" : Str)) = false) (ha : PE X a (tE g C w W ia)) (hix : PlainIx a) (he : PE X e (tE g C w W ie)) (hp : Plain X [e]) (hl : (apos.endLine == p2.line) = true) :
    PS X (.Expr (.Call (.Attribute (.Subscript (.Name x p) a p3) "append" apos) [e] [] p2) pos) (tS g C w W (.appat i ia ie)) := by
  refine PS.imp (ps_expr (pe_bm PySem.F.plainAttrs_list PySem.F.slot_list_append (by kernel_rfl) mt_append (pe_ix ix_list (pe_var hN hv hd hcd) ha hix) (pa_cons he pa_nil hp.1) (by rfl) ?_ hl hp.1 (hp.2.any p2)) (by rfl)) fun D σ H ⟨H0, P0, X0, env, own, E, f⟩ => ?_
  · have := hp.form (pos := p2) (show 1 < 30 by decide)
    have hk : backToKw p2 (keywordEach [] X.env) = [] := by rfl
    rw [hk]
    unfold methodCallForm at this
    simpa using this
  · cases z : own2 i env with
    | none =>
      have f : fO w W H0 P0 X0 D (exS g C (.appat i ia ie) env) := f
      unfold exS at f
      rw [z] at f; exact f.elim
    | some l =>
      have f : fO w W H0 P0 X0 D (exS g C (.appat i ia ie) env) := f
      unfold exS at f
      rw [z] at f
      have e0 := own2_ok z
      obtain ⟨v0, hv0, q0, qs0, l0, e1, nd, e2, e3, hp0, ks0⟩ := E.slot _ _ _ e0
      cases e2
      refine ⟨v0, hv0, ev_in E f fun k y H1 s1 r1 f1 => ?_⟩
      obtain ⟨ko, kd⟩ := k
      cases kd <;> try exact f1.elim
      rename_i j
      have ry : y = .int j := r1.1
      have f1 : fO w W H0 P0 X0 D (match L2.ixN l.length j with
        | some n => (match l[n]? with
          | some (.lst m) => (ev g C ie env).to (rd ie) env fun v => (match own2 i (aft ie v env) with
            | some l2 => (match l2[n]? with
              | some (.lst m2) => if decide (m2.length < szL) then .nx ((aft ie v env).set i (some (.o2, .lst (l2.set n (.lst (m2 ++ [v.2])))))) else .no
              | _ => .no)
            | none => .no)
          | _ => .no)
        | none => .no) := f1
      cases hn : L2.ixN l.length j with
      | none => rw [hn] at f1; exact f1.elim
      | some n =>
        rw [hn] at f1
        have f1 : fO w W H0 P0 X0 D (match l[n]? with
          | some (.lst m) => (ev g C ie env).to (rd ie) env fun v => (match own2 i (aft ie v env) with
            | some l2 => (match l2[n]? with
              | some (.lst m2) => if decide (m2.length < szL) then .nx ((aft ie v env).set i (some (.o2, .lst (l2.set n (.lst (m2 ++ [v.2])))))) else .no
              | _ => .no)
            | none => .no)
          | _ => .no) := f1
        split at f1
        case h_2 => exact f1.elim
        rename_i m hm
        obtain ⟨q, us, hq, hq2, hr⟩ := ks0.get hm
        have hat : L2.atI (qs0.map V.ref) j = some (.ref q) := by
          unfold L2.atI
          rw [List.length_map, ← ks0.len, hn]
          show (qs0.map V.ref)[n]? = _
          rw [List.getElem?_map, hq]; rfl
        refine ⟨q0, qs0.map V.ref, j, .ref q, e3, ry, SqL.of (s1 _ _ hp0), hat, .inl ⟨rfl, us, SqL.of (s1 _ _ hq2)⟩, ?_⟩
        have E1 := E.later s1
        refine ev_in E1 f1 fun v u H2 s2 r2 f2 => ?_
        obtain ⟨own', E2, r3⟩ := E1.aft ie s2 r2
        have E3 := E2.later s2
        cases z2 : own2 i (aft ie v env) with
        | none => rw [z2] at f2; exact f2.elim
        | some l2 =>
          rw [z2] at f2
          have f2 : fO w W H0 P0 X0 D (match l2[n]? with
              | some (.lst m2) => if decide (m2.length < szL) then .nx ((aft ie v env).set i (some (.o2, .lst (l2.set n (.lst (m2 ++ [v.2])))))) else .no
              | _ => .no) := f2
          split at f2
          case h_2 => exact f2.elim
          rename_i m2 hm2
          obtain ⟨p', qs', q', us', g1, g2, g3, g4, g5, g6, mk⟩ := E3.upd2 (own2_ok z2) hm2
          rw [hv0, e3] at g1
          cases g1
          have hh := s2 _ _ (s1 _ _ hp0)
          rw [hh] at g2
          have eq : qs0 = qs' := by
            have e : qs0.map V.ref = qs'.map V.ref := by injection g2 with g2; injection g2
            exact List.map_inj_right (fun a b h => by cases h; rfl) |>.mp e
          subst eq
          rw [hq] at g4
          cases g4
          split at f2
          · rename_i hz
            have hz := of_decide_eq_true hz
            rw [szL_eq, g6.length] at hz
            exact ⟨q, us', u, rfl, rfl, g5, hz, f2 _ _ _ (mk _ _ (Reps.append g6 (Reps.one r3.1)))⟩
          · exact f2.elim
theorem sub_shape {o a : Expr} {p2 : Pos} (h : shB a = true) (env : PySem.Env) : ∀ v, assign (.Subscript o a p2) env v = (do
      let ov ← holding [v] (eval o env)
      let iv ← holding [v, ov] (eval a env)
      standAt p2
      holding [v, ov, iv] (setItem ov iv v)
      release [v, ov, iv] []) := by
  cases a <;> first | (intro v; rfl) | (exact absurd h Bool.false_ne_true)
/-- x[i] = e -/
theorem sS_asgix {i : Nat} {x : Str} (hN : X.N[i]? = some x) (hv : Vis X.env.scope x) (hd : (x == ("__debug__" : Str)) = false) (hcd : (x == ("__classdict__" : Str)) = false) (ha : PE X a (tE g C w W ia)) (hsh : shB a = true) (he : PE X e (tE g C w W ie)) (hs : swapsWithSole [.Subscript (.Name x p) a p2] e pos.line X.env = pure false) (hw : swappedStores [.Subscript (.Name x p) a p2] e X.env = pure none) :
    PS X (.Assign [.Subscript (.Name x p) a p2] e pos) (tS g C w W (.asgix i ia ie)) :=
  PS.imp (ps_asg he (pg_sub (pe_var hN hv hd hcd) ha set_list (sub_shape hsh _)) hs hw) fun D σ H ⟨H0, P0, X0, env, own, E, h⟩ => by
    have h : fO w W H0 P0 X0 D ((ev g C ie env).to (rd ie) env fun v => if isL i (aft ie v env) = true then (ev g C ia (aft ie v env)).to (rd ia) (aft ie v env) fun k => (match k.2 with
      | .int j => (match own1 i (frz [(i, false)] (aft ie v env)) with
        | some (_, l) => (match L2.ixN l.length j with
          | some n => .nx ((frz [(i, false)] (aft ie v env)).set i (some (.o1, .lst (l.set n v.2))))
          | none => .no)
        | none => .no)
      | _ => .no) else .no) := h
    refine ev_in E h fun v y H1 s1 r1 k => ?_
    obtain ⟨own', E1, r2⟩ := E.aft ie s1 r1
    have E2 := E1.later s1
    split at k
    case isFalse => exact k.elim
    rename_i hi
    obtain ⟨q, vs, hq, hq2⟩ := isL_ok E2 hi
    refine ⟨.ref q, hq, ev_in E2 k fun u z H2 s2 r3 f => ?_⟩
    obtain ⟨uo, ud⟩ := u
    cases ud <;> try exact f.elim
    rename_i j
    have rz : z = .int j := r3.1
    have E3 := (E2.frz [(i, false)]).later s2
    have f : fO w W H0 P0 X0 D (match own1 i (frz [(i, false)] (aft ie v env)) with
        | some (_, l) => (match L2.ixN l.length j with
          | some n => .nx ((frz [(i, false)] (aft ie v env)).set i (some (.o1, .lst (l.set n v.2))))
          | none => .no)
        | none => .no) := f
    cases zo : own1 i (frz [(i, false)] (aft ie v env)) with
    | none => rw [zo] at f; exact f.elim
    | some ol =>
      obtain ⟨o, l⟩ := ol
      rw [zo] at f
      obtain ⟨q', vs', h1, h2, h3, mk⟩ := E3.upd1 (own1_ok zo)
      rw [hq] at h1
      cases h1
      have f : fO w W H0 P0 X0 D (match L2.ixN l.length j with
          | some n => .nx ((frz [(i, false)] (aft ie v env)).set i (some (.o1, .lst (l.set n v.2))))
          | none => .no) := f
      cases hn : L2.ixN l.length j with
      | none => rw [hn] at f; exact f.elim
      | some n =>
        rw [hn] at f
        exact ⟨q, vs', j, n, rfl, rz, h2, by rw [← h3.length]; exact hn, f _ _ _ (mk _ _ (Reps.set n h3 (Rep.mono (fun a z => pof_kept a z) _ _ (Rep.same s2 _ _ r2.1))))⟩
theorem ownD_ok {x : Nat} {env : Env} {ks ds : List D} (h : ownD x env = some (ks, ds)) : env[x]? = some (some (.o1, .dct ks ds)) := by
  unfold ownD at h
  split at h
  · rename_i l l' e
    cases h
    exact e
  · cases h
theorem isDc_ok {w : Wr} {H0 H : Hp} {P0 : Addr → Prop} {X0 : Addr} {σ : L2.St} {env : Env} {own : Nat → List Addr} {x : Nat} (E : EnvS w H0 P0 X0 H σ env own) (h : isDc x env = true) : ∃ p, σ[x]? = some (some (.ref p)) := by
  unfold isDc at h
  split at h
  · rename_i l l' e
    obtain ⟨v, hv, q, e1, e2, _, r⟩ := E.slot _ _ _ e
    exact ⟨q, by rw [hv, e2]⟩
  · cases h
/-- d[k] = e -/
theorem sS_dput {i : Nat} {x : Str} (hu : X.A.units + 66 < cLine) (hN : X.N[i]? = some x) (hv : Vis X.env.scope x) (hd : (x == ("__debug__" : Str)) = false) (hcd : (x == ("__classdict__" : Str)) = false) (ha : PE X a (tE g C w W ia)) (he : PE X e (tE g C w W ie)) (hs : swapsWith e (some (.Subscript (.Name x p) a p2)) pos.line X.env = pure false) :
    PS X (.Assign [.Subscript (.Name x p) a p2] e pos) (tS g C w W (.dput i ia ie)) :=
  PS.imp (ps_dput (by omega) (pe_var hN hv hd hcd) ha he hs) fun D σ H ⟨H0, P0, X0, env, own, E, h⟩ => by
    have h : fO w W H0 P0 X0 D ((ev g C ie env).to (rd ie) env fun v => if isDc i (aft ie v env) = true then (ev g C ia (aft ie v env)).to (rd ia) (aft ie v env) fun k => (match keyK k.2 with
      | some q => (match ownD i (aft ie v env) with
        | some (ks, vs) => if (decide (ks.length < szL) && !isTk ks) = true then .nx ((aft ie v env).set i (some (.o1, .dct (putKD ks vs q k.2 v.2).1 (putKD ks vs q k.2 v.2).2))) else .no
        | none => .no)
      | none => .no) else .no) := h
    refine ev_in E h fun v y H1 s1 r1 k => ?_
    obtain ⟨own', E1, r2⟩ := E.aft ie s1 r1
    have E2 := E1.later s1
    split at k
    case isFalse => exact k.elim
    rename_i hi
    obtain ⟨q, hq⟩ := isDc_ok E2 hi
    refine ⟨.ref q, hq, ev_in E2 k fun u z H2 s2 r3 f => ?_⟩
    obtain ⟨uo, ud⟩ := u
    have f : fO w W H0 P0 X0 D (match keyK ud with
      | some q => (match ownD i (aft ie v env) with
        | some (ks, vs) => if (decide (ks.length < szL) && !isTk ks) = true then .nx ((aft ie v env).set i (some (.o1, .dct (putKD ks vs q ud v.2).1 (putKD ks vs q ud v.2).2))) else .no
        | none => .no)
      | none => .no) := f
    cases hk : keyK ud with
    | none => rw [hk] at f; exact f.elim
    | some kq =>
      rw [hk] at f
      have eu := keyK_inv hk
      subst eu
      have ez := rep_keyD r3.1
      subst ez
      have E3 := E2.later s2
      cases zo : ownD i (aft ie v env) with
      | none => rw [zo] at f; exact f.elim
      | some kl =>
        obtain ⟨ks, ds⟩ := kl
        rw [zo] at f
        have f : fO w W H0 P0 X0 D (if (decide (ks.length < szL) && !isTk ks) = true then .nx ((aft ie v env).set i (some (.o1, .dct (putKD ks ds kq (keyD kq) v.2).1 (putKD ks ds kq (keyD kq) v.2).2))) else .no) := f
        split at f
        case isFalse => exact f.elim
        rename_i hz
        rw [Bool.and_eq_true, Bool.not_eq_true'] at hz
        obtain ⟨q', kvs, h1, h2, h3, h4, mk⟩ := E3.updD (ownD_ok zo) hz.2
        rw [hq] at h1
        cases h1
        have hl : kvs.length < sizeLine := by
          have := of_decide_eq_true hz.1
          rw [szL_eq, h3, List.length_map] at this
          exact this
        subst h3
        obtain ⟨p1, p3⟩ := put_key (q := kq) h4 (Rep.same s2 _ _ r2.1)
        exact ⟨q, _, rfl, DPut.k h2 hl, f _ _ _ (mk _ _ _ p1 p3)⟩
theorem sw_par {env : PySem.Env} {x y : Str} {px py pt pt2 : Pos} {kt k2} {u v : Str} {pu pv : Pos} (hk : env.scope.kind = .function) (hx : env.scope.names.lookup x = some .local) (hy : env.scope.names.lookup y = some .local) (hl : py.line = px.line) (hne : x ≠ y) (hd : u ≠ Str.ofString "__debug__") :
    swappedStores [.Tuple [.Name x px, .Name y py] kt pt] (.Tuple [.Name u pu, .Name v pv] k2 pt2) env = pure (some [x, y]) := by
  have bk : (env.blockKind != .function) = false := by unfold PySem.Env.blockKind; rw [hk]; rfl
  have kx : env.kindOf x = some .local := hx
  have ky : env.kindOf y = some .local := hy
  have ne2 : (y == x) = false := by simpa using Ne.symm hne
  have px' : (Expr.Name x px).pos = px := rfl
  unfold swappedStores
  simp [bk, List.filterMap_cons, kx, ky, hl, px', List.eraseDups, List.eraseDupsBy, List.eraseDupsBy.loop, ne2, hne, Ne.symm hne, foldedForSure, constantsAlone, hd]
/-- x, y = a, b -/
theorem sS_par {i j : Nat} {x y : Str} {px py pt pt2 : Pos} {kt k2} (hc : X.calm = true) (hN : X.N.Nodup) (hi : X.N[i]? = some x) (hj : X.N[j]? = some y) (hij : i ≠ j) (hx : X.env.scope.names.lookup x = some .local) (hy : X.env.scope.names.lookup y = some .local)
    (ha : PA X [a, b] (tEs g C w W (.cons ia (.cons ib .nil)))) (hw : swappedStores [.Tuple [.Name x px, .Name y py] kt pt] (.Tuple [a, b] k2 pt2) X.env = pure (some [x, y])) :
    PS X (.Assign [.Tuple [.Name x px, .Name y py] kt pt] (.Tuple [a, b] k2 pt2) pos) (tS g C w W (.par i j ia ib)) :=
  PS.imp (ps_par hc hN hi hj hij hx hy ha hw) fun D σ H ⟨H0, P0, X0, env, own, E, h⟩ => by
    have h : fO w W H0 P0 X0 D ((evs g C (.cons ia (.cons ib .nil)) env).to (rds (.cons ia (.cons ib .nil))) env fun l => (match l with
      | [v, u] => if (!hasL v.2 && !hasL u.2) = true then .nx ((env.set i (some (.sh, v.2))).set j (some (.sh, u.2))) else .no
      | _ => .no)) := h
    refine ev_in (rel := rVs w) E h fun l xs H1 s1 r1 k => ?_
    rcases l with _ | ⟨v, _ | ⟨u, _ | ⟨z, l⟩⟩⟩
    · exact k.elim
    · exact k.elim
    · have k : fO w W H0 P0 X0 D (if (!hasL v.2 && !hasL u.2) = true then .nx ((env.set i (some (.sh, v.2))).set j (some (.sh, u.2))) else .no) := k
      split at k
      case isFalse => exact k.elim
      rename_i hz
      rw [Bool.and_eq_true, Bool.not_eq_true', Bool.not_eq_true'] at hz
      have rr : Reps w H1 (Pof P0 (kept (rds (.cons ia (.cons ib .nil))) env own)) [v.2, u.2] xs := VRs.reps r1
      obtain ⟨x1, _, rfl, q1, x2, _, rfl, q2, rfl⟩ := rr
      have q1 := E.flat s1 hz.1 q1
      have q2 := E.flat s1 hz.2 q2
      have E1 := E.later s1
      have pt_ : Put w H1 (Pof P0 own) [i, j] env σ ((env.set i (some (.sh, v.2))).set j (some (.sh, u.2))) ((σ.set i (some x1)).set j (some x2)) := Put.cons E1.len q1 (Put.one (by rw [List.length_set, List.length_set]; exact E1.len) q2)
      obtain ⟨own2, E2⟩ := E1.put pt_
      exact ⟨x1, x2, rfl, k _ _ own2 E2⟩
    · exact k.elim
/-- self.f = e -/
theorem sS_fld {i : Nat} {x f : Str} (fx : Fx X.K X.mg g w) (hf : g.nf f = true) (hN : X.N[i]? = some x) (hv : Vis X.env.scope x) (hd : (x == ("__debug__" : Str)) = false) (hcd : (x == ("__classdict__" : Str)) = false) (he : PE X e (tE g C w W ie)) (hs : swapsWith e (some (.Attribute (.Name x p) f p2)) pos.line X.env = pure false) :
    PS X (.Assign [.Attribute (.Name x p) f p2] e pos) (tS g C w W (.fld i f ie)) :=
  PS.imp (ps_fld (pe_var hN hv hd hcd) he hs) fun D σ H ⟨H0, P0, X0, env, own, E, h⟩ => by
    refine ev_in E h fun v y H1 s1 r1 k => ?_
    obtain ⟨own', E1, r2⟩ := E.aft ie s1 r1
    have E2 := E1.later s1
    have k : fO w W H0 P0 X0 D (match (aft ie v env)[i]? with
      | some (some (.oi, .ob c ns vs)) => if decide (ns.length < 900) then .nx ((aft ie v env).set i (some (.oi, .ob c (setF f v.2 ns vs).1 (setF f v.2 ns vs).2))) else .no
      | _ => .no) := k
    split at k
    case h_2 => exact k.elim
    rename_i c ns vs e1
    split at k
    case isFalse => exact k.elim
    rename_i hz
    have hz := of_decide_eq_true hz
    obtain ⟨q, dx, fs, h1, h2, h3, h4, mk⟩ := E2.updI e1
    exact ⟨.ref q, h1, q, _, dx, fs, rfl, h2, fx.cls c h3, fx.nf c f h3 hf, by omega, k _ _ _ (mk f v.2 y r2.1)⟩
/-! ### loops -/
theorem Walk.at_ {O : Addr → Prop} {J : L2.It} {xs : List D} {H1 H : Hp} (h : Walk w O J xs H1) (e : Ext O H1 H) : (∀ i d, xs[i]? = some d → J.go i H ∧ ∀ x H', J.yld i H x H' → Same H H' ∧ Rep w H' O d x) ∧ J.stop xs.length H := by
  obtain ⟨L, l0, lk, ls⟩ := h
  exact ls H (lk _ _ l0 e)
/-- the ground of a loop: all that is not owned -/
noncomputable def ground (own : Nat → List Addr) (H : Hp) : Hp := open Classical in fun a => if ∃ i, a ∈ own i then none else H a
theorem ground_in {own : Nat → List Addr} {H : Hp} {a : Addr} {o : HO} (h : ground own H a = some o) : (¬ ∃ i, a ∈ own i) ∧ H a = some o := by
  unfold ground at h
  split at h
  · cases h
  · rename_i z; exact ⟨z, h⟩
theorem ground_out {own : Nat → List Addr} {H : Hp} {a : Addr} (h : ¬ ∃ i, a ∈ own i) : ground own H a = H a := by
  unfold ground
  rw [if_neg h]
theorem ground_own {own : Nat → List Addr} {H : Hp} {a : Addr} {i : Nat} (h : a ∈ own i) : ground own H a = none := by
  unfold ground
  rw [if_pos ⟨i, h⟩]
theorem EnvS.grounded {H0 H : Hp} {P0 : Addr → Prop} {X0 : Addr} {σ : L2.St} {env : Env} {own : Nat → List Addr} (E : EnvS w H0 P0 X0 H σ env own) : EnvS w (ground own H) P0 X0 H σ env own :=
  ⟨E.len, fun a o h => (ground_in h).2, fun a z h => by
    rw [ground_out fun ⟨i, m⟩ => E.notP0 m z] at h
    exact E.dom0.same E.same a z h, E.dis, fun i a m => ground_own m, E.slot, E.emp, E.one⟩
theorem EnvS.ungrounded {H0 HG H : Hp} {P0 : Addr → Prop} {X0 : Addr} {σ : L2.St} {env : Env} {own : Nat → List Addr} (s : Same H0 HG) (d : Dom P0 H0) (E : EnvS w HG P0 X0 H σ env own) : EnvS w H0 P0 X0 H σ env own :=
  ⟨E.len, s.trans E.same, d, E.dis, fun i a m => s.free (E.new i a m), E.slot, E.emp, E.one⟩
theorem fO_ground {H0 HG : Hp} {P0 : Addr → Prop} {X0 : Addr} {D : Ends} (s : Same H0 HG) (d : Dom P0 H0) : ∀ {o : Out}, fO w W H0 P0 X0 D o → fO w W HG P0 X0 D o
  | .nx env, h => fun σ H own E => h σ H own (E.ungrounded s d)
  | .ret o v, h => fun x H s' r => h x H (s.trans s') ⟨r.1, r.2.pre s⟩
  | .brk env, h => fun σ H own E => h σ H own (E.ungrounded s d)
  | .ct env, h => fun σ H own E => h σ H own (E.ungrounded s d)
  | .exc env e, h => fun σ H own cls dd E => h σ H own cls dd (E.ungrounded s d)
  | .no, h => h
def forB (g : G) (C : Cal) (tg : Tg) (b : Ss) : D → Env → Out := fun x env' => match bindT tg x env' with
  | some env2 => exs g C b env2
  | none => .no
theorem sS_for {e' : Stmt} {tg : Tg} {t i : Expr} {it : It} {bd : Ss} {body : List Stmt} (hw : w.K = X.K) (hp : PassesOwn (model X.prog X.w) X.A X.env X.xe) (hc : X.calm = true) (hi : PI X t i (tI g C w W it)) (hg : PG X t (gT X.K tg)) (hb : PSs X body (tSs g C w W bd))
    (rule : PS X e' (tFor (tI g C w W it) (gT X.K tg) (tSs g C w W bd))) : PS X e' (tS g C w W (.for_ tg it bd)) :=
  PS.imp rule fun D σ H ⟨H0, P0, X0, env, own, E, f⟩ => by
    have f : fO w W H0 P0 X0 D ((items g C it env).to (rdi it) env fun xs => forL (forB g C tg bd) xs.2 (aftI (rdi it) xs.1 env)) := f
    refine ev_in (rel := rIt w) E f fun v q H1 s1 r1 k => ?_
    obtain ⟨v, xs⟩ := v
    obtain ⟨J, x⟩ := q
    obtain ⟨own1, E1, r2⟩ := E.aftI (rdi it) s1 r1.1
    have E2 := E1.later s1
    have E3 := E2.grounded
    have sg : Same H0 (ground own1 H1) := fun a o h => by
      rw [ground_out fun ⟨i, m⟩ => by rw [E2.new i a m] at h; cases h]
      exact E2.same _ _ h
    have k := fO_ground sg E2.dom0 k
    have wid : ∀ a, (Pof P0 own1 a ∨ H1 a = none) → Pof P0 own1 a ∨ H1 a = none := fun a z => z
    have wk := r1.2 (fun a => Pof P0 own1 a ∨ H1 a = none) H1 (Rep.wide wid _ _ r2.1)
    have ext : ∀ {H}, Same (ground own1 H1) H → Ext (fun a => Pof P0 own1 a ∨ H1 a = none) H1 H := fun {H} s a o h n => by
      have hno : ¬ ∃ i, a ∈ own1 i := fun ⟨i, m⟩ => by
        have := E2.mut m
        rw [h] at this
        exact n (.inl (.inr ⟨i, m⟩)) this
      exact s a o ((ground_out hno).trans h)
    refine ⟨fun i m σ H => i ≤ xs.length ∧ m = xs.length - i ∧ ∃ env' own', EnvS w (ground own1 H1) P0 X0 H σ env' own' ∧ fO w W (ground own1 H1) P0 X0 D (forL (forB g C tg bd) (xs.drop i) env'), ⟨_, Nat.zero_le _, rfl, _, own1, E3, by rw [List.drop_zero]; exact k⟩, ?_⟩
    rintro i m σ2 H2 ⟨hi, rfl, env2, own2, E4, k2⟩
    obtain ⟨w1, w2⟩ := wk.at_ (ext E4.same)
    by_cases hlt : i < xs.length
    · obtain ⟨go, yl⟩ := w1 i xs[i] (by simp [hlt])
      rw [List.drop_eq_getElem_cons hlt] at k2
      refine .inr ⟨go, fun σ' H' => ∃ env' own', EnvS w (ground own1 H1) P0 X0 H' σ' env' own' ∧ fO w W (ground own1 H1) P0 X0 D (forL (forB g C tg bd) (xs.drop (i + 1)) env'), fun σ' H' ⟨env', own', E', k'⟩ => ⟨xs.length - (i + 1), by omega, by omega, rfl, env', own', E', k'⟩, fun x' H3 y => ?_⟩
      obtain ⟨s3, r3⟩ := yl x' H3 y
      have k2 : fO w W (ground own1 H1) P0 X0 D (match forB g C tg bd xs[i] env2 with
        | .nx env' => forL (forB g C tg bd) (xs.drop (i + 1)) env'
        | .ct env' => forL (forB g C tg bd) (xs.drop (i + 1)) env'
        | .brk env' => .nx env'
        | o => o) := k2
      have E5 := E4.later s3
      have sub : ∀ a, Pof P0 own2 a → Pof P0 own1 a ∨ H1 a = none := fun a z => by
        rcases z with z | ⟨j, z⟩
        · exact .inl (.inl z)
        · have := E4.new j a z
          by_cases q : ∃ i, a ∈ own1 i
          · exact .inl (.inr q)
          · rw [ground_out q] at this
            exact .inr this
      cases hbd : bindT tg xs[i] env2 with
      | none =>
        have : forB g C tg bd xs[i] env2 = .no := by unfold forB; rw [hbd]
        rw [this] at k2
        exact k2.elim
      | some env3 =>
        have e3 : forB g C tg bd xs[i] env2 = exs g C bd env3 := by unfold forB; rw [hbd]
        rw [e3] at k2
        obtain ⟨σ', gq, pu⟩ := put_tg E5.len hbd (Rep.mono sub _ _ r3)
        obtain ⟨own3, E6⟩ := E5.put pu
        rw [← hw]
        refine gq _ ⟨ground own1 H1, P0, X0, env3, own3, E6, ?_⟩
        cases q : exs g C bd env3 with
        | nx env' => rw [q] at k2; exact fun σ H own E => ⟨env', own, E, k2⟩
        | ct env' => rw [q] at k2; exact fun σ H own E => ⟨env', own, E, k2⟩
        | brk env' => rw [q] at k2; exact k2
        | ret o d => rw [q] at k2; exact k2
        | exc env' e => rw [q] at k2; exact k2
        | no => rw [q] at k2; exact k2
    · have e : i = xs.length := by omega
      subst e
      rw [List.drop_length] at k2
      exact .inl ⟨w2, k2 σ2 H2 own2 E4⟩
theorem sS_while {c : Expr} {ic : E} {bd : Ss} {body : List Stmt} (hp : PassesOwn (model X.prog X.w) X.A X.env X.xe) (hc : PT X c (tT g C w W ic)) (hb : PSs X body (tSs g C w W bd)) : PS X (.While c body [] pos) (tS g C w W (.while_ ic bd)) :=
  PS.imp (ps_while hp hc hb) fun D σ H ⟨H0, P0, X0, env, own, E, f⟩ => by
    refine ⟨fun m σ H => ∃ env own, EnvS w H0 P0 X0 H σ env own ∧ fO w W H0 P0 X0 D (whileL (rd ic) (tst g C ic) (exs g C bd) m env), ⟨wFuel, env, own, E, f⟩, ?_⟩
    rintro m σ2 H2 ⟨env2, own2, E2, f2⟩
    cases m with
    | zero => exact f2.elim
    | succ m =>
      refine ev_in (rel := rI Bool) E2 f2 fun v b H3 s3 r3 k => ?_
      have r3 : b = v := r3
      subst r3
      have E3 := E2.later s3
      cases b with
      | false =>
        simp only [Bool.false_eq_true, if_false] at k ⊢
        exact k σ2 H3 own2 E3
      | true =>
        simp only [if_true] at k ⊢
        refine ⟨fun σ' H' => ∃ env own, EnvS w H0 P0 X0 H' σ' env own ∧ fO w W H0 P0 X0 D (whileL (rd ic) (tst g C ic) (exs g C bd) m env), fun σ' H' h => ⟨m, Nat.lt_succ_self m, h⟩, H0, P0, X0, env2, own2, E3, ?_⟩
        cases q : exs g C bd env2 with
        | nx env' => rw [q] at k; exact fun σ H own E => ⟨env', own, E, k⟩
        | ct env' => rw [q] at k; exact fun σ H own E => ⟨env', own, E, k⟩
        | brk env' => rw [q] at k; exact k
        | ret o d => rw [q] at k; exact k
        | exc env' e => rw [q] at k; exact k
        | no => rw [q] at k; exact k
end
end S2

set_option maxHeartbeats 4000000
/-! S2w: the caught exception: isinstance, with its own dict or without. -/
namespace S2
open PySem PySem.Spec PyProof.Rows L2

def rIsX (K : PySem.W.Frag) (D a : Addr) (d : Option Addr) : List V → Hp → VK → Prop := fun xs H Q => ∃ (c : V) (cv : Value) (b : Bool), xs = [.ref a, c] ∧ (∀ u, RelV c u → u = cv) ∧ PySem.W.kitOne K (.ref D) cv = some b ∧ (∀ dd, d = some dd → ∃ fs, H dd = some (.xd fs)) ∧ Q (.bl b) H
theorem call_isX {X : Cx} {a D : Addr} {oe : Obj} {d : Option Addr} {pn : List (Addr × Obj)} (C : ExcC X.K D) (hz : Zc (.ref D) d oe) (hf : ∃ vs, oe.data = .fields vs) : CallR (X.suite a ((a, oe) :: pn)) (.builtin "isinstance") (rIsX X.K D a d) := by
  intro pins s σ H xs us Q I r h
  obtain ⟨c, cv, b, rfl, hcv, e, hd, q⟩ := h
  cases r with
  | cons rx rr =>
    cases rr with
    | cons rt rr =>
      cases rr
      cases rx
      have ec := hcv _ rt
      subst ec
      obtain ⟨hget, _⟩ := I.pin (a, oe) (List.mem_append.mpr (.inl List.mem_cons_self))
      obtain ⟨vs, hv⟩ := hf
      have hcl : (PySem.W.clsIn X.K D).isSome = true := by
        obtain ⟨cd, hc, _⟩ := PySem.W.any_some C.hd
        rw [hc]; rfl
      cases d with
      | none =>
        have J : PySem.W.InstAt s.heap a oe D none := ⟨hget, hz.1, by unfold PySem.W.notCls; rw [hv] <;> rfl, by rw [hz.2]; trivial⟩
        exact PySem.W.kia_one (PySem.W.kitx_exc hcl C.hg C.hk C.hs C.ha C.hn C.ht C.hm) I.kIn J e (fun z => nomatch z) fun tk => ⟨.bl b, H, I.kept (t' := tk) fun _ _ z => z, rfl, q⟩
      | some dd =>
        obtain ⟨fs, hx⟩ := hd dd rfl
        have hok : ObjOk X.prog X.w H s.heap dd (.xd fs) := I.hok dd _ hx
        obtain ⟨mA, hns, hr⟩ := hok
        obtain ⟨od, ho, hl⟩ := lookIn_ns hns
        have J : PySem.W.InstAt s.heap a oe D (some od) := ⟨hget, hz.1, by unfold PySem.W.notCls; rw [hv] <;> rfl, by rw [hz.2]; exact ho⟩
        exact PySem.W.kia_one (PySem.W.kitx_exc hcl C.hg C.hk C.hs C.ha C.hn C.ht C.hm) I.kIn J e (fun z => nomatch z) fun tk => ⟨.bl b, H, I.kept (t' := tk) fun _ _ z => z, rfl, q⟩
/-- what is known of the exception classes -/
structure Ex (K : PySem.W.Frag) (mg : Str → Option Value) (g : G) (w : Wr) : Prop where
  exc : ∀ k, (g.exf k).isSome = true → ExcC K (w.ca k) ∧ XfC K (w.ca k)
  own : ∀ c, (g.exf c).isSome = true → mg c = some (.ref (w.ca c))
  kit : ∀ k c, (g.exf k).isSome = true → (g.exf c).isSome = true → PySem.W.kitOne K (.ref (w.ca k)) (.ref (w.ca c)) = some (g.sub k c)
  ve : ∀ k, (g.exf k).isSome = true → PySem.W.kitOne K (.ref (w.ca k)) (.type "ValueError") = some (g.sub k (Str.ofString "ValueError"))
  exm : ∀ k c, (g.exf k).isSome = true → (g.exf c).isSome = true → PySem.W.exmOne K (.ref (w.ca k)) (.ref (w.ca c)) = some (g.sub k c)
  fno : ∀ k f, (g.exf k).isSome = true → g.nf f = true → PySem.W.findIn K (.ref (w.ca k)) f = some none
section
variable {X : Cx} {W : WX} {g : G} {w : Wr} {C : Cal} {a : Addr} {oe : Obj} {cls : Value} {d : Option Addr} {pn : List (Addr × Obj)} {i : Nat} {x c : Str} {p p1 p2 pos : Pos}
theorem xr_dd {H : Hp} {O : Addr → Prop} {k : Str} {ns : List Str} {vs : List D} (h : XR w H O cls d (.ob k ns vs)) : ∀ dd, d = some dd → ∃ fs, H dd = some (.xd fs) := by
  intro dd e
  obtain ⟨_, h⟩ := h
  rcases h with ⟨_, _, h⟩ | ⟨b, fs, h1, h2, _⟩
  · rw [h] at e; cases e
  · rw [h1] at e; cases e; exact ⟨fs, h2⟩
/-- isinstance(e, c): c an own exception class, or ValueError -/
theorem sE_isx (ex : Ex X.K X.mg g w) (fr : ∀ y, g.fr y = true → X.mg y = none) (hz : Zc cls d oe) (hf : ∃ vs, oe.data = .fields vs) (hN : X.N[i]? = some x) (hv : Vis X.env.scope x) (hd : (x == ("__debug__" : Str)) = false) (hcd : (x == ("__classdict__" : Str)) = false)
    (hg : Gl X "isinstance") (hr : g.fr "isinstance" = true) (hg2 : Gl X c) (hc : ((g.exf c).isSome = true ∧ (c == ("__debug__" : Str)) = false) ∨ (c = Str.ofString "ValueError" ∧ g.fr (Str.ofString "ValueError") = true)) :
    PE (X.suite a ((a, oe) :: pn)) (.Call (.Name "isinstance" p) [.Name x p1, .Name c p2] [] pos) (tE g C (w.at_ ⟨a, cls, d⟩) W (.isx i c)) := by
  refine ⟨fun pins s σ H Q I ⟨env, O, dom, en, h⟩ => ?_⟩
  have h : fR (w.at_ ⟨a, cls, d⟩) W σ O (rV (w.at_ ⟨a, cls, d⟩) O) H (match env[i]? with
    | some (some (.ex, .ob k _ _)) => if (g.exf k).isSome = true then .ok (.sh, .bl (g.sub k c)) else .no
    | _ => .no) Q := h
  split at h
  case h_2 => exact h.elim
  rename_i k ns vs e
  split at h
  case isFalse => exact h.elim
  rename_i hk
  obtain ⟨h1, h2⟩ := en.1.2 (i, false) (List.mem_singleton.mpr rfl) _ e
  obtain ⟨ec, _⟩ := id h2
  have ec : cls = .ref (w.ca k) := ec
  subst ec
  have q := h.ok (VR.sh (x := .bl (g.sub k c)) rfl)
  have st : starEach [.Name x p1, .Name c p2] (X.suite a ((a, oe) :: pn)).env = (false, eval (.Name x p1) (X.suite a ((a, oe) :: pn)).env) :: starEach [.Name c p2] (X.suite a ((a, oe) :: pn)).env := by rfl
  have px : PE (X.suite a ((a, oe) :: pn)) (.Name x p1) (tVar i) := pe_var hN hv hd hcd
  rcases hc with ⟨hc, hdb⟩ | ⟨hc, hrv⟩
  · have pc : PE (X.suite a ((a, oe) :: pn)) (.Name c p2) (tC (.ref (w.ca c))) := pe_glob hg2 (ex.own c hc) rfl hdb
    refine (pe_callB (call_isX (X := X) (pn := pn) (ex.exc k hk).1 hz hf) hg (fr _ hr) boot_isinstance (pa_cons px (pa_cons pc pa_nil (by rfl)) st) (by decide) (by decide) st (by rfl)).run pins s σ H Q I ?_
    exact ⟨.ref a, h1, .ref (w.ca c), .ref (w.ca c), g.sub k c, rfl, fun u r => r, ex.kit k c hk hc, xr_dd h2, q⟩
  · subst hc
    have pc : PE (X.suite a ((a, oe) :: pn)) (.Name (Str.ofString "ValueError") p2) (tC (.ty "ValueError")) := pe_bltn hg2 (fr _ hrv) (by rfl) rfl (by decide) (by decide)
    refine (pe_callB (call_isX (X := X) (pn := pn) (ex.exc k hk).1 hz hf) hg (fr _ hr) boot_isinstance (pa_cons px (pa_cons pc pa_nil (by rfl)) st) (by decide) (by decide) st (by rfl)).run pins s σ H Q I ?_
    exact ⟨.ref a, h1, .ty "ValueError", .type "ValueError", _, rfl, fun u r => r, ex.ve k hk, xr_dd h2, q⟩
/-- e.f -/
theorem sE_xfl {f : Str} (ex : Ex X.K X.mg g w) (hz : Zc cls d oe) (hf : ∃ vs, oe.data = .fields vs) (hN : X.N[i]? = some x) (hv : Vis X.env.scope x) (hd : (x == ("__debug__" : Str)) = false) (hcd : (x == ("__classdict__" : Str)) = false)
    (hb : attributeBase (.Name x p1) f X.env (eval (.Name x p1) X.env) = eval (.Name x p1) X.env) (hno : ∀ k, (g.exf k).isSome = true → PySem.W.findIn X.K (.ref (w.ca k)) f = some none) :
    PE (X.suite a ((a, oe) :: pn)) (.Attribute (.Name x p1) f pos) (tE g C (w.at_ ⟨a, cls, d⟩) W (.xfl i f)) := by
  refine ⟨fun pins s σ H Q I ⟨env, O, dom, en, h⟩ => ?_⟩
  have h : fR (w.at_ ⟨a, cls, d⟩) W σ O (rV (w.at_ ⟨a, cls, d⟩) O) H (match env[i]? with
    | some (some (.ex, .ob k ns vs)) => if (g.exf k).isSome = true then shD (fldD f (.ob k ns vs)).tame else .no
    | _ => .no) Q := h
  split at h
  case h_2 => exact h.elim
  rename_i k ns vs e
  split at h
  case isFalse => exact h.elim
  rename_i hk
  obtain ⟨h1, h2⟩ := en.1.2 (i, false) (List.mem_singleton.mpr rfl) _ e
  obtain ⟨ec, h3⟩ := h2
  have ec : cls = .ref (w.ca k) := ec
  subst ec
  have h : fR (w.at_ ⟨a, .ref (w.ca k), d⟩) W σ O (rV (w.at_ ⟨a, .ref (w.ca k), d⟩) O) H ((fldD f (.ob k ns vs)).tame.bind fun d => .ok (.sh, d)) Q := h
  obtain ⟨d', e', h⟩ := h.tame
  have e' : (match fldL f ns vs with | some d => R.ok d | none => .no) = .ok d' := e'
  split at e'
  case h_2 => cases e'
  rename_i d2 e2
  cases e'
  rcases h3 with ⟨z1, z2, z3⟩ | ⟨b, fs, z1, z2, z3, z4⟩
  · rw [z1, z2] at e2
    unfold fldL at e2
    cases e2
  · obtain ⟨v, l, rv⟩ := fld_get z3 z4 e2
    have px : PE (X.suite a ((a, oe) :: pn)) (.Name x p1) (tVar i) := pe_var hN hv hd hcd
    exact (pe_xf (X := X) (pn := pn) (ex.exc k hk).2 (hno k hk) hz hf px hb).run pins s σ H Q I ⟨.ref a, h1, rfl, rfl, b, fs, v, z1, z2, l, fR.ok (rel := rV (w.at_ ⟨a, .ref (w.ca k), d⟩) O) h (VR.sh rv)⟩
/-- the suite's words -/
theorem sx_suite (ex : Ex X.K X.mg g w) (fr : ∀ y, g.fr y = true → X.mg y = none) (hz : Zc cls d oe) (hf : ∃ vs, oe.data = .fields vs) : Sx (X.suite a ((a, oe) :: pn)) g (w.at_ ⟨a, cls, d⟩) where
  isx := fun C W i x c p p1 p2 pos hN hv hd hcd hg hr hg2 hc => sE_isx ex fr hz hf hN hv hd hcd hg hr hg2 hc
  xfl := fun C W i x f p1 pos hN hv hd hcd hnf => sE_xfl ex hz hf hN hv hd hcd (by rfl) fun k hk => ex.fno k f hk hnf
end
end S2

set_option maxHeartbeats 4000000
/-! S2x: into an except suite's words and back. -/
namespace S2
open PySem PySem.Spec PyProof.Rows L2

section
variable {w : Wr} {H0 H H' : Hp} {O P0 P : Addr → Prop} {X0 : Addr} {σ : L2.St} {env : Env} {own : Nat → List Addr} {ow : List Addr} {v : OD} {x : V}
theorem at_back (z : XI) : (w.at_ z).at_ w.xi = w := rfl
theorem VR.xi (z : XI) (r : VR w H H' O v x) : VR (w.at_ z) H H' O v x := by
  obtain ⟨o, d⟩ := v
  obtain ⟨r1, f⟩ := r
  refine ⟨Rep.xi z _ _ r1, ?_⟩
  cases o with
  | sh => exact True.intro
  | oi => exact f.elim
  | ex => exact f.elim
  | o1 => obtain ⟨p, e, n, l, rk⟩ := f; exact ⟨p, e, n, l, RepK.xi z _ _ rk⟩
  | o2 => obtain ⟨p, qs, l, e, e2, n, hp, nd, q, ks⟩ := f; exact ⟨p, qs, l, e, e2, n, hp, nd, q, ks.xi z⟩
theorem XR.xi (z : XI) {cls : Value} {dd : Option Addr} : ∀ {d : D}, XR w H O cls dd d → XR (w.at_ z) H O cls dd d
  | .ob _ _ _, ⟨e, h⟩ => ⟨e, h.imp id fun ⟨a, fs, h1, h2, h3, h4⟩ => ⟨a, fs, h1, h2, h3, Reps.xi z _ _ h4⟩⟩
theorem SlotOk.xi (z : XI) : ∀ {o : Own} {d : D} {v : V}, o ≠ .ex → SlotOk w H P ow o d v → SlotOk (w.at_ z) H P ow o d v
  | .sh, _, _, _, ⟨e, r⟩ => ⟨e, Rep.xi z _ _ r⟩
  | .o1, _, _, _, ⟨p, e, e2, l, r⟩ => ⟨p, e, e2, l, RepK.xi z _ _ r⟩
  | .o2, _, _, _, ⟨p, qs, l, e, nd, e1, e2, h, k⟩ => ⟨p, qs, l, e, nd, e1, e2, h, k.xi z⟩
  | .oi, _, _, _, ⟨p, c, ns, ds, e, e1, e2, r⟩ => ⟨p, c, ns, ds, e, e1, e2, RepK.xi z _ _ r⟩
  | .ex, _, _, n, _ => absurd rfl n
/-- where no slot holds an exception, the suite's words and the def's say the same -/
theorem EnvS.xi (z : XI) (E : EnvS w H0 P0 X0 H σ env own) (n : ∀ (i : Nat) (d : D), env[i]? ≠ some (some (Own.ex, d))) : EnvS (w.at_ z) H0 P0 X0 H σ env own :=
  ⟨E.len, E.same, E.dom0, E.dis, E.new, fun i o d e => (E.slot i o d e).imp fun _ q => ⟨q.1, q.2.xi z fun h => by subst h; exact n i d e⟩, E.emp, E.one⟩
end
section
variable {w : Wr} {H0 H : Hp} {P0 : Addr → Prop} {X0 : Addr} {σ : L2.St} {env : Env} {own : Nat → List Addr}
/-- a slot gets what owns nothing, or is emptied -/
theorem EnvS.setN (E : EnvS w H0 P0 X0 H σ env own) (i : Nat) (s : Slot) (u : Option V) (hs : ∀ P' : Addr → Prop, (∀ a, P' a → Pof P0 own a) → ∀ o d, s = some (o, d) → o ≠ .oi ∧ ∃ v, u = some v ∧ SlotOk w H P' [] o d v) : ∃ own2, EnvS w H0 P0 X0 H (σ.set i u) (env.set i s) own2 := by
  let own2 : Nat → List Addr := fun j => if j = i then [] else own j
  have sub1 : ∀ j a, a ∈ own2 j → a ∈ own j := fun j a m => by
    by_cases e : j = i
    · simp only [own2, e, if_true] at m; cases m
    · simpa only [own2, e, if_false] using m
  have sub : ∀ a, Pof P0 own2 a → Pof P0 own a := fun a z => z.imp id fun ⟨j, m⟩ => ⟨j, sub1 j a m⟩
  refine ⟨own2, ?_, E.same, E.dom0, fun j k a h1 h2 => E.dis j k a (sub1 _ _ h1) (sub1 _ _ h2), fun j a h => E.new j a (sub1 _ _ h), fun j o d e => ?_, fun j h => ?_, fun j d v e hv => ?_⟩
  · rw [List.length_set, List.length_set]; exact E.len
  · by_cases e1 : j = i
    · subst e1
      by_cases hl : j < env.length
      · rw [List.getElem?_set_self hl] at e
        obtain ⟨_, v, hu, ok⟩ := hs (Pof P0 own2) sub o d (Option.some.inj e)
        refine ⟨v, by rw [List.getElem?_set_self (by rw [← E.len]; exact hl), hu], ?_⟩
        have : own2 j = [] := if_pos rfl
        rw [this]; exact ok
      · rw [List.getElem?_eq_none (by rw [List.length_set]; omega)] at e; cases e
    · rw [List.getElem?_set_ne (Ne.symm e1)] at e
      obtain ⟨v, hv, ok⟩ := E.slot j o d e
      refine ⟨v, by rw [List.getElem?_set_ne (Ne.symm e1)]; exact hv, ?_⟩
      have : own2 j = own j := if_neg e1
      rw [this]; exact ok.wide fun a z => .inl (sub a z)
  · by_cases e1 : j = i
    · exact if_pos e1
    · have : own2 j = own j := if_neg e1
      rw [this]
      exact E.emp j fun o d e => h o d (by rw [List.getElem?_set_ne (Ne.symm e1)]; exact e)
  · by_cases e1 : j = i
    · subst e1
      by_cases hl : j < env.length
      · rw [List.getElem?_set_self hl] at e
        obtain ⟨n, _⟩ := hs (Pof P0 own2) sub .oi d (Option.some.inj e)
        exact absurd rfl n
      · rw [List.getElem?_eq_none (by rw [List.length_set]; omega)] at e; cases e
    · rw [List.getElem?_set_ne (Ne.symm e1)] at e hv
      exact E.one j d v e hv
theorem EnvS.drop (E : EnvS w H0 P0 X0 H σ env own) (i : Nat) : ∃ own2, EnvS w H0 P0 X0 H (σ.set i none) (env.set i none) own2 := E.setN i none none fun _ _ _ _ h => by cases h
theorem noX_ok : ∀ {env : Env}, noX env = true → ∀ (i : Nat) (d : D), env[i]? ≠ some (some (Own.ex, d))
  | [], _, i, d => fun z => by rw [List.getElem?_nil] at z; cases z
  | s :: r, h, i, d => fun z => by
    have hr : noX r = true ∧ ∀ d, s ≠ some (Own.ex, d) := by
      cases s with
      | none => exact ⟨h, fun _ z => by cases z⟩
      | some od =>
        obtain ⟨o, d'⟩ := od
        cases o <;> first | exact ⟨h, fun _ z => by cases z⟩ | (exact absurd h Bool.false_ne_true)
    cases i with
    | zero => exact hr.2 d (by simpa using z)
    | succ i => exact noX_ok hr.1 i d (by simpa using z)
end
end S2

set_option maxHeartbeats 4000000
/-! S2s: every checked statement does what the evaluator says. -/
namespace S2
open PySem PySem.Spec PyProof.Rows L2

/-- how an own exception is made -/
def ExF (X : Cx) (w : Wr) (c : Str) : List Str → Prop
  | [] => ∀ (x : Str) (j : Nat) (p1 p2 pos : Pos), Gl X c → L2N.PMk X (.Call (.Name c p1) [.Constant (.str x) j p2] [] pos) (fun _ H Q => Q (.ref (w.ca c)) none H)
  | [f] => ∀ (e : Expr) (te : TE) (p1 pos : Pos), Gl X c → PE X e te → Plain X [e] → L2N.PMk X (.Call (.Name c p1) [e] [] pos) (fun σ H Q => te σ H fun y H1 => ∀ a, H1 a = none → Q (.ref (w.ca c)) (some a) (upd H1 a (.xd [(f, y)])))
  | _ => False
/-- how exceptions are made, in any body -/
def ExA (P : Program) (wd : World) (K : PySem.W.Frag) (mg : Str → Option Value) (g : G) (w : Wr) : Prop := ∀ X : Cx, X.prog = P → X.w = wd → X.K = K → X.mg = mg → X.calm = true → Room 0 X.A → ∀ c ns, g.exf c = some ns → ExF X w c ns
structure GdS (X : Cx) (W : WX) (g : G) (w : Wr) (n : Nat) (hot : Bool := false) : Prop where
  gd : Gd X W g w n hot
  hp : PassesOwn (model X.prog X.w) X.A X.env X.xe
  fn : ∀ x, X.fn x = true
  stk : X.stack = X.env :: X.outer
  frm : X.env.frame = some X.env.locals
  kind : X.env.scope.kind = .function
  hu : X.A.units + 66 < cLine
  tb : Tab g w
  ea : ExA X.prog X.w X.K X.mg g w
  ex : Ex X.K X.mg g w
def isLC : Expr → Bool
  | .ListComp _ _ _ _ => true
  | _ => false
def isTupE : Expr → Bool
  | .Tuple _ _ _ => true
  | _ => false
def lcSw (sc : Scope) (x : Str) (px : Pos) : Expr → Bool
  | .ListComp _ _ scope pos => decide (sc.names.lookup x = some .local) && (px.line == pos.line) && !(scope.names.any fun (n, k) => n == x && (k == .local || k == .cell))
  | _ => false
mutual
def okS (g : G) (N : List Str) (hot : Bool := false) : S → Scope → Stmt → Bool
  | .pass, _, st => match st with | .Pass _ => true | _ => false
  | .doc, _, st => match st with | .Expr (.Constant (.str _) _ _) _ => true | _ => false
  | .asg i e, sc, st => match st with | .Assign [.Name x px] v _ => decide (N[i]? = some x) && locB sc x && okE g N hot e sc v && (!isLC v || lcSw sc x px v) | _ => false
  | .tup is e, sc, st => match st with | .Assign [.Tuple es k p] v _ => !hot && okTg N sc (.tp is) (.Tuple es k p) && okE g N hot e sc v && !isLC v && !isTupE v | _ => false
  | .asgix i a e, sc, st => match st with | .Assign [.Subscript (.Name x _) y _] v _ => vrB N sc i x && okE g N hot a sc y && okE g N hot e sc v && !isLC v | _ => false
  | .par i j ia ib, sc, st => match st with | .Assign [.Tuple [.Name x px, .Name y py] _ _] (.Tuple [.Name u pu, .Name v pv] _ _) _ => !hot && decide (N[i]? = some x) && decide (N[j]? = some y) && decide (i ≠ j) && decide (sc.names.lookup x = some .local) && decide (sc.names.lookup y = some .local) && decide (py.line = px.line) && decide (x ≠ y) && decide (u ≠ Str.ofString "__debug__") && okEs g N hot (.cons ia (.cons ib .nil)) sc [.Name u pu, .Name v pv] | _ => false
  | .dput i a e, sc, st => match st with | .Assign [.Subscript (.Name x _) y _] v _ => vrB N sc i x && okE g N hot a sc y && okE g N hot e sc v && !isLC v | _ => false
  | .app i e, sc, st => match st with | .Expr (.Call (.Attribute (.Name x _) m apos) [v] [] p2) _ => decide (m = "append") && vrB N sc i x && okE g N hot e sc v && (apos.endLine == p2.line) | _ => false
  | .rev i, sc, st => match st with | .Expr (.Call (.Attribute (.Name x _) m apos) [] [] p2) _ => decide (m = "reverse") && vrB N sc i x && (apos.endLine == p2.line) | _ => false
  | .popd i .none, sc, st => match st with | .Expr (.Call (.Attribute (.Name x _) m apos) [] [] p2) _ => decide (m = "pop") && vrB N sc i x && (apos.endLine == p2.line) | _ => false
  | .appop i j (.some e), sc, st => match st with | .Expr (.Call (.Attribute (.Name x _) m apos) [.Call (.Attribute (.Name y _) m2 bpos) [v] [] p4] [] p2) _ => decide (m = "append") && decide (m2 = "pop") && vrB N sc i x && vrB N sc j y && okE g N hot e sc v && (apos.endLine == p2.line) && (bpos.endLine == p4.line) | _ => false
  | .appat i a e, sc, st => match st with | .Expr (.Call (.Attribute (.Subscript (.Name x _) y _) m apos) [v] [] p2) _ => decide (m = "append") && vrB N sc i x && okE g N hot a sc y && okE g N hot e sc v && (apos.endLine == p2.line) | _ => false
  | .fld i f e, sc, st => match st with | .Assign [.Attribute (.Name x _) f' _] v _ => decide (f' = f) && g.nf f && vrB N sc i x && okE g N hot e sc v && !isLC v | _ => false
  | .ex e, sc, st => match st with | .Expr v _ => okE g N hot e sc v && !isLC v | _ => false
  | .ife c a b, sc, st => match st with | .If t x y _ => okT g N hot c sc t && okSs g N hot a sc x && okSs g N hot b sc y | _ => false
  | .for_ tg it b, sc, st => match st with | .For t i x [] _ => !hot && okTg N sc tg t && okI g N hot it sc i && okSs g N hot b sc x | _ => false
  | .while_ c b, sc, st => match st with | .While t x [] _ => okT g N hot c sc t && okSs g N hot b sc x | _ => false
  | .ret e, sc, st => match st with | .Return (some v) _ => okE g N hot e sc v | _ => false
  | .retn, _, st => match st with | .Return none _ => true | _ => false
  | .brk, _, st => match st with | .Break _ => true | _ => false
  | .cont, _, st => match st with | .Continue _ => true | _ => false
  | .raise_ c es, sc, st => match st with
    | .Raise (some (.Call (.Name x _) l [] _)) none _ => !hot && decide (x = c) && glB sc c && (match g.exf c, es, l with
      | some [], .nil, [.Constant (.str _) _ _] => true
      | some [_], .cons e .nil, [v] => okE g N hot e sc v
      | _, _, _ => false)
    | _ => false
  | .try_ b (.cons c (some i) hb .nil), sc, st => match st with
    | .Try body [.ExceptHandler (some (.Name x _)) (some nm) (b0 :: su) _] [] [] _ => !hot && decide (x = c) && glB sc c && nmB1 c && (g.exf c).isSome && decide (N[i]? = some nm) && decide (sc.names.lookup nm = some .local) && okSs g N false b sc body && okSs g N true hb sc (b0 :: su)
    | _ => false
  | .try_ b (.cons c none hb .nil), sc, st => match st with
    | .Try body [.ExceptHandler (some (.Name x _)) none (b0 :: su) _] [] [] _ => !hot && decide (x = c) && glB sc c && nmB1 c && (g.exf c).isSome && okSs g N false b sc body && okSs g N true hb sc (b0 :: su)
    | _ => false
  | _, _, _ => false
def okSs (g : G) (N : List Str) (hot : Bool := false) : Ss → Scope → List Stmt → Bool
  | .nil, _, l => match l with | [] => true | _ => false
  | .cons s ss, sc, l => match l with | x :: r => okS g N hot s sc x && okSs g N hot ss sc r | _ => false
end
theorem sw_no {v : Expr} (h : isLC v = false) (hs : shB v = true) (t : Option Expr) (l : Nat) (env : PySem.Env) : swapsWith v t l env = pure false := by
  cases v <;> first | (exact absurd hs Bool.false_ne_true) | (exact Bool.noConfusion (show true = false from h)) | rfl
theorem st_no {v t : Expr} (h : isTupE v = false) (hs : shB v = true) (env : PySem.Env) : swappedStores [t] v env = pure none := by
  cases v <;> first | (exact absurd hs Bool.false_ne_true) | (exact Bool.noConfusion (show true = false from h)) | (cases t <;> rfl)
theorem st_sub {x a v : Expr} {p : Pos} (env : PySem.Env) : swappedStores [.Subscript x a p] v env = pure none := by
  cases v <;> rfl
section
variable {X : Cx} {W : WX} {g : G} {w : Wr} {n : Nat}
/-- name = [..] on one line -/
theorem sS_lc {hot : Bool} {i : Nat} {e : E} {x : Str} {px pos : Pos} {v : Expr} (q : GdS X W g w n hot) (hi : X.N[i]? = some x) (h : okE g X.N hot e X.env.scope v = true) (hl : lcSw X.env.scope x px v = true) : PS X (.Assign [.Name x px] v pos) (tS g (cal g n) w W (.asg i e)) := by
  obtain ⟨elt, tg, it, c, rfl⟩ : ∃ elt tg it c, e = .lc elt tg it c := by
    cases e with
    | lc elt tg it c => exact ⟨elt, tg, it, c, rfl⟩
    | hsm i j =>
      unfold okE at h
      obtain ⟨_, _, _, _, rfl⟩ := hsmB_sh h
      exact absurd hl Bool.false_ne_true
    | hcall f i =>
      unfold okE at h
      obtain ⟨_, _, _, _, rfl⟩ := hcallB_sh h
      exact absurd hl Bool.false_ne_true
    | srk a f =>
      unfold okE at h
      split at h
      · rename_i z
        obtain ⟨_, _, _, _, rfl⟩ := srkP_sh z
        exact absurd hl Bool.false_ne_true
      · cases h
    | _ => unfold okE at h; (repeat' split at h) <;> first | (exact absurd h Bool.false_ne_true) | (exact absurd hl Bool.false_ne_true)
  unfold okE at h
  split at h
  case h_2 => cases h
  rename_i x' t' i' ifs as scope p
  have gd := q.gd
  simp only [Bool.and_eq_true, decide_eq_true_eq] at h
  obtain ⟨⟨⟨⟨⟨⟨⟨⟨h0, h1⟩, h2⟩, h3⟩, h4⟩, h5⟩, h6⟩, h7⟩, h8⟩ := h
  have h0 : hot = false := by simpa using h0
  subst h0
  subst h1
  have hl : (decide (X.env.scope.names.lookup x = some .local) && (px.line == p.line) && !(scope.names.any fun (n, k) => n == x && (k == .local || k == .cell))) = true := hl
  simp only [Bool.and_eq_true, decide_eq_true_eq, Bool.not_eq_true'] at hl
  have hs : ∀ y, foldedSetIterable i' X.env y = pure y := sh_fold (okI_sh h6) _
  refine PS.imp (ps_setLc (g := gT X.K tg) (own := tgOwn tg t') (gd.calm rfl) gd.nd hi hl.1.1 (sw_true q.kind hl.1.1 hl.1.2 hl.2) (sI it gd q.tb q.hu h6) (blkOk_by h2)
        (fun s H C cl fp => sG (X := X.blk s H scope (compEnvC scope cl C X.env) fp) gd.nd (gd.calm rfl) (fun x => fn_blk' x) h4 h5)
        (fun s H C cl fp => sC c (X := X.blk s H scope (compEnvC scope cl C X.env) fp) (gd_blk gd s H scope _ fp) q.tb q.hu h8)
        (fun s H C cl fp => sE elt (X := X.blk s H scope (compEnvC scope cl C X.env) fp) (gd_blk gd s H scope _ fp) q.tb q.hu h7) hs) fun D σ H h => ?_
  have := asg_in h
  rw [h3]
  have := lc_in (fun j hj => hj) (fun j hj => hj) this
  rwa [gd.fx.hK] at this
theorem sS_raise0 {c : Str} {x : Str} {j : Nat} {p1 p2 p3 pos : Pos} (q : GdS X W g w n) (hx : g.exf c = some []) (hg : Gl X c) : PS X (.Raise (some (.Call (.Name c p1) [.Constant (.str x) j p2] [] p3)) none pos) (tS g (cal g n) w W (.raise_ c .nil)) :=
  PS.imp (L2N.ps_raise (q.gd.calm rfl) q.gd.takes (q.ea X rfl rfl rfl rfl (q.gd.calm rfl) ((q.gd.room rfl).mono (Nat.zero_le _)) c [] hx x j p1 p2 p3 hg)) fun D σ H ⟨H0, P0, X0, env, own, E, f⟩ => by
    have f : fO w W H0 P0 X0 D (match g.exf c with
      | some ns => if ns.length = 0 then .exc (frz [] env) (.ob c ns []) else .no
      | none => .no) := f
    rw [hx] at f
    exact f σ H _ _ _ (E.frz []) ⟨rfl, .inl ⟨rfl, rfl, rfl⟩⟩
theorem sS_raise1 {c f0 : Str} {e : E} {v : Expr} {p1 p3 pos : Pos} (q : GdS X W g w n) (hx : g.exf c = some [f0]) (hg : Gl X c) (he : PE X v (tE g (cal g n) w W e)) (hp : Plain X [v]) : PS X (.Raise (some (.Call (.Name c p1) [v] [] p3)) none pos) (tS g (cal g n) w W (.raise_ c (.cons e .nil))) :=
  PS.imp (L2N.ps_raise (q.gd.calm rfl) q.gd.takes (q.ea X rfl rfl rfl rfl (q.gd.calm rfl) ((q.gd.room rfl).mono (Nat.zero_le _)) c [f0] hx v _ p1 p3 hg he hp)) fun D σ H ⟨H0, P0, X0, env, own, E, f⟩ => by
    have f : fO w W H0 P0 X0 D ((((ev g (cal g n) e env).bind fun x => .ok [x])).to (rd e ++ []) env fun l => (match g.exf c with
      | some ns => if ns.length = l.length then .exc (frz (rd e ++ []) env) (.ob c ns (l.map (·.2))) else .no
      | none => .no)) := f
    rw [hx, List.append_nil] at f
    have f : fO w W H0 P0 X0 D ((ev g (cal g n) e env).to (rd e) env fun x => .exc (frz (rd e) env) (.ob c [f0] [x.2])) := by
      cases z : ev g (cal g n) e env with
      | ok v => rw [z] at f; exact f
      | exc d => rw [z] at f; exact f
      | no => rw [z] at f; exact f
    refine ev_in E f fun u y H1 s1 r1 k a ha => ?_
    have E1 := (E.frz (rd e)).later (s1.trans (same_new (o := .xd [(f0, y)]) ha))
    exact k σ _ _ _ _ E1 ⟨rfl, .inr ⟨a, [(f0, y)], rfl, upd_same, rfl, y, [], rfl, Rep.same (same_new ha) _ _ r1.1, rfl⟩⟩
theorem isVar_of {e : E} : (∃ i, e = .var i) ∨ ∀ i, e ≠ .var i := by
  cases e <;> first | (exact .inl ⟨_, rfl⟩) | (exact .inr fun i z => by cases z)
end
section
variable {X : Cx} {W W' : WX} {g : G} {w : Wr} {n : Nat}
theorem spH_xi {g : G} {w : Wr} {f : Str} (z : XI) {p : Addr × Obj} {xs : List V} {H : Hp} {Q : VK} (h : spH g (w.at_ z) f p xs H Q) : spH g w f p xs H Q := by
  obtain ⟨d, O, cls, dd, h1, h2, h3, h4, h5, h6⟩ := h
  refine ⟨d, O, cls, dd, h1, h2, h3, h4, h5.xi w.xi, ?_⟩
  cases e : hotR g f d with
  | ok v => rw [e] at h6; exact fun x H' s r => h6 x H' s (r.xi z)
  | exc _ => rw [e] at h6; exact h6
  | no => rw [e] at h6; exact h6
theorem HLv.xi {P : Program} {wd : World} {K : PySem.W.Frag} {mg : Str → Option Value} {base : Heap} {g : G} {w : Wr} (z : XI) (h : HLv P wd K mg base g w) : HLv P wd K mg base g (w.at_ z) := fun f hf => by
  obtain ⟨a, fd, ps, h1, h2, h3, F⟩ := h f hf
  exact ⟨a, fd, ps, h1, h2, h3, fun p xs H Q q => F.len p xs H Q (spH_xi z q), fun A out s H ar us xs Q p r ng hot pin en0 bnd rel q => F.run A out s H ar us xs Q p r ng hot pin en0 bnd rel (spH_xi z q)⟩
theorem hot_room {n : Nat} {A : Around} (r : Room n A) (hn : n ≠ 0) {h : Option Value} : L2H.RoomH 1 (A.mark h) :=
  ⟨by have := r.dp; show A.depth + 3 * 1 + 5 < _; omega, by have := r.un; show A.units + 16 * 1 + 200 < _; omega⟩
/-- the bundle of a try's body -/
theorem GdS.tr (q : GdS X W g w n) {pn : List (Addr × Obj)} {xe : Value → Shared → Prop} (tk : L2N.Takes (X.tr pn xe) W') (hp : PassesOwn (model X.prog X.w) X.A X.env xe) : GdS (X.tr pn xe) W' g w n :=
  ⟨⟨q.gd.fx, q.gd.nd, q.gd.calm, q.gd.room2, tk, q.gd.ng, (fun z => by cases z), q.gd.hl, (fun z => by cases z), q.gd.lv, fun z => by cases z⟩, hp, q.fn, q.stk, q.frm, q.kind, q.hu, q.tb, q.ea, q.ex⟩
/-- the bundle of an except suite -/
theorem GdS.suite (q : GdS X W g w n) {a : Addr} {oe : Obj} {cls : Value} {d : Option Addr} (pn : List (Addr × Obj)) (hz : L2N.Zn cls d oe) (hf : ∃ vs, oe.data = .fields vs) : GdS (X.suite a ((a, oe) :: pn)) Wf g (w.at_ ⟨a, cls, d⟩) n true :=
  have fx' : Fx X.K X.mg g (w.at_ ⟨a, cls, d⟩) := ⟨q.gd.fx.hK, q.gd.fx.free, (fun x d e => by
    obtain ⟨v, u, h1, h2, h3⟩ := q.gd.fx.con x d e
    exact ⟨v, u, h1, h2, fun H O => Rep.xi _ _ _ (h3 H O)⟩), q.gd.fx.cls, q.gd.fx.nf⟩
  have gd' : Gd (X.suite a ((a, oe) :: pn)) Wf g (w.at_ ⟨a, cls, d⟩) n true := ⟨fx', q.gd.nd, (fun h => by cases h), (fun h => by cases h), (fun _ _ ⟨_, _, _, _, _, _, _, _, _, _, _, _, _, _, _, _, f⟩ => f.elim), q.gd.ng, (fun _ => ⟨(a, oe), ⟨rfl, hf.choose, hf.choose_spec, hz.2.2 _ hf.choose_spec⟩, List.mem_cons_self, rfl, hz, hf⟩), (fun hn => HLv.xi _ (q.gd.hl hn)), (fun _ hn => hot_room (q.gd.room rfl) hn), (fun h => by cases h), fun _ => sx_suite q.ex q.gd.fx.free hz.zc hf⟩
  ⟨gd', PassesOwn.never, q.fn, q.stk, q.frm, q.kind, q.hu, ⟨q.tb.cl⟩, (fun Y h1 h2 h3 h4 h5 h6 c ns e => by
      have := q.ea Y h1 h2 h3 h4 h5 h6 c ns e
      match ns, this with
      | [], t => exact t
      | [f], t => exact t
      | _ :: _ :: _, t => exact t), ⟨q.ex.exc, q.ex.own, q.ex.kit, q.ex.ve, q.ex.exm, q.ex.fno⟩⟩
/-- try: .. except c as nm: .. -/
theorem sS_try {i : Nat} {b hb : Ss} {c nm : Str} {body su : List Stmt} {b0 : Stmt} {np pos pos' : Pos} (q : GdS X W g w n) (hi : X.N[i]? = some nm) (hln : X.env.kindOf nm = some .local) (hg : Gl X c) (hd : (c == ("__debug__" : Str)) = false) (hx : (g.exf c).isSome = true)
    (hb' : ∀ (W' : WX) (pn : List (Addr × Obj)) (xe : Value → Shared → Prop), L2N.Takes (X.tr pn xe) W' → PassesOwn (model X.prog X.w) X.A X.env xe → PSs (X.tr pn xe) body (tSs g (cal g n) w W' b))
    (hsu : ∀ (a : Addr) (oe : Obj) (cls : Value) (d : Option Addr) (pn : List (Addr × Obj)), L2N.Zn cls d oe → (∃ vs, oe.data = .fields vs) → PSs (X.suite a ((a, oe) :: pn)) (b0 :: su) (tSs g (cal g n) (w.at_ ⟨a, cls, d⟩) Wf hb)) :
    PS X (.Try body [.ExceptHandler (some (.Name c np)) (some nm) (b0 :: su) pos'] [] [] pos) (tS g (cal g n) w W (.try_ b (.cons c (some i) hb .nil))) := by
  refine PS.imp (L2N.ps_try_as (c := .ref (w.ca c)) (tb := fun W' => tSs g (cal g n) w W' b) (ts := fun a cls d => tSs g (cal g n) (w.at_ ⟨a, cls, d⟩) Wf hb) (Wout := W) q.stk q.frm q.gd.nd hi hln ⟨hg, hd, .inl (q.ex.own c hx)⟩ q.gd.takes hb' hsu) fun D σ H ⟨H0, P0, X0, env, own, E, f⟩ => ?_
  refine ⟨H0, P0, X0, env, own, E, ?_⟩
  have f : fO w W H0 P0 X0 D (match exs g (cal g n) b env with
    | .exc env' (.ob k ns vs) => if ((g.exf k).isSome && (g.exf c).isSome && noX env') = true then (if g.sub k c = true then unx i (exs g (cal g n) hb (env'.set i (some (.ex, .ob k ns vs)))) else .exc env' (.ob k ns vs)) else .no
    | .exc _ _ => .no
    | o => o) := f
  cases z : exs g (cal g n) b env with
  | nx env' => rw [z] at f; exact f
  | ret o d => rw [z] at f; exact f
  | brk env' => rw [z] at f; exact f
  | ct env' => rw [z] at f; exact f
  | no => rw [z] at f; exact f
  | exc env' e =>
    rw [z] at f
    cases e with
    | ob k ns vs =>
      have f : fO w W H0 P0 X0 D (if ((g.exf k).isSome && (g.exf c).isSome && noX env') = true then (if g.sub k c = true then unx i (exs g (cal g n) hb (env'.set i (some (.ex, .ob k ns vs)))) else .exc env' (.ob k ns vs)) else .no) := f
      split at f
      case isFalse => exact f.elim
      rename_i hk
      simp only [Bool.and_eq_true] at hk
      obtain ⟨⟨hk, _⟩, hn⟩ := hk
      intro σ' H' own' cls dd E' xr
      have ec : cls = .ref (w.ca k) := xr.1
      subst ec
      refine ⟨g.sub k c, q.ex.exm k c hk hx, fun ht a ha => ?_, fun hfl => ?_⟩
      · rw [if_pos ht] at f
        obtain ⟨own2, E2⟩ := (E'.xi ⟨a, .ref (w.ca k), dd⟩ (noX_ok hn)).setN i (some (.ex, .ob k ns vs)) (some (.ref a)) fun P' hp o d e => by
          cases e
          exact ⟨(fun z => by cases z), .ref a, rfl, rfl, rfl, (xr.xi ⟨a, .ref (w.ca k), dd⟩).mono hp⟩
        refine ⟨H0, P0, X0, _, own2, E2, ?_⟩
        have back : ∀ {σ3 : L2.St} {H3 : Hp} {own3 : Nat → List Addr} {env3 : Env}, noX (env3.set i none) = true → EnvS (w.at_ ⟨a, .ref (w.ca k), dd⟩) H0 P0 X0 H3 σ3 env3 own3 → ∃ own4, EnvS w H0 P0 X0 H3 (σ3.set i none) (env3.set i none) own4 := fun {σ3 H3 own3 env3} hx3 E3 => by
          obtain ⟨own4, E4⟩ := E3.drop i
          exact ⟨own4, E4.xi w.xi (noX_ok hx3)⟩
        cases z2 : exs g (cal g n) hb (env'.set i (some (.ex, .ob k ns vs))) with
        | nx env3 =>
          rw [z2] at f
          have f : fO w W H0 P0 X0 D (if noX (env3.set i none) = true then .nx (env3.set i none) else .no) := f
          split at f
          case isFalse => exact f.elim
          rename_i h3
          exact fun σ3 H3 own3 E3 => (back h3 E3).elim fun own4 E4 => f _ _ own4 E4
        | brk env3 =>
          rw [z2] at f
          have f : fO w W H0 P0 X0 D (if noX (env3.set i none) = true then .brk (env3.set i none) else .no) := f
          split at f
          case isFalse => exact f.elim
          rename_i h3
          exact fun σ3 H3 own3 E3 => (back h3 E3).elim fun own4 E4 => f _ _ own4 E4
        | ct env3 =>
          rw [z2] at f
          have f : fO w W H0 P0 X0 D (if noX (env3.set i none) = true then .ct (env3.set i none) else .no) := f
          split at f
          case isFalse => exact f.elim
          rename_i h3
          exact fun σ3 H3 own3 E3 => (back h3 E3).elim fun own4 E4 => f _ _ own4 E4
        | ret o d =>
          rw [z2] at f
          exact fun x H3 s3 r3 => f x H3 s3 (r3.xi w.xi)
        | exc env3 e => rw [z2] at f; exact f.elim
        | no => rw [z2] at f; exact f.elim
      · rw [if_neg (by rw [hfl]; exact Bool.false_ne_true)] at f
        exact f σ' H' own' _ dd E' xr
    | _ => exact f.elim
/-- try: .. except c: .. -/
theorem sS_tryN {b hb : Ss} {c : Str} {body su : List Stmt} {b0 : Stmt} {np pos pos' : Pos} (q : GdS X W g w n) (hg : Gl X c) (hd : (c == ("__debug__" : Str)) = false) (hx : (g.exf c).isSome = true)
    (hb' : ∀ (W' : WX) (pn : List (Addr × Obj)) (xe : Value → Shared → Prop), L2N.Takes (X.tr pn xe) W' → PassesOwn (model X.prog X.w) X.A X.env xe → PSs (X.tr pn xe) body (tSs g (cal g n) w W' b))
    (hsu : ∀ (a : Addr) (oe : Obj) (cls : Value) (d : Option Addr) (pn : List (Addr × Obj)), L2N.Zn cls d oe → (∃ vs, oe.data = .fields vs) → PSs (X.suite a ((a, oe) :: pn)) (b0 :: su) (tSs g (cal g n) (w.at_ ⟨a, cls, d⟩) Wf hb)) :
    PS X (.Try body [.ExceptHandler (some (.Name c np)) none (b0 :: su) pos'] [] [] pos) (tS g (cal g n) w W (.try_ b (.cons c none hb .nil))) := by
  refine PS.imp (L2N.ps_try_many (tb := fun W' => tSs g (cal g n) w W' b) (l := [(.ref (w.ca c), fun a cls d => tSs g (cal g n) (w.at_ ⟨a, cls, d⟩) Wf hb)]) (Wout := W) q.stk q.frm q.gd.takes hb' (.cons ⟨hg, hd, .inl (q.ex.own c hx)⟩ hsu .nil)) fun D σ H ⟨H0, P0, X0, env, own, E, f⟩ => ?_
  refine ⟨H0, P0, X0, env, own, E, ?_⟩
  have f : fO w W H0 P0 X0 D (match exs g (cal g n) b env with
    | .exc env' (.ob k ns vs) => if ((g.exf k).isSome && (g.exf c).isSome && noX env') = true then (if g.sub k c = true then und (exs g (cal g n) hb env') else .exc env' (.ob k ns vs)) else .no
    | .exc _ _ => .no
    | o => o) := f
  cases z : exs g (cal g n) b env with
  | nx env' => rw [z] at f; exact f
  | ret o d => rw [z] at f; exact f
  | brk env' => rw [z] at f; exact f
  | ct env' => rw [z] at f; exact f
  | no => rw [z] at f; exact f
  | exc env' e =>
    rw [z] at f
    cases e with
    | ob k ns vs =>
      have f : fO w W H0 P0 X0 D (if ((g.exf k).isSome && (g.exf c).isSome && noX env') = true then (if g.sub k c = true then und (exs g (cal g n) hb env') else .exc env' (.ob k ns vs)) else .no) := f
      split at f
      case isFalse => exact f.elim
      rename_i hk
      simp only [Bool.and_eq_true] at hk
      obtain ⟨⟨hk, _⟩, hn⟩ := hk
      intro σ' H' own' cls dd E' xr
      have ec : cls = .ref (w.ca k) := xr.1
      subst ec
      refine ⟨g.sub k c, q.ex.exm k c hk hx, fun ht a ha => ?_, fun hfl => ?_⟩
      · rw [if_pos ht] at f
        refine ⟨H0, P0, X0, _, own', E'.xi ⟨a, .ref (w.ca k), dd⟩ (noX_ok hn), ?_⟩
        have back : ∀ {σ3 : L2.St} {H3 : Hp} {own3 : Nat → List Addr} {env3 : Env}, noX env3 = true → EnvS (w.at_ ⟨a, .ref (w.ca k), dd⟩) H0 P0 X0 H3 σ3 env3 own3 → EnvS w H0 P0 X0 H3 σ3 env3 own3 := fun {σ3 H3 own3 env3} hx3 E3 => E3.xi w.xi (noX_ok hx3)
        cases z2 : exs g (cal g n) hb env' with
        | nx env3 =>
          rw [z2] at f
          have f : fO w W H0 P0 X0 D (if noX env3 = true then .nx env3 else .no) := f
          split at f
          case isFalse => exact f.elim
          rename_i h3
          exact fun σ3 H3 own3 E3 => f _ _ own3 (back h3 E3)
        | brk env3 =>
          rw [z2] at f
          have f : fO w W H0 P0 X0 D (if noX env3 = true then .brk env3 else .no) := f
          split at f
          case isFalse => exact f.elim
          rename_i h3
          exact fun σ3 H3 own3 E3 => f _ _ own3 (back h3 E3)
        | ct env3 =>
          rw [z2] at f
          have f : fO w W H0 P0 X0 D (if noX env3 = true then .ct env3 else .no) := f
          split at f
          case isFalse => exact f.elim
          rename_i h3
          exact fun σ3 H3 own3 E3 => f _ _ own3 (back h3 E3)
        | ret o d =>
          rw [z2] at f
          exact fun x H3 s3 r3 => f x H3 s3 (r3.xi w.xi)
        | exc env3 e => rw [z2] at f; exact f.elim
        | no => rw [z2] at f; exact f.elim
      · rw [if_neg (by rw [hfl]; exact Bool.false_ne_true)] at f
        exact f σ' H' own' _ dd E' xr
    | _ => exact f.elim
end
section
mutual
theorem sS : ∀ (s : S) {X : Cx} {W : WX} {g : G} {w : Wr} {n : Nat} {hot : Bool} (q : GdS X W g w n hot) {st : Stmt}, okS g X.N hot s X.env.scope st = true → PS X st (tS g (cal g n) w W s)
  | .pass, X, W, g, w, n, hot, q, st, h => by
    unfold okS at h; split at h
    · exact sS_pass
    · cases h
  | .doc, X, W, g, w, n, hot, q, st, h => by
    unfold okS at h; split at h
    · exact sS_doc
    · cases h
  | .asg i e, X, W, g, w, n, hot, q, st, h => by
    unfold okS at h; split at h
    · rename_i x px v pos
      simp only [Bool.and_eq_true, decide_eq_true_eq, Bool.or_eq_true, Bool.not_eq_true'] at h
      obtain ⟨⟨⟨h1, h2⟩, h3⟩, h4⟩ := h
      rcases h4 with h4 | h4
      · exact PS.imp (ps_set q.gd.nd h1 (locB_ok h2) (sE e q.gd q.tb q.hu h3) (sw_no h4 (okE_sh h3) _ _ _) (.inl (q.fn x))) fun D σ H h => asg_in h
      · exact sS_lc q h1 h3 h4
    · cases h
  | .tup is e, X, W, g, w, n, hot, q, st, h => by
    unfold okS at h; split at h
    · rename_i es k p v pos
      simp only [Bool.and_eq_true, Bool.not_eq_true'] at h
      obtain ⟨⟨⟨⟨h0, h1⟩, h2⟩, h3⟩, h4⟩ := h
      subst h0
      exact sS_tup q.gd.fx.hK (sE e q.gd q.tb q.hu h2) (sG q.gd.nd (q.gd.calm rfl) (fun x _ => .inl (q.fn x)) h1 h1) (show swapsWith v (some (.Tuple es k p)) pos.line X.env = pure false from sw_no h3 (okE_sh h2) _ _ _) (st_no h4 (okE_sh h2) _) (by rfl)
    · cases h
  | .par i j ia ib, X, W, g, w, n, hot, q, st, h => by
    unfold okS at h; split at h
    · rename_i x px y py kt pt u pu v pv k2 pt2 pos
      simp only [Bool.and_eq_true, Bool.not_eq_true', decide_eq_true_eq] at h
      obtain ⟨⟨⟨⟨⟨⟨⟨⟨⟨h0, h1⟩, h2⟩, h3⟩, h4⟩, h5⟩, h6⟩, h7⟩, hd⟩, h8⟩ := h
      subst h0
      exact sS_par (q.gd.calm rfl) q.gd.nd h1 h2 h3 h4 h5 (sEs (.cons ia (.cons ib .nil)) q.gd q.tb q.hu h8) (sw_par q.kind h4 h5 h6 h7 hd)
    · cases h
  | .asgix i a e, X, W, g, w, n, hot, q, st, h => by
    unfold okS at h; split at h
    · rename_i x p y p2 v pos
      simp only [Bool.and_eq_true, Bool.not_eq_true'] at h
      obtain ⟨⟨⟨h1, h2⟩, h3⟩, h4⟩ := h
      unfold vrB at h1
      simp only [Bool.and_eq_true, decide_eq_true_eq] at h1
      exact sS_asgix h1.1.1 (visB_ok h1.1.2) (nm2 h1.2).1 (nm2 h1.2).2 (sE a q.gd q.tb q.hu h2) (okE_sh h2) (sE e q.gd q.tb q.hu h3) (show swapsWith v (some (.Subscript (.Name x p) y p2)) pos.line X.env = pure false from sw_no h4 (okE_sh h3) _ _ _) (st_sub _)
    · cases h
  | .app i e, X, W, g, w, n, hot, q, st, h => by
    unfold okS at h; split at h
    · simp only [Bool.and_eq_true, decide_eq_true_eq] at h
      obtain ⟨⟨⟨h1, h2⟩, h3⟩, h4⟩ := h
      subst h1
      unfold vrB at h2
      simp only [Bool.and_eq_true, decide_eq_true_eq] at h2
      exact sS_app h2.1.1 (visB_ok h2.1.2) (nm2 h2.2).1 (nm2 h2.2).2 (sE e q.gd q.tb q.hu h3) ⟨sh_star (okE_sh h3) _ _, trivial⟩ h4
    · cases h
  | .appat i a e, X, W, g, w, n, hot, q, st, h => by
    unfold okS at h; split at h
    · simp only [Bool.and_eq_true, decide_eq_true_eq] at h
      obtain ⟨⟨⟨⟨h1, h2⟩, h3⟩, h4⟩, h5⟩ := h
      subst h1
      unfold vrB at h2
      simp only [Bool.and_eq_true, decide_eq_true_eq] at h2
      exact sS_appat h2.1.1 (visB_ok h2.1.2) (nm2 h2.2).1 (nm2 h2.2).2 (sE a q.gd q.tb q.hu h3) (sh_ix (okE_sh h3)) (sE e q.gd q.tb q.hu h4) ⟨sh_star (okE_sh h4) _ _, trivial⟩ h5
    · cases h
  | .appop _ _ .none, X, W, g, w, n, hot, q, st, h => by unfold okS at h; cases h
  | .appop i j (.some e), X, W, g, w, n, hot, q, st, h => by
    unfold okS at h; split at h
    · simp only [Bool.and_eq_true, decide_eq_true_eq] at h
      obtain ⟨⟨⟨⟨⟨⟨h1, h2⟩, h3⟩, h4⟩, h5⟩, h6⟩, h7⟩ := h
      subst h1 h2
      unfold vrB at h3 h4
      simp only [Bool.and_eq_true, decide_eq_true_eq] at h3 h4
      exact sS_appop h3.1.1 (visB_ok h3.1.2) (nm2 h3.2).1 (nm2 h3.2).2 h4.1.1 (visB_ok h4.1.2) (nm2 h4.2).1 (nm2 h4.2).2 (sE e q.gd q.tb q.hu h5) ⟨sh_star (okE_sh h5) _ _, trivial⟩ h6 h7
    · cases h
  | .popto _ _ _, X, W, g, w, n, hot, q, st, h => by unfold okS at h; cases h
  | .poptup _ _ _, X, W, g, w, n, hot, q, st, h => by unfold okS at h; cases h
  | .retpop _ _, X, W, g, w, n, hot, q, st, h => by unfold okS at h; cases h
  | .popd _ (.some _), X, W, g, w, n, hot, q, st, h => by unfold okS at h; cases h
  | .popd i .none, X, W, g, w, n, hot, q, st, h => by
    unfold okS at h; split at h
    · simp only [Bool.and_eq_true, decide_eq_true_eq] at h
      obtain ⟨⟨h1, h2⟩, h3⟩ := h
      subst h1
      unfold vrB at h2
      simp only [Bool.and_eq_true, decide_eq_true_eq] at h2
      exact sS_popd h2.1.1 (visB_ok h2.1.2) (nm2 h2.2).1 (nm2 h2.2).2 h3
    · cases h
  | .rev i, X, W, g, w, n, hot, q, st, h => by
    unfold okS at h; split at h
    · simp only [Bool.and_eq_true, decide_eq_true_eq] at h
      obtain ⟨⟨h1, h2⟩, h3⟩ := h
      subst h1
      unfold vrB at h2
      simp only [Bool.and_eq_true, decide_eq_true_eq] at h2
      exact sS_rev h2.1.1 (visB_ok h2.1.2) (nm2 h2.2).1 (nm2 h2.2).2 h3
    · cases h
  | .ext _ _, X, W, g, w, n, hot, q, st, h => by unfold okS at h; cases h
  | .ins _ _ _, X, W, g, w, n, hot, q, st, h => by unfold okS at h; cases h
  | .dput i a e, X, W, g, w, n, hot, q, st, h => by
    unfold okS at h; split at h
    · rename_i x p y p2 v pos
      simp only [Bool.and_eq_true, Bool.not_eq_true'] at h
      obtain ⟨⟨⟨h1, h2⟩, h3⟩, h4⟩ := h
      unfold vrB at h1
      simp only [Bool.and_eq_true, decide_eq_true_eq] at h1
      exact sS_dput q.hu h1.1.1 (visB_ok h1.1.2) (nm2 h1.2).1 (nm2 h1.2).2 (sE a q.gd q.tb q.hu h2) (sE e q.gd q.tb q.hu h3) (show swapsWith v (some (.Subscript (.Name x p) y p2)) pos.line X.env = pure false from sw_no h4 (okE_sh h3) _ _ _)
    · cases h
  | .fld i f e, X, W, g, w, n, hot, q, st, h => by
    unfold okS at h; split at h
    · simp only [Bool.and_eq_true, decide_eq_true_eq, Bool.not_eq_true'] at h
      obtain ⟨⟨⟨⟨h1, h2⟩, h3⟩, h4⟩, h5⟩ := h
      subst h1
      unfold vrB at h3
      simp only [Bool.and_eq_true, decide_eq_true_eq] at h3
      exact sS_fld q.gd.fx h2 h3.1.1 (visB_ok h3.1.2) (nm2 h3.2).1 (nm2 h3.2).2 (sE e q.gd q.tb q.hu h4) (sw_no h5 (okE_sh h4) _ _ _)
    · cases h
  | .ex e, X, W, g, w, n, hot, q, st, h => by
    unfold okS at h; split at h
    · simp only [Bool.and_eq_true, Bool.not_eq_true'] at h
      exact sS_ex (sE e q.gd q.tb q.hu h.1) (sw_no h.2 (okE_sh h.1) _ _ _)
    · cases h
  | .ife c a b, X, W, g, w, n, hot, q, st, h => by
    unfold okS at h; split at h
    · simp only [Bool.and_eq_true] at h
      exact sS_if (sT c q.gd q.tb q.hu h.1.1).1 (sSs a q h.1.2) (sSs b q h.2)
    · cases h
  | .for_ tg it b, X, W, g, w, n, hot, q, st, h => by
    unfold okS at h; split at h
    · simp only [Bool.and_eq_true, Bool.not_eq_true'] at h
      have h0 := h.1.1.1
      subst h0
      have h : (okTg X.N X.env.scope tg _ = true ∧ okI g X.N false it X.env.scope _ = true) ∧ okSs g X.N false b X.env.scope _ = true := ⟨⟨h.1.1.2, h.1.2⟩, h.2⟩
      have hi := fun t => sI it q.gd q.tb q.hu (tg := t) h.1.2
      have hg := sG q.gd.nd (q.gd.calm rfl) (fun x _ => .inl (q.fn x)) h.1.1 h.1.1
      have hb := sSs b q h.2
      exact sS_for q.gd.fx.hK q.hp (q.gd.calm rfl) (hi _) hg hb (ps_for q.hp (q.gd.calm rfl) (hi _) hg hb (sh_fold (okI_sh h.1.2) _))
    · cases h
  | .while_ c b, X, W, g, w, n, hot, q, st, h => by
    unfold okS at h; split at h
    · simp only [Bool.and_eq_true] at h
      exact sS_while q.hp (sT c q.gd q.tb q.hu h.1).1 (sSs b q h.2)
    · cases h
  | .ret e, X, W, g, w, n, hot, q, st, h => by
    unfold okS at h; split at h
    · rcases isVar_of (e := e) with ⟨i, rfl⟩ | hv
      · unfold okE at h; split at h
        · unfold vrB at h
          simp only [Bool.and_eq_true, decide_eq_true_eq] at h
          exact sS_retv h.1.1 (visB_ok h.1.2) (nm2 h.2).1 (nm2 h.2).2
        · cases h
      · exact sS_ret (sE e q.gd q.tb q.hu h) hv
    · cases h
  | .retn, X, W, g, w, n, hot, q, st, h => by
    unfold okS at h; split at h
    · exact sS_retn
    · cases h
  | .brk, X, W, g, w, n, hot, q, st, h => by
    unfold okS at h; split at h
    · exact sS_brk
    · cases h
  | .cont, X, W, g, w, n, hot, q, st, h => by
    unfold okS at h; split at h
    · exact sS_cont
    · cases h
  | .raise_ c es, X, W, g, w, n, hot, q, st, h => by
    unfold okS at h; split at h
    · simp only [Bool.and_eq_true, decide_eq_true_eq, Bool.not_eq_true'] at h
      obtain ⟨⟨⟨hh, h1⟩, h0⟩, h2⟩ := h
      subst hh
      subst h1
      split at h2
      · rename_i hx
        exact sS_raise0 q hx (glB_ok h0)
      · rename_i hx
        exact sS_raise1 q hx (glB_ok h0) (sE _ q.gd q.tb q.hu h2) ⟨sh_star (okE_sh h2) _ _, trivial⟩
      · cases h2
    · cases h
  | .try_ b (.cons c (some i) hb .nil), X, W, g, w, n, hot, q, st, h => by
    unfold okS at h; split at h
    · simp only [Bool.and_eq_true, decide_eq_true_eq, Bool.not_eq_true'] at h
      obtain ⟨⟨⟨⟨⟨⟨⟨⟨h0, h1⟩, h2⟩, h3⟩, h4⟩, h5⟩, h6⟩, h7⟩, h8⟩ := h
      subst h0; subst h1
      exact sS_try q h5 h6 (glB_ok h2) (nm1 h3) h4 (fun W' pn xe tk hp => sSs b (q.tr tk hp) h7) (fun a oe cls d pn hz hf => sSs hb (q.suite pn hz hf) h8)
    · cases h
  | .try_ _ .nil, X, W, g, w, n, hot, q, st, h => by unfold okS at h; cases h
  | .try_ b (.cons c none hb .nil), X, W, g, w, n, hot, q, st, h => by
    unfold okS at h; split at h
    · simp only [Bool.and_eq_true, decide_eq_true_eq, Bool.not_eq_true'] at h
      obtain ⟨⟨⟨⟨⟨⟨h0, h1⟩, h2⟩, h3⟩, h4⟩, h7⟩, h8⟩ := h
      subst h0; subst h1
      exact sS_tryN q (glB_ok h2) (nm1 h3) h4 (fun W' pn xe tk hp => sSs b (q.tr tk hp) h7) (fun a oe cls d pn hz hf => sSs hb (q.suite pn hz hf) h8)
    · cases h
  | .try_ _ (.cons _ none _ (.cons _ _ _ _)), X, W, g, w, n, hot, q, st, h => by unfold okS at h; cases h
  | .try_ _ (.cons _ (some _) _ (.cons _ _ _ _)), X, W, g, w, n, hot, q, st, h => by unfold okS at h; cases h
theorem sSs : ∀ (s : Ss) {X : Cx} {W : WX} {g : G} {w : Wr} {n : Nat} {hot : Bool} (q : GdS X W g w n hot) {st : List Stmt}, okSs g X.N hot s X.env.scope st = true → PSs X st (tSs g (cal g n) w W s)
  | .nil, X, W, g, w, n, hot, q, st, h => by
    unfold okSs at h; split at h
    · exact sS_nil
    · cases h
  | .cons s ss, X, W, g, w, n, hot, q, st, h => by
    unfold okSs at h; split at h
    · rw [Bool.and_eq_true] at h
      exact sS_cons (sS s q h.1) (sSs ss q h.2)
    · cases h
end
end
end S2

set_option maxHeartbeats 4000000
/-! S2t: defs and makers keep their promise. -/
namespace S2
open PySem PySem.Spec PyProof.Rows L2

section
variable {P : Program} {wd : World} {K : PySem.W.Frag} {mg : Str → Option Value} {base : Heap} {g : G} {w : Wr}
theorem room_hu {k : Nat} {A : Around} (r : Room k A) : A.units + 66 < cLine := by have := r.un; omega
/-- the body's bundle -/
theorem gdS_of {k : Nat} {N ps : List Str} {qual : Str} {scope : Scope} {f : Addr} {cd : Value} {A : Around} {outer : List PySem.Env} {s : Shared} {H : Hp} {E : XK} (S : FnScope N ps scope) (hr : Room2 k (A.deeper (envOfC qual scope s.heap.objs.size f cd))) (ng : NoG A)
    (fx : Fx K mg g w) (tb : Tab g w) (ea : ExA P wd K mg g w) (ex : Ex K mg g w) (hlv : HLv P wd K mg base g w) (lv : Lv P wd K mg base g w k) : GdS (cxOf (L2N.CX P wd) P wd K mg base N qual scope f cd A outer s H E) (fun cls d _ H => E cls d H) g w k where
  gd := ⟨fx, S.nd, fun _ => rfl, fun _ => hr, L2N.takes_of rfl rfl rfl rfl, ng, (fun z => by cases z), fun _ => hlv, (fun z => by cases z), fun _ => lv, fun z => (by cases z)⟩
  hp := passes_of rfl
  fn := fun _ => rfl
  stk := rfl
  frm := rfl
  kind := S.kind
  hu := room_hu hr.out
  tb := tb
  ea := ea
  ex := ex
theorem pof_nil {P0 : Addr → Prop} : ∀ a, Pof P0 (fun _ => []) a → P0 a := fun a z => z.elim id fun ⟨_, m⟩ => by cases m
theorem start_get {N : List Str} {vs : List V} {i : Nat} {v : V} (h : vs[i]? = some v) : (L2.start N vs)[i]? = some (some v) := by
  unfold L2.start
  have hi := (List.getElem?_eq_some_iff.mp h).1
  rw [List.getElem?_append_left (by simpa using hi), List.getElem?_map, h]
  rfl
theorem env0_get {fd : FD} {ds : List D} {i : Nat} {s : OD} (h : (env0 fd ds)[i]? = some (some s)) : ∃ d, ds[i]? = some d ∧ s = (.sh, d) := by
  unfold env0 at h
  by_cases hi : i < ds.length
  · rw [List.getElem?_append_left (by simpa using hi), List.getElem?_map] at h
    cases e : ds[i]? with
    | none => rw [e] at h; cases h
    | some d => rw [e] at h; cases h; exact ⟨d, rfl, rfl⟩
  · rw [List.getElem?_append_right (by simpa using hi), List.getElem?_replicate] at h
    split at h <;> cases h
theorem envS_start {H : Hp} {O : Addr → Prop} {N : List Str} {fd : FD} {ds : List D} {vs : List V} (dom : Dom O H) (r : Reps w H O ds vs) (hn : fd.ns = N.length) (hp : ds.length = fd.np) : EnvS w H O 0 H (L2.start N vs) (env0 fd ds) (fun _ => []) where
  len := by
    unfold env0 L2.start
    rw [List.length_append, List.length_append, List.length_map, List.length_map, List.length_replicate, List.length_replicate, r.length, hn, ← hp, r.length]
  same := Same.refl H
  dom0 := dom
  dis := fun i j a h => by cases h
  new := fun i a h => by cases h
  slot := fun i o d e => by
    obtain ⟨d', e1, e2⟩ := env0_get e
    cases e2
    obtain ⟨v, hv, rv⟩ := r.get e1
    exact ⟨v, start_get hv, rfl, Rep.mono (fun a z => pof_nil a z) _ _ rv⟩
  emp := fun _ _ => rfl
  one := fun i d v e _ => by
    obtain ⟨d', e1, e2⟩ := env0_get e
    cases e2
/-- THE RULE: a def, by the check of its body -/
theorem fn_ok {k : Nat} {f : Addr} {fn name qual : Str} {params : Arguments} {body : List Stmt} {scope : Scope} {dV kV doc pm cdv ct oc : Value} {an od : Option Addr} {osl : Array (Option Value)} {N ps : List Str} {fd : FD}
    (lk : K.lookup f = some ⟨oc, od, .func (PySem.W.fnOf name qual params body scope dV kV doc pm an cdv ct), osl⟩) (hcd : PySem.W.codeIn K cdv qual = true) (S : FnScope N ps scope)
    (fx : Fx K mg g w) (tb : Tab g w) (ea : ExA P wd K mg g w) (ex : Ex K mg g w) (hlv : HLv P wd K mg base g w) (lv : Lv P wd K mg base g w k) (hf : g.fn fn = some fd) (hn : fd.ns = N.length) (hp : fd.np = ps.length) (hc : okSs g N false fd.body scope body = true) :
    FnG P wd K mg base (L2N.CX P wd) (k + 1) f (PySem.W.fnOf name qual params body scope dV kV doc pm an cdv ct) ps (spF g w (k + 1) fn) := by
  have un : ∀ ds, callD g (k + 1) fn ds = if ds.length = fd.np then endR (exs g (cal g k) fd.body (env0 fd ds)) else .no := fun ds => by
    show (match g.fn fn with | some fd => if ds.length = fd.np then endR (exs g (cal g k) fd.body (env0 fd ds)) else .no | none => .no) = _
    rw [hf]
  refine fnG_of lk hcd S (fun vs H Q E ⟨ds, O, dom, r, m⟩ => ?_) fun A outer s H vs Q E hr ng ⟨ds, O, dom, r, m⟩ => ?_
  · rw [un] at m
    split at m
    · rename_i v e; split at e
      · rename_i hl; rw [← r.length, hl, hp]
      · cases e
    · rename_i v e; split at e
      · rename_i hl; rw [← r.length, hl, hp]
      · cases e
    · exact m.elim
  · rw [un] at m
    by_cases hl : ds.length = fd.np
    · rw [if_pos hl] at m
      have q := gdS_of (P := P) (wd := wd) (base := base) (outer := outer) (H := H) (E := E) S hr ng fx tb ea ex hlv lv
      refine ⟨_, sSs fd.body q hc, H, O, 0, env0 fd ds, _, envS_start dom r hn hl, ?_⟩
      cases z : exs g (cal g k) fd.body (env0 fd ds) with
      | nx env => rw [z] at m; exact fun σ H' own E' => m .non H' E'.same (VR.sh rfl)
      | ret o d => rw [z] at m; exact fun x H' s' r' => m x H' s' r'
      | brk env => rw [z] at m; exact m.elim
      | ct env => rw [z] at m; exact m.elim
      | exc env e => rw [z] at m; exact fun σ H' own cls dd E' x => m cls dd H' E'.same (x.mono fun a z => .inl z)
      | no => rw [z] at m; exact m.elim
    · rw [if_neg hl] at m; exact m.elim
/-- an __init__ -/
theorem init_ok {k : Nat} {f : Addr} {c name qual : Str} {params : Arguments} {body : List Stmt} {scope : Scope} {dV kV doc pm cdv ct oc : Value} {an od : Option Addr} {osl : Array (Option Value)} {N ps : List Str} {fd : FD}
    (lk : K.lookup f = some ⟨oc, od, .func (PySem.W.fnOf name qual params body scope dV kV doc pm an cdv ct), osl⟩) (hcd : PySem.W.codeIn K cdv qual = true) (S : FnScope N ps scope)
    (fx : Fx K mg g w) (tb : Tab g w) (ea : ExA P wd K mg g w) (ex : Ex K mg g w) (hlv : HLv P wd K mg base g w) (lv : Lv P wd K mg base g w k) (hf : g.fn (initName c) = some fd) (hw : w.cl c = true) (hn : fd.ns = N.length) (hp : fd.np = ps.length) (hc : okSs g N false fd.body scope body = true) :
    FnG P wd K mg base (L2N.CX P wd) (k + 1) f (PySem.W.fnOf name qual params body scope dV kV doc pm an cdv ct) ps (spI g w (k + 1) c) := by
  have un : ∀ ds, makeD g (k + 1 + 1) c ds = if ds.length + 1 = fd.np then endI (exs g (cal g k) fd.body (some (.oi, .ob c [] []) :: (env0 fd (.non :: ds)).tail)) else .no := fun ds => by
    show (match g.fn (initName c) with | some fd => if ds.length + 1 = fd.np then endI (exs g (cal g k) fd.body (some (.oi, .ob c [] []) :: (env0 fd (.non :: ds)).tail)) else .no | none => .no) = _
    rw [hf]
  refine fnG_of lk hcd S (fun vs H Q E ⟨x, dx, us, ds, O, ev, hx, nx, dom, r, m⟩ => ?_) fun A outer s H vs Q E hr ng ⟨x, dx, us, ds, O, ev, hx, nx, dom, r, m⟩ => ?_
  · rw [un] at m
    subst ev
    split at m
    · rename_i v e; split at e
      · rename_i hl; rw [List.length_cons, ← r.length, hl, hp]
      · cases e
    · rename_i v e; split at e
      · rename_i hl; rw [List.length_cons, ← r.length, hl, hp]
      · cases e
    · exact m.elim
  · rw [un] at m
    by_cases hl : ds.length + 1 = fd.np
    · rw [if_pos hl] at m
      subst ev
      have q := gdS_of (P := P) (wd := wd) (base := base) (outer := outer) (H := H) (E := E) S hr ng fx tb ea ex hlv lv
      have st : EnvS w (fun a => if a = x then none else H a) O x H (L2.start N (.ref x :: us)) (some (.oi, .ob c [] []) :: (env0 fd (.non :: ds)).tail) (fun i => if i = 0 then [x] else []) := by
        have tl : (env0 fd (.non :: ds)).tail = ds.map (fun d => some (.sh, d)) ++ List.replicate (fd.ns - fd.np) none := rfl
        refine ⟨?_, fun a o h => ?_, fun a z h => ?_, fun i j a h1 h2 => ?_, fun i a h => ?_, fun i o d e => ?_, fun i h => ?_, fun i d v e hv => ?_⟩
        · rw [tl]
          unfold L2.start
          rw [List.length_cons, List.length_append, List.length_append, List.length_map, List.length_map, List.length_replicate, List.length_replicate, List.length_cons, r.length, hn, ← hl, r.length]
          omega
        · split at h
          · cases h
          · exact h
        · split at h
          · rename_i e; subst e; exact nx z
          · exact dom a z h
        · by_cases e1 : i = 0
          · by_cases e2 : j = 0
            · rw [e1, e2]
            · simp only [e2, if_false] at h2; cases h2
          · simp only [e1, if_false] at h1; cases h1
        · by_cases e1 : i = 0
          · simp only [e1, if_true] at h
            cases List.mem_singleton.mp h
            simp
          · simp only [e1, if_false] at h; cases h
        · cases i with
          | zero =>
            cases e
            exact ⟨.ref x, start_get rfl, x, c, [], [], rfl, rfl, rfl, x, dx, [], rfl, hx, ⟨hw, rfl⟩, rfl⟩
          | succ i =>
            rw [tl] at e
            have e : (ds.map (fun d => some (Own.sh, d)) ++ List.replicate (fd.ns - fd.np) none)[i]? = some (some (o, d)) := e
            by_cases hi : i < ds.length
            · rw [List.getElem?_append_left (by simpa using hi), List.getElem?_map] at e
              cases q : ds[i]? with
              | none => rw [q] at e; cases e
              | some d' =>
                rw [q] at e; cases e
                obtain ⟨v, hv, rv⟩ := r.get q
                refine ⟨v, start_get (by rw [List.getElem?_cons_succ]; exact hv), rfl, Rep.mono (fun a z => ?_) _ _ rv⟩
                rcases z with z | ⟨j, z⟩
                · exact .inl z
                · by_cases e1 : j = 0
                  · simp only [e1, if_true] at z
                    exact .inr (List.mem_singleton.mp z)
                  · simp only [e1, if_false] at z; cases z
            · rw [List.getElem?_append_right (by simpa using hi), List.getElem?_replicate] at e
              split at e <;> cases e
        · cases i with
          | zero => exact absurd rfl (h .oi (.ob c [] []))
          | succ i => rfl
        · cases i with
          | zero =>
            cases e
            rw [start_get (i := 0) (vs := .ref x :: us) rfl] at hv
            cases hv; rfl
          | succ i =>
            rw [tl] at e
            have e : (ds.map (fun d => some (Own.sh, d)) ++ List.replicate (fd.ns - fd.np) none)[i]? = some (some (.oi, d)) := e
            by_cases hi : i < ds.length
            · rw [List.getElem?_append_left (by simpa using hi), List.getElem?_map] at e
              cases q : ds[i]? with
              | none => rw [q] at e; cases e
              | some d' => rw [q] at e; cases e
            · rw [List.getElem?_append_right (by simpa using hi), List.getElem?_replicate] at e
              split at e <;> cases e
      refine ⟨_, sSs fd.body q hc, _, O, x, _, _, st, ?_⟩
      have keep : ∀ {H' : Hp}, Same (fun a => if a = x then none else H a) H' → ∀ b o, H b = some o → b ≠ x → H' b = some o := fun {H'} s b o h n => s b o (by show (if b = x then none else H b) = some o; rw [if_neg n]; exact h)
      cases z : exs g (cal g k) fd.body (some (.oi, .ob c [] []) :: (env0 fd (.non :: ds)).tail) with
      | nx env =>
        rw [z] at m
        intro σ H' own E'
        cases env with
        | nil => exact m.elim
        | cons s0 rest =>
          cases s0 with
          | none => exact m.elim
          | some od =>
            obtain ⟨o, d⟩ := od
            cases o with
            | oi =>
              obtain ⟨v, hv, p, c', ns, vs', e1, e2, e3, rk⟩ := E'.slot 0 .oi d rfl
              have e4 := E'.one 0 d v rfl hv
              subst e4; subst e2
              obtain ⟨a, dx', fs, e5, hp', hk, rr⟩ := rk
              cases e5
              exact m H' (keep E'.same) ⟨x, dx', fs, rfl, hp', nx, hk, Reps.mono (fun a z => .inl z) _ _ rr⟩
            | _ => exact m.elim
      | ret o d => rw [z] at m; exact m.elim
      | brk env => rw [z] at m; exact m.elim
      | ct env => rw [z] at m; exact m.elim
      | exc env e => rw [z] at m; exact fun σ H' own cls dd E' x' => m cls dd H' (keep E'.same) (x'.mono fun a z => .inl z)
      | no => rw [z] at m; exact m.elim
    · rw [if_neg hl] at m; exact m.elim
/-- a def that is called with the caught exception -/
theorem hot_ok {f : Addr} {fn name qual : Str} {params : Arguments} {body : List Stmt} {scope : Scope} {dV kV doc pm cdv ct oc : Value} {an od : Option Addr} {osl : Array (Option Value)} {N ps : List Str} {fd : FD}
    (lk : K.lookup f = some ⟨oc, od, .func (PySem.W.fnOf name qual params body scope dV kV doc pm an cdv ct), osl⟩) (hcd : PySem.W.codeIn K cdv qual = true) (S : FnScope N ps scope)
    (fx : Fx K mg g w) (tb : Tab g w) (ea : ExA P wd K mg g w) (ex : Ex K mg g w) (hf : g.fn fn = some fd) (hn : fd.ns = N.length) (hp : fd.np = ps.length) (hc : okSs g N true fd.body scope body = true) :
    FnHG P wd K mg base 1 f (PySem.W.fnOf name qual params body scope dV kV doc pm an cdv ct) ps (spH g w fn) := by
  have un : ∀ d, hotR g fn d = if fd.np = 1 then endR (exs g cal0 fd.body (some (.ex, d) :: List.replicate (fd.ns - 1) none)) else .no := fun d => by
    show (match g.fn fn with | some fd => if fd.np = 1 then endR (exs g cal0 fd.body (some (.ex, d) :: List.replicate (fd.ns - 1) none)) else .no | none => .no) = _
    rw [hf]
  have c0 : cal g 0 = cal0 := rfl
  refine fnHG_of lk hcd S (fun p vs H Q ⟨d, O, cls, dd, e1, _, _, _, _, m⟩ => ?_) fun A outer s H vs Q p hr ng hot ⟨d, O, cls, dd, e1, hz, hfd, dom, xr, m⟩ => ?_
  · rw [un] at m
    by_cases h1 : fd.np = 1
    · rw [e1, ← hp, h1]; rfl
    · rw [if_neg h1] at m; exact m.elim
  · rw [un] at m
    by_cases h1 : fd.np = 1
    · rw [if_pos h1] at m
      subst e1
      have fx' : Fx K mg g (w.at_ ⟨p.1, cls, dd⟩) := ⟨fx.hK, fx.free, (fun x d e => by
        obtain ⟨v, u, h1, h2, h3⟩ := fx.con x d e
        exact ⟨v, u, h1, h2, fun H O => Rep.xi _ _ _ (h3 H O)⟩), fx.cls, fx.nf⟩
      have hu : A.units + 3 + 66 < cLine := by have := hr.un; change A.units + 3 + 16 * 0 + 200 < cLine at this; omega
      have q : GdS ((L2H.cxH (L2N.CX P wd) P wd K mg base N qual scope f cdv A outer s H (fun _ _ _ => False) p).suite p.1 [p]) Wf g (w.at_ ⟨p.1, cls, dd⟩) 0 true :=
        ⟨⟨fx', S.nd, (fun h => by cases h), (fun h => by cases h), (fun _ _ ⟨_, _, _, _, _, _, _, _, _, _, _, _, _, _, _, _, f⟩ => f.elim), ng, (fun _ => ⟨p, ⟨rfl, hot.2⟩, List.mem_cons_self, rfl, hz, hfd⟩), (fun h => absurd rfl h), (fun _ h => absurd rfl h), (fun h => by cases h),
          fun _ => sx_suite (X := L2H.cxH (L2N.CX P wd) P wd K mg base N qual scope f cdv A outer s H (fun _ _ _ => False) p) (pn := []) ex fx.free hz.zc hfd⟩, PassesOwn.never, fun _ => rfl, rfl, rfl, S.kind, hu, ⟨tb.cl⟩, (fun Y h1 h2 h3 h4 h5 h6 c ns e => by
          have := ea Y h1 h2 h3 h4 h5 h6 c ns e
          match ns, this with
          | [], t => exact t
          | [f], t => exact t
          | _ :: _ :: _, t => exact t), ⟨ex.exc, ex.own, ex.kit, ex.ve, ex.exm, ex.fno⟩⟩
      have st : EnvS (w.at_ ⟨p.1, cls, dd⟩) H O 0 H (L2.start N [V.ref p.1]) (some (.ex, d) :: List.replicate (fd.ns - 1) none) (fun _ => []) := by
        refine ⟨?_, Same.refl H, dom, (fun i j a h => by cases h), (fun i a h => by cases h), fun i o d' e => ?_, fun _ _ => rfl, fun i d' v e _ => ?_⟩
        · unfold L2.start
          rw [List.length_cons, List.length_replicate, List.length_append, List.length_map, List.length_replicate, hn, List.length_singleton]
          omega
        · cases i with
          | zero =>
            cases e
            exact ⟨.ref p.1, start_get rfl, rfl, rfl, xr.mono (fun a z => pof_nil a z) |>.xi _⟩
          | succ i =>
            rw [List.getElem?_cons_succ, List.getElem?_replicate] at e
            split at e <;> cases e
        · cases i with
          | zero => cases e
          | succ i =>
            rw [List.getElem?_cons_succ, List.getElem?_replicate] at e
            split at e <;> cases e
      refine ⟨_, sSs fd.body q hc, H, O, 0, _, _, st, ?_⟩
      rw [c0]
      cases z : exs g cal0 fd.body (some (.ex, d) :: List.replicate (fd.ns - 1) none) with
      | nx env => rw [z] at m; exact fun σ H' own E' => m .non H' E'.same (VR.sh rfl)
      | ret o d => rw [z] at m; exact fun x H' s' r' => m x H' s' (r'.xi w.xi)
      | brk env => rw [z] at m; exact m.elim
      | ct env => rw [z] at m; exact m.elim
      | exc env e => rw [z] at m; exact m.elim
      | no => rw [z] at m; exact m.elim
    · rw [if_neg h1] at m; exact m.elim
end
end S2

set_option maxHeartbeats 4000000
/-! S2u: all defs, at every level. -/
namespace S2
open PySem PySem.Spec PyProof.Rows L2

/-- the function object at a is the def fn of the table -/
def DefAt (K : PySem.W.Frag) (g : G) (fn : Str) (a : Addr) (fdat : FuncData) (ps : List Str) (hot : Bool := false) : Prop :=
  ∃ (name qual : Str) (params : Arguments) (body : List Stmt) (scope : Scope) (dV kV doc pm cdv ct oc : Value) (an od : Option Addr) (osl : Array (Option Value)) (N : List Str) (fd : FD),
    fdat = PySem.W.fnOf name qual params body scope dV kV doc pm an cdv ct ∧ K.lookup a = some ⟨oc, od, .func (PySem.W.fnOf name qual params body scope dV kV doc pm an cdv ct), osl⟩ ∧ PySem.W.codeIn K cdv qual = true ∧ FnScope N ps scope ∧
    g.fn fn = some fd ∧ fd.ns = N.length ∧ fd.np = ps.length ∧ okSs g N hot fd.body scope body = true
structure Defs (K : PySem.W.Frag) (mg : Str → Option Value) (g : G) (w : Wr) : Prop where
  fn : ∀ f, g.top f = true → ∃ a fd ps, mg f = some (.ref a) ∧ PySem.W.keepIn K (.ref a) = true ∧ Binds K fd ps [] ∧ DefAt K g f a fd ps
  mt : ∀ c m f, g.mth c m = some f → ∃ a fd ps, Cls K (w.ca c) ∧ Meth K (w.ca c) m a ∧ Binds K fd ps [] ∧ DefAt K g f a fd ps
  mkr : ∀ c, g.cl c = true → ∃ a fd ps, mg c = some (.ref (w.ca c)) ∧ Mk K (w.ca c) a ∧ Binds K fd ps [] ∧ DefAt K g (initName c) a fd ps
  ht : ∀ f, g.hf f = true → ∃ a fd ps, mg f = some (.ref a) ∧ PySem.W.keepIn K (.ref a) = true ∧ Binds K fd ps [] ∧ DefAt K g f a fd ps true
section
variable {P : Program} {wd : World} {K : PySem.W.Frag} {mg : Str → Option Value} {base : Heap} {g : G} {w : Wr}
theorem fn_at {k : Nat} {fn : Str} {a : Addr} {fdat : FuncData} {ps : List Str} (fx : Fx K mg g w) (tb : Tab g w) (ea : ExA P wd K mg g w) (ex : Ex K mg g w) (hlv : HLv P wd K mg base g w) (lv : Lv P wd K mg base g w k) (h : DefAt K g fn a fdat ps) : FnG P wd K mg base (L2N.CX P wd) (k + 1) a fdat ps (spF g w (k + 1) fn) := by
  obtain ⟨name, qual, params, body, scope, dV, kV, doc, pm, cdv, ct, oc, an, od, osl, N, fd, e, lk, hcd, S, hf, hn, hp, hc⟩ := h
  subst e
  exact fn_ok lk hcd S fx tb ea ex hlv lv hf hn hp hc
theorem init_at {k : Nat} {c : Str} {a : Addr} {fdat : FuncData} {ps : List Str} (fx : Fx K mg g w) (tb : Tab g w) (ea : ExA P wd K mg g w) (ex : Ex K mg g w) (hlv : HLv P wd K mg base g w) (lv : Lv P wd K mg base g w k) (hc' : g.cl c = true) (h : DefAt K g (initName c) a fdat ps) : FnG P wd K mg base (L2N.CX P wd) (k + 1) a fdat ps (spI g w (k + 1) c) := by
  obtain ⟨name, qual, params, body, scope, dV, kV, doc, pm, cdv, ct, oc, an, od, osl, N, fd, e, lk, hcd, S, hf, hn, hp, hc⟩ := h
  subst e
  exact init_ok lk hcd S fx tb ea ex hlv lv hf (tb.cl c hc') hn hp hc
theorem fn_zero {fn : Str} {a : Addr} {fdat : FuncData} {ps : List Str} : FnG P wd K mg base (L2N.CX P wd) 0 a fdat ps (spF g w 0 fn) :=
  ⟨fun vs H Q E ⟨ds, O, _, _, m⟩ => m.elim, fun A outer s H args us vs Q E _ _ _ _ _ ⟨ds, O, _, _, m⟩ => m.elim⟩
theorem init_zero {c : Str} {a : Addr} {fdat : FuncData} {ps : List Str} : FnG P wd K mg base (L2N.CX P wd) 0 a fdat ps (spI g w 0 c) :=
  ⟨fun vs H Q E ⟨x, dx, us, ds, O, _, _, _, _, _, m⟩ => m.elim, fun A outer s H args us vs Q E _ _ _ _ _ ⟨x, dx, us, ds, O, _, _, _, _, _, m⟩ => m.elim⟩
theorem hlv_all (fx : Fx K mg g w) (tb : Tab g w) (ea : ExA P wd K mg g w) (ex : Ex K mg g w) (df : Defs K mg g w) : HLv P wd K mg base g w := fun f hf => by
  obtain ⟨a, fd, ps, h1, h2, h3, h4⟩ := df.ht f hf
  obtain ⟨name, qual, params, body, scope, dV, kV, doc, pm, cdv, ct, oc, an, od, osl, N, fd', e, lk, hcd, S, hf', hn, hp, hc⟩ := h4
  subst e
  exact ⟨a, _, ps, h1, h2, h3, hot_ok lk hcd S fx tb ea ex hf' hn hp hc⟩
/-- every def keeps its promise at every level -/
theorem lv_all (fx : Fx K mg g w) (tb : Tab g w) (ea : ExA P wd K mg g w) (ex : Ex K mg g w) (df : Defs K mg g w) : ∀ k, Lv P wd K mg base g w k ∧ Lv P wd K mg base g w (k + 1)
  | 0 => by
    have l0 : Lv P wd K mg base g w 0 := ⟨fun f h => let ⟨a, fd, ps, h1, h2, h3, _⟩ := df.fn f h; ⟨a, fd, ps, h1, h2, h3, fn_zero⟩, fun c m f h => let ⟨a, fd, ps, h1, h2, h3, _⟩ := df.mt c m f h; ⟨a, fd, ps, h1, h2, h3, fn_zero⟩, fun c k h e => by cases e⟩
    exact ⟨l0, fun f h => let ⟨a, fd, ps, h1, h2, h3, h4⟩ := df.fn f h; ⟨a, fd, ps, h1, h2, h3, fn_at fx tb ea ex (hlv_all fx tb ea ex df) l0 h4⟩, fun c m f h => let ⟨a, fd, ps, h1, h2, h3, h4⟩ := df.mt c m f h; ⟨a, fd, ps, h1, h2, h3, fn_at fx tb ea ex (hlv_all fx tb ea ex df) l0 h4⟩, fun c k h e => by
      cases e
      obtain ⟨a, fd, ps, h1, h2, h3, h4⟩ := df.mkr c h
      exact ⟨a, fd, ps, h1, h2, h3, init_zero⟩⟩
  | k + 1 => by
    obtain ⟨l0, l1⟩ := lv_all fx tb ea ex df k
    exact ⟨l1, fun f h => let ⟨a, fd, ps, h1, h2, h3, h4⟩ := df.fn f h; ⟨a, fd, ps, h1, h2, h3, fn_at fx tb ea ex (hlv_all fx tb ea ex df) l1 h4⟩, fun c m f h => let ⟨a, fd, ps, h1, h2, h3, h4⟩ := df.mt c m f h; ⟨a, fd, ps, h1, h2, h3, fn_at fx tb ea ex (hlv_all fx tb ea ex df) l1 h4⟩, fun c j h e => by
      have e : j = k + 1 := by omega
      subst e
      obtain ⟨a, fd, ps, h1, h2, h3, h4⟩ := df.mkr c h
      exact ⟨a, fd, ps, h1, h2, h3, init_at fx tb ea ex (hlv_all fx tb ea ex df) l0 h h4⟩⟩
end
end S2

set_option maxHeartbeats 4000000
/-! S2v: how exceptions are made. -/
namespace S2
open PySem PySem.Spec PyProof.Rows L2
abbrev veB : List Value := [.type "ValueError", .type "Exception", .type "BaseException", .type "object"]
/-- what the written part must say of an own exception class without an __init__ -/
def exC0 (K : PySem.W.Frag) (C : Addr) : Bool := PySem.W.excIn K C veB "ValueError.__new__" && PySem.W.keepIn K (.ref C) && decide (PySem.W.subIn K (.ref C) (.type "BaseException") = some true) && decide (PySem.W.typeIn K (.ref C) = some (.type "type"))
theorem exF0 {X : Cx} {w : Wr} {c : Str} (h : exC0 X.K (w.ca c) = true) (gC : X.mg c = some (.ref (w.ca c))) (hd : (c == ("__debug__" : Str)) = false) : ExF X w c [] := by
  unfold exC0 at h
  simp only [Bool.and_eq_true, decide_eq_true_eq] at h
  obtain ⟨⟨⟨h1, h2⟩, h3⟩, h4⟩ := h
  exact fun x j p1 p2 pos hg => L2N.pmk_own PySem.F.excBase_ValueError h1 gC h2 (raises_own h3 h4) hg hd
end S2

set_option maxHeartbeats 4000000
/-! S2y: own exceptions whose __init__ says super().__init__('..') and keeps its argument in one field. -/
namespace S2
open PySem PySem.Spec PyProof.Rows L2

/-- the text of such an __init__ -/
def supB (f : Str) (params : Arguments) (body : List Stmt) (scope : Scope) : Bool :=
  (match params.args.map (fun a => a.arg), params.posonlyargs, params.vararg, params.kwonlyargs, params.kwarg with
    | [a, b], [], none, [], none => decide (a = ("self" : Str)) && decide (b = f)
    | _, _, _, _, _ => false) &&
  (match body with
    | [.Expr (.Call (.Attribute (.Call (.Name s0 _) [] [] _) m ap) [.Constant (.str _) _ _] [] cp) _, .Assign [.Attribute (.Name s1 _) f1 _] (.Name s2 _) _] =>
      decide (s0 = ("super" : Str)) && decide (m = ("__init__" : Str)) && decide (s1 = ("self" : Str)) && decide (f1 = f) && decide (s2 = f) && (ap.endLine == cp.line)
    | _ => false) &&
  decide (scope.names.lookup ("super" : Str) = some .globalImplicit) && decide (scope.names.lookup ("__class__" : Str) = some .free) && decide (scope.names.lookup ("self" : Str) = some .local) && decide (scope.names.lookup f = some .local) &&
  (scope.names.all fun p => !(p.2 == .cell)) && !scope.isCoroutine && !scope.isGenerator && (scope.kind == .function) && !(f == ("__debug__" : Str)) && !(f == ("self" : Str))
/-- the class, its __init__'s cell and code, in the written part -/
structure SupTxt (P : Program) (K : PySem.W.Frag) (f : Str) (C fI : Addr) : Prop where
  cls : ∃ nm q N bs bm sn sub ab col dd k0 k1 k2 k3 k5, K.lookup C = some (excClassObj nm q C N bs bm true sn sub ab col dd k0 k1 k2 k3 k5 "ValueError.__new__") ∧ PySem.HandSPX.refsVE bm = true
  sa : PySem.W.findIn K (.ref C) "__setattr__" = some (some (.builtin "object.__setattr__"))
  noN : PySem.W.findIn K (.ref C) f = some none
  iC : PySem.W.findIn K (.ref C) "__init__" = some (some (.ref fI))
  tC : PySem.W.typeIn K (.ref fI) = some (.type "function")
  kC : PySem.W.keepIn K (.ref C) = true
  exC : PySem.W.subIn K (.ref C) (.type "BaseException") = some true
  tyC : PySem.W.typeIn K (.ref C) = some (.type "type")
  spr : PySem.W.ks_superIn K C C "__init__" = some (some (.builtin "ValueError.__init__"))
  sVE : PySem.W.subIn K (.ref C) (.type "ValueError") = some true
  mro : PySem.W.mroIn K C (.ref C) = some true
  opq : PySem.W.nsIn K cStatics "thirdparty.any" = some none
  fn : ∃ (oc : Value) (od : Option Addr) (name qual : Str) (params : Arguments) (body : List Stmt) (scope : Scope) (dV kV doc pm : Value) (an : Option Addr) (cda cc : Addr) (ct : Value) (osl : Array (Option Value)),
    K.lookup fI = some ⟨oc, od, .func (PySem.W.ksFn name qual params body scope dV kV doc pm an (.ref cda) ct cc), osl⟩ ∧ PySem.W.codeIn K (.ref cda) qual = true ∧ supB f params body scope = true ∧
    (∃ ccl cdd vs ccs file tf, K.lookup cda = some ⟨ccl, cdd, .fields vs, ccs⟩ ∧ vs[2]? = some (.str file tf) ∧ ((P.main.file : Str) == file) = true) ∧ (∃ cl cld csl, K.lookup cc = some ⟨cl, cld, .cell (some (.ref C)), csl⟩) ∧
    ∀ (s : Shared) (x v : Value), BindsTo s (PySem.W.ksFn name qual params body scope dV kV doc pm an (.ref cda) ct cc) ⟨[x, v], []⟩ [(("self" : Str), x), (f, v)]
  top : (P.main.scope.names.lookup ("super" : Str)).isSome = false

section
open PySem.W PySem.Calls PyProof.Rows PySem.HandSPX
variable {prog : Program} {w : World} {A : Around} {E : Value → Shared → Prop} {R : Result → Shared → Prop} {s : Shared} {K : Frag} {mg mb : Str → Option Value} {C fI : Addr} {f : Str}
/-- what __init__ leaves of a fresh exception at x -/
structure SupEnd (h h' : Heap) (x C dx t1 : Addr) (f : Str) (v : Value) : Prop where
  keep : ∀ b o, b ≠ x → h.get? b = some o → h'.get? b = some o
  obj : h'.get? x = some { cls := .ref C, dict := some dx, data := .fields #[.ref t1, .none, .none, .none, .bool false, .none] }
  dbig : h.objs.size ≤ dx
  dne : dx ≠ x
  ns : h'.Ns1 dx (fun y => if y = f then some v else none)
/-- the bound ValueError.__init__ is called -/
theorem call_mw {h : Heap} {g : Array GenState} {d : Drawn} {t : Nat} {os : OsState} {u e t0 : Addr} {rest : List Value} {Q : Value → Shared → Prop} {nm q : Str} {N : Addr} {bs bm : List Value} {hdct : Bool} {sn : List Str} {sub : List Value} {ab : Bool} {col : Option Bool} {dd : Option Addr} {k0 k1 k2 k3 k5 : Option Value}
    (hC : h.get? C = some (excClassObj nm q C N bs bm hdct sn sub ab col dd k0 k1 k2 k3 k5 "ValueError.__new__")) (he : h.get? e = some (excO C t0)) (hu : h.get? u = some (kxs_mw "ValueError.__init__" e)) (hrest : rest.length ≤ sizeLine)
    (hq : ∀ h' t1, (∀ b o, b ≠ e → h.get? b = some o → h'.get? b = some o) → h'.get? e = some (excO C t1) → Q .none ⟨h', g, d, t, os⟩) :
    wpAny (model prog w) A (call (.ref u) rest) Q E ⟨h, g, d, t, os⟩ := by
  have FB := F.excBase_ValueError
  refine wpAny_call (codeAny_of_tree (show wpAny _ A.in1 (callAny (.ref u) ⟨rest, []⟩) _ _ _ from ?_))
  simp only [callAny]
  refine wpAny_bind (wpAny_load hu ?_)
  have ty : (Value.type "method-wrapper" == Value.type "method" || Value.type "method-wrapper" == Value.type "builtin_function_or_method" || Value.type "method-wrapper" == Value.type "method-wrapper") = true := by decide
  simp only [kxs_mw, ty, if_true]
  refine PySem.W.KFB.if_so (by decide) (wpAny_bind (check_bound_init FB.toExcCallFacts hC he rfl (wpAny_bind (wpAny_pure (wpAny_pure ⟨plainId_quiet FB.init.plain _, codeAny_builtin FB.initEntry ?_⟩)))))
  rw [Around.under_plainId FB.init.plain _]
  wp_walk
  refine hq _ h.objs.size (fun b o hb ho => (Heap.get?_update_other _ _ (Ne.symm hb)).trans (Heap.get?_push_of_some _ ho)) ?_
  exact (Heap.get?_update_self _ (Heap.get?_push_of_some _ he) rfl).trans rfl
theorem supB_ok {params : Arguments} {body : List Stmt} {scope : Scope} (h : supB f params body scope = true) : ∃ (a0 a1 : Arg) (s : Str) (j : Nat) (p0 p1 p2 p3 p4 p5 p6 p7 p8 p9 : Pos), params.args = [a0, a1] ∧ params.posonlyargs = [] ∧ (p2.endLine == p4.line) = true ∧ a0.arg = ("self" : Str) ∧
    body = [.Expr (.Call (.Attribute (.Call (.Name "super" p0) [] [] p1) "__init__" p2) [.Constant (.str s) j p3] [] p4) p5, .Assign [.Attribute (.Name "self" p6) f p7] (.Name f p8) p9] ∧
    scope.names.lookup ("super" : Str) = some .globalImplicit ∧ scope.names.lookup ("__class__" : Str) = some .free ∧ scope.names.lookup ("self" : Str) = some .local ∧ scope.names.lookup f = some .local ∧ (∀ x ∈ scope.names, x.2 ≠ .cell) ∧ scope.isCoroutine = false ∧ scope.isGenerator = false ∧ scope.kind = .function ∧ (f == ("__debug__" : Str)) = false ∧ f ≠ ("self" : Str) := by
  unfold supB at h
  simp only [Bool.and_eq_true, decide_eq_true_eq, Bool.not_eq_true'] at h
  obtain ⟨⟨⟨⟨⟨⟨⟨⟨⟨⟨⟨h1, h2⟩, h3⟩, h4⟩, h5⟩, h6⟩, h7⟩, h8⟩, h9⟩, h10⟩, h11⟩, h12⟩ := h
  split at h2
  case h_2 => cases h2
  rename_i s0 p0 p1 m p2 x j p3 p4 p5 s1 p6 f1 p7 s2 p8 p9
  simp only [Bool.and_eq_true, decide_eq_true_eq] at h2
  obtain ⟨⟨⟨⟨⟨e1, e2⟩, e3⟩, e4⟩, e5⟩, e6⟩ := h2
  subst e1 e2 e3 e4 e5
  split at h1
  case h_2 => cases h1
  rename_i a b z1 z2 z3 z4 z5
  simp only [Bool.and_eq_true, decide_eq_true_eq] at h1
  cases e : params.args with
  | nil => rw [e] at z1; cases z1
  | cons a0 r =>
    cases r with
    | nil => rw [e] at z1; cases z1
    | cons a1 r =>
      cases r with
      | cons _ _ => rw [e] at z1; cases z1
      | nil =>
        rw [e] at z1
        have z1 := List.cons.inj z1
        refine ⟨a0, a1, x, j, p0, p1, p2, p3, p4, p5, p6, p7, p8, p9, rfl, z2, e6, z1.1.trans h1.1, rfl, h3, h4, h5, h6, fun y m c => ?_, h8, h9, beq_iff_eq.mp h10, h11, fun z => ?_⟩
        · have := List.all_eq_true.mp h7 y m
          rw [c] at this
          cases this
        · rw [z] at h12
          exact absurd h12 (by decide)
theorem sup_shape {o : Expr} {env : PySem.Env} {m : Str} {ap pos : Pos} {args : List Expr} (hf : methodCallForm args.length (backTo pos (starEach args env)) [] = true) (hl : (ap.endLine == pos.line) = true) :
    eval (.Call (.Attribute o m ap) args [] pos) env = attributeBase o m env (eval o env) >>= fun ov => standAt ap.atName >>= fun _ => holding [ov] (getMethod ov m (do return (← importBound o env).getD true)) >>= fun fx => callWith pos fx.1 fx.2 (backTo pos (starEach args env)) [] := by
  show (attributeBase o m env (eval o env) >>= fun ov => standAt ap.atName >>= fun _ => methodCall o m ap pos env ov (args.length + 0) (backTo pos (starEach args env)) (backToKw pos (keywordEach [] env))) = _
  have hk : backToKw pos (keywordEach [] env) = [] := by rfl
  rw [hk]
  unfold methodCall calleeOf methodCallPos
  rw [Nat.add_zero, hf, hl]
  rfl
theorem sup_init (T : SupTxt prog K f C fI) {x t0 : Addr} {v : Value} (X : K.In s.heap) (G : s.heap.Ns mainGlobals mg) (hsup : mg ("super" : Str) = none) (B : s.heap.Ns builtinsNs mb) (hmb : mb ("super" : Str) = some (.type "super")) (hlim : s.heap.NoLimit) (hx : s.heap.get? x = some (excO C t0)) (hnx : K.lookup x = none) (hroom : A.depth < recursionLimit)
    (hq : ∀ h' tk dx t1, SupEnd s.heap h' x C dx t1 f v → R (.ok (.ret .none)) { s with heap := h', toks := tk }) :
    codeAny (model prog w) A (.call (.ref fI) ⟨[.ref x, v], []⟩) R s := by
  obtain ⟨oc, od, name, qual, params, body, scope, dV, kV, doc, pm, an, cda, cc, ct, osl, ho, hcd, hb, ⟨ccl, cdd, vs, ccs, file, tf, hcode, hvs, hfile⟩, ⟨cl, cld, csl, hcell⟩, hbind⟩ := T.fn
  obtain ⟨nm, q, N, bs, bm, sn, sub, ab, col, dd, k0, k1, k2, k3, k5, hC, hbm⟩ := T.cls
  have hcl : clsIn K C = some { name := nm, bases := bs, mro := .ref C :: bm, ns := N, qualname := q, hasDict := true, slotNames := sn, subclasses := sub, abstract := ab, collection := col, hasDel := false } := by unfold clsIn; rw [hC] <;> rfl
  obtain ⟨a0, a1, sx, j, p0, p1, p2, p3, p4, p5, p6, p7, p8, p9, pa, pp, hline, ha0, hbd, ks, kc, kself, kf, nocell, hco, hgen, hkind, hdb, nself⟩ := supB_ok hb
  subst hbd
  refine ks_codeAny_call_defAt (binds := [(("self" : Str), .ref x), (f, v)]) hroom (X _ _ ho) rfl hlim (codeRec_of X hcd) rfl (hbind _ _ _) nocell (fun y m => ?_) (fun h1 hn k1' => ?_) hco hgen hkind
  · rcases List.mem_cons.mp m with rfl | m
    · exact kself
    · cases List.mem_singleton.mp m
      exact kf
  have X1 : K.In h1 := X.keeps k1'
  have hx1 := k1' _ _ hx
  have I1 : InstAt h1 x (excO C t0) C none := ⟨hx1, rfl, rfl, trivial⟩
  have m0 : ([(("self" : Str), Value.ref x), (f, v)] : List (Str × Value)).reverse.lookup ("self" : Str) = some (.ref x) := by
    show List.lookup ("self" : Str) [(f, v), (("self" : Str), Value.ref x)] = _
    have : (("self" : Str) == f) = false := by simpa using Ne.symm nself
    simp [List.lookup, this]
  have mf : ([(("self" : Str), Value.ref x), (f, v)] : List (Str × Value)).reverse.lookup f = some v := by
    show List.lookup f [(f, v), (("self" : Str), Value.ref x)] = _
    simp [List.lookup]
  have hCa := X1 _ _ hC
  have big : s.heap.objs.size < h1.objs.size := hn.lt
  refine ks_wpAt_execs_cons (ks_wpAt_Expr_any (ks_wpAt_MethodCall ?_ (sup_shape (by rfl) hline)) (by unfold interactive; rw [show (callEnv (ksFn name qual params _ scope dV kV doc pm an (.ref cda) ct cc) s.heap.objs.size fI).scope.kind = .function from hkind]; rfl))
  refine ks_wpAt_super_base (ar := a0) (env := callEnv (ksFn name qual params _ scope dV kV doc pm an (.ref cda) ct cc) s.heap.objs.size fI) ks kc (by decide) rfl (X1 _ _ ho) rfl (by show (params.posonlyargs ++ params.args).head? = _; rw [pp, pa]; rfl) rfl (X1 _ _ hcode) rfl hvs hfile T.top ?_
  refine ks_loadName_global hkind ks (loadGlobal_builtin (G.keeps k1') hsup (B.keeps k1') hmb ⟨rfl, ?_⟩)
  refine wpAny_loadName_free hkind kc rfl ⟨_, X1 _ _ hcell, rfl⟩ ?_
  rw [ha0]
  refine wpAny_loadName_local hkind kself hn m0 ?_
  refine ks_wpAny_isType_cls hCa rfl ⟨rfl, ?_⟩
  refine ks_wpAny_call_super hCa rfl hx1 rfl (fun c e => by cases e) (looks_mroIn X1 T.mro) fun h2 hso k2' => ?_
  have X2 : K.In h2 := X1.keeps k2'
  have I2 : InstAt h2 x (excO C t0) C none := ⟨k2' _ _ hx1, rfl, rfl, trivial⟩
  have hspr := T.spr
  unfold ks_superIn at hspr
  rw [hcl] at hspr
  refine kxs_getMethod kxs_ValueError hso (looks_opaque X2 T.opq) ((looks_clsIn X2 hcl).andThen .now) rfl X2 hspr (I2.type.andThen (looks_subIn X2 T.sVE)) (ks_ne X2 I2 hcl) (by decide) ?_
  have hmw : (h2.push (kxs_mw "ValueError.__init__" x)).get? h2.objs.size = some (kxs_mw "ValueError.__init__" x) := Heap.get?_push_at rfl rfl
  have k3' : ∀ b o, h2.get? b = some o → (h2.push (kxs_mw "ValueError.__init__" x)).get? b = some o := fun b o e => Heap.get?_push_of_some _ e
  refine kxs_callWith (i := "ValueError.__init__") (x := x) (by rfl) (evalArgs_plain ?_)
  refine Calls.spliced_cons ?_
  show wpAny _ _ (eval (.Constant (.str sx) j p3) (callEnv (ksFn name qual params _ scope dV kV doc pm an (.ref cda) ct cc) s.heap.objs.size fI)) _ _ _
  refine Calls.Constant_str (Calls.spliced_nil ?_)
  refine ⟨hmw, ?_⟩
  refine call_mw (t0 := t0) (k3' _ _ (k2' _ _ hCa)) (k3' _ _ (k2' _ _ hx1)) hmw (by rw [sizeLine_eq]; exact (by decide : (1 : Nat) ≤ 16777216)) fun h4 t1 k4' hx4 => ?_
  have nx2 : ∀ b o, b ≠ x → h1.get? b = some o → h4.get? b = some o := fun b o hb e => k4' b o hb (k3' _ _ (k2' _ _ e))
  have xL : s.heap.objs.size ≠ x := Nat.ne_of_gt (Heap.lt_size hx)
  have hn4 : h4.Ns s.heap.objs.size (fun y => ([(("self" : Str), Value.ref x), (f, v)] : List (Str × Value)).reverse.lookup y) := hn.at fun o e => nx2 _ _ xL e
  have X4 : K.In h4 := fun a o e => nx2 a o (fun z => by rw [z, hnx] at e; cases e) (X1 a o e)
  refine ks_wpAt_execs_cons (wpAt_of_wpAny (plainObj_wpAny_Assign_Attribute ?_))
  refine wpAny_Name (wpAny_loadName_local hkind kf hn4 mf ?_) hdb
  refine wpAny_Name (wpAny_loadName_local hkind kself hn4 m0 ?_) (by decide)
  refine set_plain X4 (ox := excO C t1) (od := none) ⟨hx4, rfl, rfl, trivial⟩ T.sa ?_
  refine exc_osa X4 hx4 hcl (show refsVE (.ref C :: bm) = true from hbm) rfl T.noN (fun h5 tk5 dx k5' dn dne hx5 hn5 => ?_)
  have a1 : h2.objs.size < h4.objs.size := Heap.lt_size (k4' _ _ (Nat.ne_of_gt (Heap.lt_size (k2' _ _ hx1))) hmw)
  have a2 : h1.objs.size < h2.objs.size := Heap.lt_size hso
  have dn' : h4.objs.size ≤ dx := dn
  exact wpAt_of_wpAny (wpAny_execs_nil (hq h5 tk5 dx t1 ⟨fun b o hb e => k5' b o hb (nx2 b o hb (k1' b o e)), hx5, by omega, dne, hn5⟩))
/-- such an exception, made -/
structure SupMade (h h' : Heap) (e C d : Addr) (f : Str) (v : Value) : Prop where
  keep : ∀ b o, h.get? b = some o → h'.get? b = some o
  new : h.objs.size ≤ e
  obj : ∃ oe vs, h'.get? e = some oe ∧ oe.cls = .ref C ∧ oe.dict = some d ∧ oe.data = .fields vs ∧ vs[1]? = some .none ∧ vs[2]? = some .none
  dbig : h.objs.size ≤ d
  dne : d ≠ e
  ns : h'.Ns1 d (fun y => if y = f then some v else none)
theorem sup_made (T : SupTxt prog K f C fI) {v : Value} (X : K.In s.heap) (G : s.heap.Ns mainGlobals mg) (hsup : mg ("super" : Str) = none) (B : s.heap.Ns builtinsNs mb) (hmb : mb ("super" : Str) = some (.type "super")) (hlim : s.heap.NoLimit) (hroom : A.depth + 1 < recursionLimit)
    (hq : ∀ h' tk e d, SupMade s.heap h' e C d f v → R (.ok (.ret (.ref e))) { s with heap := h', toks := tk }) :
    codeAny (model prog w) A (.call (.ref C) ⟨[v], []⟩) R s := by
  obtain ⟨nm, q, N, bs, bm, sn, sub, ab, col, dd, k0, k1, k2, k3, k5, hC, hbm⟩ := T.cls
  obtain ⟨hp, g, dr, tk, os⟩ := s
  have k : ∀ b o, hp.get? b = some o → ((hp.push (kdv_tup [v])).push (excO C hp.objs.size)).get? b = some o := fun b o e => Heap.get?_push_of_some _ (Heap.get?_push_of_some _ e)
  have hget : ((hp.push (kdv_tup [v])).push (excO C hp.objs.size)).get? (hp.objs.size + 1) = some (excO C hp.objs.size) := by heap_get
  have hnx : K.lookup (hp.objs.size + 1) = none := by
    cases e : K.lookup (hp.objs.size + 1) with
    | none => rfl
    | some o => exact absurd (Nat.lt_of_succ_lt (Heap.lt_size (show hp.get? (hp.objs.size + 1) = some o from X _ _ e))) (Nat.lt_irrefl _)
  refine call_own F.excBase_ValueError (fun X => refsVE_contains X bm hbm) (X _ _ hC) (looks_findIn X T.iC) (fun self => bind_fn X self T.tC) (by rw [sizeLine_eq]; exact (by decide : (1 : Nat) ≤ 16777216)) ?_
  refine sup_init (mg := mg) (mb := mb) (s := ⟨(hp.push (kdv_tup [v])).push (excO C hp.objs.size), g, dr, tk, os⟩) T (X.keeps k) (G.keeps k) hsup (B.keeps k) hmb (hlim.keeps k) hget hnx (show A.depth + 1 < recursionLimit from hroom) fun h' tk' dx t1 ⟨k', hx, dn, dne, hns⟩ => ?_
  have old : ∀ b o, hp.get? b = some o → h'.get? b = some o := fun b o e => k' b o (Nat.ne_of_lt (Nat.lt_succ_of_lt (Heap.lt_size e))) (k b o e)
  have z : hp.objs.size + 1 + 1 ≤ dx := by
    have q := dn
    rw [Heap.size_push, Heap.size_push] at q
    exact q
  exact ⟨rfl, hq h' tk' (hp.objs.size + 1) dx ⟨old, Nat.le_succ _, ⟨_, _, hx, rfl, rfl, rfl, rfl, rfl⟩, (show hp.objs.size ≤ dx by omega), dne, hns⟩⟩
end
section
variable {X : Cx} {C fI : Addr} {f : Str}
theorem relO_one {v : V} {v' : Value} (r : RelV v v') (h : Str) : RelO (List.lookup h [(f, v)]) (if h = f then some v' else none) := by
  by_cases e : h = f
  · rw [if_pos e, e]
    have q : List.lookup f [(f, v)] = some v := by simp [List.lookup]
    rw [q]
    exact r
  · have e2 : (h == f) = false := by simpa using e
    rw [if_neg e]
    simp [List.lookup, e2, RelO]
/-- c(e) -/
theorem pmk_sup {c : Str} {a : Expr} {te : TE} {p pos : Pos} {k : Nat} (T : SupTxt X.prog X.K f C fI) (gC : X.mg c = some (.ref C)) (hsup : X.mg ("super" : Str) = none) (hr : Room k X.A) (ha : PE X a te) (hg : Gl X c) (hd : (c == ("__debug__" : Str)) = false)
    (he : starEach (a :: []) X.env = (false, eval a X.env) :: starEach [] X.env) :
    L2N.PMk X (.Call (.Name c p) [a] [] pos) (fun σ H Q => te σ H fun y H1 => ∀ d, H1 d = none → Q (.ref C) (some d) (upd H1 d (.xd [(f, y)]))) := by
  intro pins s σ H Q I h
  refine wpAny_Call_Name_kw (ld_glob I hg gC ?_ hd)
  refine PySem.W.callWith_K (h₀ := X.base) I.ok.mod.kin T.kC ?_ he (by rfl)
  rw [he]
  show wpAny _ _ (spliced ((false, eval a X.env) :: backTo pos (starEach [] X.env))) _ _ _
  refine Calls.spliced_cons (thn (ha.run pins s σ H _ I h) fun v' s1 hh => Calls.spliced_nil ?_)
  obtain ⟨v, H1, I1, rv, q1⟩ := hh
  refine ⟨I1.kIn, ?_⟩
  show wpAny _ _ (call (.ref C) [v']) _ _ _
  have hlim := I1.nolimit
  have G := I1.mod.glob.keeps I1.bk
  obtain ⟨mb, h1, h2⟩ := I1.mod.blt
  have B := h1.keeps I1.bk
  have hmb : mb ("super" : Str) = some (.type "super") := (h2 _ (by decide)).trans PyProof.Rows.Boot.«super»
  obtain ⟨hp, g, dr, tk, os⟩ := s1
  refine wpAny_call (sup_made T I1.kIn G hsup B hmb hlim (by have := hr.dp; omega) fun h' tk' e d M => ?_)
  show L2N.MkP X pins σ Q (.ref e) ⟨h', g, dr, tk', os⟩
  obtain ⟨oe, fv, hoe, hc, hdd, hdat, h1', h2'⟩ := M.obj
  obtain ⟨G', g1, g2⟩ := restrict h' fun b => decide (b ≠ e)
  have gk : ∀ b, b ≠ e → G'.get? b = h'.get? b := fun b hb => g1 b (decide_eq_true hb)
  have ge : G'.get? e = none := g2 e (by simp)
  have old : ∀ b o, hp.get? b = some o → G'.get? b = some o := fun b o q => (gk b (Nat.ne_of_lt (Nat.lt_of_lt_of_le (Heap.lt_size q) M.new))).trans (M.keep b o q)
  have ob : ObjOk X.prog X.w (upd H1 d (.xd [(f, v)])) G' d (.xd [(f, v)]) := ⟨_, M.ns.at (fun o q => (gk d M.dne).trans q), fun z => relO_one rv z⟩
  have J : Inv X pins σ (upd H1 d (.xd [(f, v)])) ⟨G', g, dr, tk', os⟩ := I1.laid (t' := tk') old M.dbig ob
  refine ⟨e, oe, fv, ⟨G', g, dr, tk', os⟩, _, .ref C, some d, rfl, J, fun b o q => ?_, ge, hoe, ⟨hc, hdd, fun vs hv => by rw [hdat] at hv; cases hv; exact h2'⟩, hdat, h1', ?_, rfl, I1.bare, raises_own T.exC T.tyC, q1 d (I1.hok.fresh M.dbig)⟩
  · by_cases hb : b = e
    · have q' : G'.get? b = some o := q
      rw [hb, ge] at q'; cases q'
    · exact (gk b hb).symm.trans q
  · rw [upd_ne (Ne.symm M.dne)]
    exact I1.hok.fresh M.new
end
end S2

set_option maxHeartbeats 4000000
/-! S2z: the table, what the head must show of it, and what follows. -/
namespace S2
open PySem PySem.Spec PyProof.Rows L2

def Tb.wr (t : Tb) (K : PySem.W.Frag) : Wr := ⟨K, fun c => He.ga K c, fun c => t.cls.contains c, ⟨0, .none, none⟩⟩

/-! ### an __init__ with super() -/
structure SupD where
  c : Str
  f : Str
  name : Str
  qual : Str
  params : Arguments
  body : List Stmt
  scope : Scope
abbrev FnC : Type := Option (Str × Str × Arguments × FuncBody × Scope × Addr × List Str × Value × Value × Addr)
def fnC (K : PySem.W.Frag) (c : Str) : FnC := match K.lookup (He.ma K (He.ga K c) "__init__") with
  | some ⟨_, _, .func fd, _⟩ => some (fd.name, fd.qualname, fd.params, fd.body, fd.scope, fd.globals, fd.closure.map (fun p => p.1), fd.defaults, fd.kwdefaults, fd.builtins)
  | _ => none
def SupD.val (d : SupD) : FnC := some (d.name, d.qual, d.params, .stmts d.body, d.scope, mainGlobals, ["__class__"], .none, .none, builtinsNs)
def excVE (K : PySem.W.Frag) (C : Addr) : Bool := match K.lookup C with
  | some ⟨.type "type", _, .cls cd, sl⟩ => (match cd.mro, sl.toList with
    | .ref C' :: bm, [_, _, _, _, some (.builtin n), _] => C' == C && n == "ValueError.__new__" && !cd.hasDel && cd.hasDict && PySem.HandSPX.refsVE bm
    | _, _ => false)
  | _ => false
theorem excVE_ok {K : PySem.W.Frag} {C : Addr} (h : excVE K C = true) : ∃ nm q N bs bm sn sub ab col dd k0 k1 k2 k3 k5, K.lookup C = some (excClassObj nm q C N bs bm true sn sub ab col dd k0 k1 k2 k3 k5 "ValueError.__new__") ∧ PySem.HandSPX.refsVE bm = true := by
  unfold excVE at h
  split at h
  case h_2 => cases h
  rename_i dd cd sl ho
  split at h
  case h_2 => cases h
  rename_i C' bm k0 k1 k2 k3 n k5 hm hs
  simp only [Bool.and_eq_true, beq_iff_eq, Bool.not_eq_true'] at h
  obtain ⟨⟨⟨⟨e1, e2⟩, e3⟩, e4⟩, e5⟩ := h
  obtain ⟨nm, bs, mro, ns, qn, hd, sn, sub, ab, col, del⟩ := cd
  dsimp only at hm e3 e4
  subst e1 e2 hm e3 e4
  have hsl : sl = #[k0, k1, k2, k3, some (.builtin "ValueError.__new__"), k5] := by
    obtain ⟨l⟩ := sl
    exact congrArg Array.mk hs
  subst hsl
  exact ⟨_, _, _, _, _, _, _, _, _, _, _, _, _, _, _, ho, e5⟩
/-- the cell and the code of the __init__ -/
def cellB (K : PySem.W.Frag) (C fI : Addr) (file : Str) (qual : Str) : Bool := match K.lookup fI with
  | some ⟨_, _, .func fd, _⟩ => (match fd.code, fd.closure with
    | .ref cda, [(_, cc)] => PySem.W.codeIn K (.ref cda) qual && (match K.lookup cda with
        | some ⟨_, _, .fields vs, _⟩ => (match (vs[2]? : Option Value) with
          | some (Value.str fl _) => file == fl
          | _ => false)
        | _ => false) && (match K.lookup cc with
        | some ⟨_, _, .cell (some (.ref C')), _⟩ => C' == C
        | _ => false)
    | _, _ => false)
  | _ => false
def supK (P : Program) (K : PySem.W.Frag) (d : SupD) : Bool :=
  let C := He.ga K d.c
  let fI := He.ma K C "__init__"
  excVE K C && decide (PySem.W.findIn K (.ref C) "__setattr__" = some (some (.builtin "object.__setattr__"))) && decide (PySem.W.findIn K (.ref C) d.f = some none) && decide (PySem.W.findIn K (.ref C) "__init__" = some (some (.ref fI))) &&
  decide (PySem.W.typeIn K (.ref fI) = some (.type "function")) && PySem.W.keepIn K (.ref C) && decide (PySem.W.subIn K (.ref C) (.type "BaseException") = some true) && decide (PySem.W.typeIn K (.ref C) = some (.type "type")) &&
  decide (PySem.W.ks_superIn K C C "__init__" = some (some (.builtin "ValueError.__init__"))) && decide (PySem.W.subIn K (.ref C) (.type "ValueError") = some true) && decide (PySem.W.mroIn K C (.ref C) = some true) &&
  decide (PySem.W.nsIn K cStatics "thirdparty.any" = some none) && cellB K C fI P.main.file d.qual
structure SupTx (P : Program) (d : SupD) : Prop where
  ok : supB d.f d.params d.body d.scope = true
  bind : ∀ (doc pm : Value) (an : Option Addr) (cda cc : Addr) (ct : Value) (x v : Value), bindArgs (PySem.W.ksFn d.name d.qual d.params d.body d.scope .none .none doc pm an (.ref cda) ct cc) ⟨[x, v], []⟩ = pure [(("self" : Str), x), (d.f, v)]
  top : (P.main.scope.names.lookup ("super" : Str)).isSome = false
theorem supT {P : Program} {K : PySem.W.Frag} {d : SupD} (h : supK P K d = true) (e : fnC K d.c = d.val) (tx : SupTx P d) : SupTxt P K d.f (He.ga K d.c) (He.ma K (He.ga K d.c) "__init__") := by
  unfold supK at h
  simp only [Bool.and_eq_true, decide_eq_true_eq] at h
  obtain ⟨⟨⟨⟨⟨⟨⟨⟨⟨⟨⟨⟨h1, h2⟩, h3⟩, h4⟩, h5⟩, h6⟩, h7⟩, h8⟩, h9⟩, h10⟩, h11⟩, h12⟩, h13⟩ := h
  refine ⟨excVE_ok h1, h2, h3, h4, h5, h6, h7, h8, h9, h10, h11, h12, ?_, tx.top⟩
  unfold fnC at e
  unfold cellB at h13
  split at h13
  case h_2 => cases h13
  rename_i oc od fd osl lk
  rw [lk] at e
  split at h13
  case h_2 => cases h13
  rename_i cda nmc cc e1 e2
  obtain ⟨n1, n2, n3, n4, n5, n6, n7, n8, n9, n10, n11, n12, n13, n14, n15⟩ := fd
  have e : (some (n1, n2, n3, n4, n5, n6, n7.map (fun p => p.1), n8, n9, n15) : FnC) = d.val := e
  unfold SupD.val at e
  simp only [Option.some.injEq, Prod.mk.injEq] at e
  obtain ⟨z1, z2, z3, z4, z5, z6, z7, z8, z9, z10⟩ := e
  have e1 : n13 = .ref cda := e1
  have e2 : n7 = [(nmc, cc)] := e2
  subst e1 e2 z1 z2 z3 z4 z5 z6 z8 z9 z10
  have z7 : nmc = "__class__" := by
    have := List.cons.inj z7
    exact this.1
  subst z7
  simp only [Bool.and_eq_true] at h13
  obtain ⟨⟨c1, c2⟩, c3⟩ := h13
  refine ⟨oc, od, d.name, d.qual, d.params, d.body, d.scope, .none, .none, n10, n11, n12, cda, cc, n14, osl, lk, c1, tx.ok, ?_, ?_, fun s x v => .of_eq (tx.bind _ _ _ _ _ _ _ _)⟩
  · split at c2
    case h_2 => cases c2
    rename_i q1 q2 vs q3 q4
    split at c2
    case h_2 => cases c2
    rename_i fl tf q5
    exact ⟨_, _, vs, _, fl, tf, q4, q5, c2⟩
  · split at c3
    case h_2 => cases c3
    rename_i q1 q2 C' q3 q4
    have : C' = He.ga K d.c := beq_iff_eq.mp c3
    subst this
    exact ⟨_, _, _, q4⟩

/-! ### what the head must show -/
def excB (K : PySem.W.Frag) (C : Addr) : Bool := decide (PySem.W.findIn K (.ref C) "__getattribute__" = some (some (.builtin "BaseException.__getattribute__"))) && decide (PySem.W.findIn K (.ref C) "__getattr__" = some none) &&
  decide (PySem.W.subIn K (.ref C) (.type "BaseException") = some true) && PySem.W.hasDictIn K C && decide (PySem.W.findIn K (.ref C) "__class__" = some (some (.builtin "object.__class__"))) &&
  decide (PySem.W.specialIn K (.builtin "object.__class__") "__get__" = some (some (.builtin "getset_descriptor.__get__"))) && decide (PySem.W.takesIn K (.builtin "object.__class__") = some true) && decide (PySem.W.mroIn K C (.type "object") = some true)
theorem excB_ok {K : PySem.W.Frag} {C : Addr} (h : excB K C = true) : ExcC K C ∧ XfC K C := by
  unfold excB at h
  simp only [Bool.and_eq_true, decide_eq_true_eq] at h
  obtain ⟨⟨⟨⟨⟨⟨⟨h1, h2⟩, h3⟩, h4⟩, h5⟩, h6⟩, h7⟩, h8⟩ := h
  exact ⟨⟨h1, h2, h3, h4, h5, h6, h7, h8⟩, ⟨h1, h2, h3, h4⟩⟩
def scD : D → Option He.Dv
  | .non => some .non
  | .bl b => some (.bl b)
  | .int i => some (.int i)
  | .str s => some (.str s)
  | _ => none
def scDs : List D → Option (List He.Dv)
  | [] => some []
  | d :: l => match scD d, scDs l with
    | some x, some r => some (x :: r)
    | _, _ => none
def conB (K : PySem.W.Frag) (x : Str) (d : D) : Bool := match scD d with
  | some v => (match PySem.W.nsIn K mainGlobals x with
    | some (some u) => He.relB (v.v K) u
    | _ => false)
  | none => (match d with
    | .tup l => (match scDs l with
      | some vs => He.eqO (PySem.W.nsIn K mainGlobals x) (some (some (.ref (He.ga K x)))) && He.tupB K x vs
      | none => false)
    | _ => false)
def exsB (t : Tb) (P : Program) (K : PySem.W.Frag) (sups : List SupD) (p : Str × List Str × List Str) : Bool :=
  let C := He.ga K p.1
  (He.Fa.glo p.1).ok K && (match p.2.1 with
    | [] => exC0 K C
    | [f] => sups.any fun d => decide (d.c = p.1) && decide (d.f = f)
    | _ => false) && excB K C && (t.exs.all fun y => decide (PySem.W.exmOne K (.ref C) (.ref (He.ga K y.1)) = some (p.2.2.contains y.1)) && decide (PySem.W.kitOne K (.ref C) (.ref (He.ga K y.1)) = some (p.2.2.contains y.1))) &&
  decide (PySem.W.kitOne K (.ref C) (.type "ValueError") = some (p.2.2.contains (Str.ofString "ValueError"))) && (t.nfs.all fun f => decide (PySem.W.findIn K (.ref C) f = some none)) && !(p.1 == ("__debug__" : Str))
def Tb.ok (t : Tb) (P : Program) (sups : List SupD) (K : PySem.W.Frag) : Bool :=
  ((t.tops ++ t.hots).all fun f => (He.Fa.glo f).ok K) && (t.frs.all fun x => (He.Fa.free x).ok K) && (t.cons.all fun p => conB K p.1 p.2) && (t.exs.all fun p => exsB t P K sups p) &&
  (t.cls.all fun c => (He.Fa.glo c).ok K && (He.Fa.cls c).ok K && (He.Fa.mkr c).ok K && t.nfs.all fun f => (He.Fa.noat c f).ok K) && (t.mths.all fun p => (He.Fa.meth p.1.1 p.1.2).ok K && t.cls.contains p.1.1) && (sups.all fun d => supK P K d)
abbrev AlT : Type := Bool × List He.FnW × List FnC
def obsT (t : Tb) (P : Program) (fn : List He.DefD) (sups : List SupD) (K : PySem.W.Frag) : AlT := (t.ok P sups K && fn.all fun d => d.ok K, fn.map fun d => He.fnW K d.at_, sups.map fun d => fnC K d.c)
def valT (fn : List He.DefD) (sups : List SupD) : AlT := (true, fn.map He.DefD.val, sups.map SupD.val)
def SaysT (t : Tb) (P : Program) (fn : List He.DefD) (sups : List SupD) (K : PySem.W.Frag) : Prop := obsT t P fn sups K = valT fn sups
def obsTG (n : Nat) (t : Tb) (P : Program) (fn : List He.DefD) (sups : List SupD) (g : Addr → Option Obj) : AlT := obsT t P fn sups (He.frG g (cStatics :: He.asD g n))
def hookT (n : Nat) (t : Tb) (P : Program) (fn : List He.DefD) (sups : List SupD) : PySem.W.Hook where
  α := AlT
  obs := fun s => obsTG n t P fn sups s.heap.get?
  val := fun _ => valT fn sups
  says := fun _ h => ∃ K : PySem.W.Frag, K.In h ∧ SaysT t P fn sups K
  of := fun _ _ e => ⟨_, He.frG_in, e⟩
  keeps := fun _ _ _ ⟨K, hK, c⟩ k => ⟨K, PySem.W.Frag.In.keeps hK k, c⟩
theorem obsTG_eq {n : Nat} {t : Tb} {P : Program} {fn : List He.DefD} {sups : List SupD} {g : Addr → Option Obj} {s : Shared} (h : ∀ a, g a = s.heap.get? a) : obsTG n t P fn sups g = (hookT n t P fn sups).obs s := by
  have e : g = s.heap.get? := funext h
  rw [e] <;> rfl

/-! ### what the texts must show -/
structure DTx (t : Tb) (fn : List He.DefD) (at_ : Str × Option Str) (nm : Str) (hot : Bool := false) : Prop where
  ex : ∃ (i : Nat) (d : He.DefD) (N ps : List Str) (fd : FD), fn[i]? = some d ∧ d.at_ = at_ ∧ d.dfl = [] ∧ FnScope N ps d.scope ∧ t.fns.lookup nm = some fd ∧ fd.ns = N.length ∧ fd.np = ps.length ∧ okSs t.g N hot fd.body d.scope d.body = true ∧
    ∀ (kV doc pm : Value) (an : Option Addr) (cdv ct : Value) (us : List Value), us.length = ps.length → bindArgs (PySem.W.fnOf d.name d.qual d.params d.body d.scope .none kV doc pm an cdv ct) ⟨us, []⟩ = pure (ps.zip us)
structure Txt (t : Tb) (P : Program) (fn : List He.DefD) (sups : List SupD) : Prop where
  tops : ∀ f ∈ t.tops, DTx t fn (f, none) f
  mths : ∀ p ∈ t.mths, DTx t fn (p.1.1, some p.1.2) p.2
  inits : ∀ c ∈ t.cls, DTx t fn (c, some "__init__") (initName c)
  supx : ∀ d ∈ sups, SupTx P d
  hots : ∀ f ∈ t.hots, DTx t fn (f, none) f true
  sfree : sups.isEmpty = true ∨ t.frs.contains ("super" : Str) = true
section
variable {t : Tb} {P : Program} {wd : World} {fn : List He.DefD} {sups : List SupD} {K : PySem.W.Frag} {mg : Str → Option Value} {base h : Heap}
theorem lookup_mem {α β : Type} [BEq α] [LawfulBEq α] : ∀ {l : List (α × β)} {x : α} {y : β}, l.lookup x = some y → (x, y) ∈ l
  | [], _, _, h => by cases h
  | (a, b) :: l, x, y, h => by
    rw [List.lookup_cons] at h
    cases e : x == a with
    | true =>
      rw [e] at h
      cases h
      rw [beq_iff_eq.mp e]
      exact List.mem_cons_self
    | false =>
      rw [e] at h
      exact List.mem_cons_of_mem _ (lookup_mem h)
theorem SaysT.parts (c : SaysT t P fn sups K) : t.ok P sups K = true ∧ (∀ (i : Nat) (d : He.DefD), fn[i]? = some d → ∃ fd, FunD K d.name d.qual d.params d.body d.scope (d.dvs K) (d.kws K) (He.fAd K d.at_) fd) ∧ ∀ d ∈ sups, fnC K d.c = d.val := by
  have c1 : (t.ok P sups K && fn.all fun d => d.ok K) = true := congrArg (fun z : AlT => z.1) c
  obtain ⟨c2, c3⟩ := Bool.and_eq_true_iff.mp c1
  refine ⟨c2, fun i d hi => ?_, fun d m => ?_⟩
  · have e : fn.map (fun d => He.fnW K d.at_) = fn.map He.DefD.val := congrArg (fun z : AlT => z.2.1) c
    have e2 : (fn.map fun d => He.fnW K d.at_)[i]? = (fn.map He.DefD.val)[i]? := by rw [e]
    rw [List.getElem?_map, List.getElem?_map, hi] at e2
    exact He.DefD.funD (Option.some.inj e2) (List.all_eq_true.mp c3 d (List.mem_of_getElem? hi))
  · have e : sups.map (fun d => fnC K d.c) = sups.map SupD.val := congrArg (fun z : AlT => z.2.2) c
    exact List.map_inj_left.mp e d m
theorem DTx.at_ (c : SaysT t P fn sups K) {p : Str × Option Str} {nm : Str} {hot : Bool} (x : DTx t fn p nm hot) : ∃ fd ps, PySem.W.keepIn K (.ref (He.fAd K p)) = true ∧ Binds K fd ps [] ∧ DefAt K t.g nm (He.fAd K p) fd ps hot := by
  obtain ⟨i, d, N, ps, fd, hi, ha, hd, S, hf, hn, hp, ok, hb⟩ := x.ex
  obtain ⟨fdat, F⟩ := c.parts.2.1 i d hi
  have e0 : d.dvs K = [] := by unfold He.DefD.dvs; rw [hd]; rfl
  rw [e0, ha] at F
  have B := FunD.bindsN F hb
  obtain ⟨oc, od, dV, kV, doc, pm, an, cdv, ct, osl, e, lk, hcd, _, _⟩ := F.ex
  exact ⟨fdat, ps, F.kp, B, d.name, d.qual, d.params, d.body, d.scope, dV, kV, doc, pm, cdv, ct, oc, an, od, osl, N, fd, e, e ▸ lk, hcd, S, hf, hn, hp, ok⟩
theorem con_ok (X : K.In h) (G : h.Ns mainGlobals mg) {x : Str} {d : D} (c : conB K x d = true) : ∃ v u, mg x = some u ∧ RelV v u ∧ ∀ H O, Rep (t.wr K) H O d v := by
  unfold conB at c
  cases e : scD d with
  | some v =>
    rw [e] at c
    have c : (match PySem.W.nsIn K mainGlobals x with
      | some (some u) => He.relB (v.v K) u
      | _ => false) = true := c
    split at c
    case h_2 => cases c
    rename_i u q
    refine ⟨_, u, PySem.W.mg_of X G q, He.relB_ok c, fun H O => ?_⟩
    cases d <;> simp only [scD, Option.some.injEq, reduceCtorEq] at e <;> subst e <;> rfl
  | none =>
    rw [e] at c
    cases d <;> try (exact absurd c Bool.false_ne_true)
    rename_i l
    have c : (match scDs l with
      | some vs => He.eqO (PySem.W.nsIn K mainGlobals x) (some (some (.ref (He.ga K x)))) && He.tupB K x vs
      | none => false) = true := c
    split at c
    case h_2 => cases c
    rename_i vs q
    rw [Bool.and_eq_true] at c
    refine ⟨.ref (He.ga K x), _, PySem.W.mg_of X G (He.eqO_ok c.1), rfl, fun H O => ⟨_, _, rfl, He.tupB_ok c.2 H, ?_⟩⟩
    have : ∀ (l : List D) (vs : List He.Dv), scDs l = some vs → Reps (t.wr K) H O l (vs.map (He.Dv.v K)) := by
      intro l
      induction l with
      | nil => intro vs q; cases q; rfl
      | cons d l ih =>
        intro vs q
        unfold scDs at q
        split at q
        case h_2 => cases q
        rename_i y r e1 e2
        cases q
        refine ⟨_, _, rfl, ?_, ih r e2⟩
        cases d <;> simp only [scD, Option.some.injEq, reduceCtorEq] at e1 <;> subst e1 <;> rfl
    exact this l vs q
theorem Tb.all (X : K.In h) (G : h.Ns mainGlobals mg) (c : SaysT t P fn sups K) (x : Txt t P fn sups) : Fx K mg t.g (t.wr K) ∧ Tab t.g (t.wr K) ∧ ExA P wd K mg t.g (t.wr K) ∧ Ex K mg t.g (t.wr K) ∧ Defs K mg t.g (t.wr K) := by
  have hok := c.parts.1
  unfold Tb.ok at hok
  simp only [Bool.and_eq_true] at hok
  obtain ⟨⟨⟨⟨⟨⟨h1, h2⟩, h3⟩, h4⟩, h5⟩, h6⟩, h7⟩ := hok
  have free : ∀ y, t.g.fr y = true → mg y = none := fun y hy => He.free_ok X G (List.all_eq_true.mp h2 y (List.contains_iff_mem.mp hy))
  have exs : ∀ k, (t.g.exf k).isSome = true → ∃ p, t.exs.lookup k = some p ∧ (k, p) ∈ t.exs := fun k hk => by
    have hk : ((t.exs.lookup k).map (·.1)).isSome = true := hk
    cases e : t.exs.lookup k with
    | none => rw [e] at hk; cases hk
    | some p => exact ⟨p, rfl, lookup_mem e⟩
  have exf : ∀ k p, (k, p) ∈ t.exs → exsB t P K sups (k, p) = true := fun k p m => List.all_eq_true.mp h4 _ m
  have cls : ∀ k, t.g.cl k = true → (He.Fa.glo k).ok K = true ∧ (He.Fa.cls k).ok K = true ∧ (He.Fa.mkr k).ok K = true ∧ ∀ f, t.g.nf f = true → (He.Fa.noat k f).ok K = true := fun k hk => by
    have := List.all_eq_true.mp h5 k (List.contains_iff_mem.mp hk)
    simp only [Bool.and_eq_true] at this
    exact ⟨this.1.1.1, this.1.1.2, this.1.2, fun f hf => List.all_eq_true.mp this.2 f (List.contains_iff_mem.mp hf)⟩
  have own : ∀ k, (t.g.exf k).isSome = true → mg k = some (.ref (He.ga K k)) := fun k hk => by
    obtain ⟨p, _, m⟩ := exs k hk
    have := exf k p m
    unfold exsB at this
    simp only [Bool.and_eq_true] at this
    exact He.glo_ok X G this.1.1.1.1.1.1
  refine ⟨⟨rfl, free, fun y d hd => con_ok X G (List.all_eq_true.mp h3 _ (lookup_mem hd)), fun k hk => He.cls_ok (cls k hk).2.1, fun k f hk hf => He.noat_ok ((cls k hk).2.2.2 f hf)⟩, ⟨fun k hk => hk⟩, ?_, ?_, ?_⟩
  · intro Y e1 e2 e3 e4 hc hr k ns hk
    subst e1 e2 e3 e4
    have hk' : (t.g.exf k).isSome = true := by rw [hk]; rfl
    obtain ⟨p, q, m⟩ := exs k hk'
    have hk : (t.exs.lookup k).map (·.1) = some ns := hk
    rw [q] at hk
    have := exf k p m
    unfold exsB at this
    simp only [Bool.and_eq_true, Bool.not_eq_true'] at this
    obtain ⟨⟨⟨⟨⟨⟨g1, g2⟩, g3⟩, g4⟩, g5⟩, g6⟩, g7⟩ := this
    have hk : p.1 = ns := Option.some.inj hk
    have g2 : (match p.1 with
      | [] => exC0 Y.K (He.ga Y.K k)
      | [f] => sups.any fun d => decide (d.c = k) && decide (d.f = f)
      | _ => false) = true := g2
    rw [hk] at g2
    match ns, g2 with
    | [], g2 => exact exF0 (w := t.wr Y.K) g2 (He.glo_ok X G g1) g7
    | [f], g2 =>
      obtain ⟨d, dm, hd⟩ := List.any_eq_true.mp g2
      simp only [Bool.and_eq_true, decide_eq_true_eq] at hd
      obtain ⟨hd1, hd2⟩ := hd
      have T := supT (List.all_eq_true.mp h7 d dm) (c.parts.2.2 d dm) (x.supx d dm)
      rw [hd1, hd2] at T
      have sf : Y.mg ("super" : Str) = none := by
        rcases x.sfree with z | z
        · cases sups with
          | nil => cases dm
          | cons _ _ => cases z
        · exact free _ z
      exact fun e te p1 pos hg he hp => pmk_sup T (He.glo_ok X G g1) sf hr he hg g7 hp.1
    | _ :: _ :: _, g2 => cases g2
  · refine ⟨fun k hk => ?_, own, fun k c hk hc => ?_, fun k hk => ?_, fun k c hk hc => ?_, fun k f hk hf => ?_⟩
    · obtain ⟨p, _, m⟩ := exs k hk
      have := exf k p m
      unfold exsB at this
      simp only [Bool.and_eq_true] at this
      exact excB_ok this.1.1.1.1.2
    · obtain ⟨p, q, m⟩ := exs k hk
      obtain ⟨p', q', m'⟩ := exs c hc
      have := exf k p m
      unfold exsB at this
      simp only [Bool.and_eq_true] at this
      have := List.all_eq_true.mp this.1.1.1.2 _ m'
      simp only [Bool.and_eq_true, decide_eq_true_eq] at this
      have e : t.g.sub k c = p.2.contains c := by
        show (match t.exs.lookup k with
          | some (_, up) => up.contains c
          | none => false) = _
        rw [q]
      rw [e]; exact this.2
    · obtain ⟨p, q, m⟩ := exs k hk
      have := exf k p m
      unfold exsB at this
      simp only [Bool.and_eq_true, decide_eq_true_eq] at this
      have e : t.g.sub k (Str.ofString "ValueError") = p.2.contains (Str.ofString "ValueError") := by
        show (match t.exs.lookup k with
          | some (_, up) => up.contains (Str.ofString "ValueError")
          | none => false) = _
        rw [q]
      rw [e]; exact this.1.1.2
    · obtain ⟨p, q, m⟩ := exs k hk
      obtain ⟨p', q', m'⟩ := exs c hc
      have := exf k p m
      unfold exsB at this
      simp only [Bool.and_eq_true] at this
      have := List.all_eq_true.mp this.1.1.1.2 _ m'
      simp only [Bool.and_eq_true, decide_eq_true_eq] at this
      have e : t.g.sub k c = p.2.contains c := by
        show (match t.exs.lookup k with
          | some (_, up) => up.contains c
          | none => false) = _
        rw [q]
      rw [e]; exact this.1
    · obtain ⟨p, q, m⟩ := exs k hk
      have := exf k p m
      unfold exsB at this
      simp only [Bool.and_eq_true] at this
      exact of_decide_eq_true (List.all_eq_true.mp this.1.2 f (List.contains_iff_mem.mp hf))
  · refine ⟨fun f hf => ?_, fun k m f hm => ?_, fun k hk => ?_, fun f hf => ?_⟩
    · have m := List.contains_iff_mem.mp hf
      obtain ⟨fd, ps, q1, q2, q3⟩ := (x.tops f m).at_ c
      exact ⟨_, fd, ps, He.glo_ok X G (List.all_eq_true.mp h1 f (List.mem_append_left _ m)), q1, q2, q3⟩
    · have m' := lookup_mem hm
      have := List.all_eq_true.mp h6 _ m'
      rw [Bool.and_eq_true] at this
      obtain ⟨fd, ps, q1, q2, q3⟩ := (x.mths _ m').at_ c
      exact ⟨_, fd, ps, He.cls_ok (cls k this.2).2.1, He.meth_ok this.1, q2, q3⟩
    · have m := List.contains_iff_mem.mp hk
      obtain ⟨fd, ps, q1, q2, q3⟩ := (x.inits k m).at_ c
      exact ⟨_, fd, ps, He.glo_ok X G (cls k hk).1, He.mkr_ok (cls k hk).2.2.1, q2, q3⟩
    · have m := List.contains_iff_mem.mp hf
      obtain ⟨fd, ps, q1, q2, q3⟩ := (x.hots f m).at_ c
      exact ⟨_, fd, ps, He.glo_ok X G (List.all_eq_true.mp h1 f (List.mem_append_right _ m)), q1, q2, q3⟩
/-- what may be let out, in whatever world -/
def CXA (P : Program) : CXT := fun outer H s E u s' => ∃ w, L2N.CX P w outer H s E u s'
theorem fnOk_cx {k : Nat} {f : Addr} {fd : FuncData} {ps : List Str} {sp : Sp} (F : FnG P wd K mg base (L2N.CX P wd) k f fd ps sp) : FnG P wd K mg base (CXA P) k f fd ps sp :=
  ⟨F.len, fun A outer s H args us vs Q E hr ng he hb hv hs => codeAny_mono (F.run A outer s H args us vs Q E hr ng he hb hv hs) fun r s' z => by
    cases r with
    | ok fl => cases fl <;> exact z
    | error e => exact ⟨wd, z⟩⟩
/-- the law's def -/
structure LTx (t : Tb) (fn : List He.DefD) : Prop where
  ex : ∃ (i : Nat) (d : He.DefD) (N : List Str) (fd : FD), fn[i]? = some d ∧ d.at_ = (("law" : Str), none) ∧ d.dfl = [] ∧ FnScope N ["script"] d.scope ∧ t.fns.lookup ("law" : Str) = some fd ∧ fd.ns = N.length ∧ fd.np = 1 ∧ okSs t.g N false fd.body d.scope d.body = true ∧
    ∀ (kV doc pm : Value) (an : Option Addr) (cdv ct : Value) (us : List Value), us.length = 1 → bindArgs (PySem.W.fnOf d.name d.qual d.params d.body d.scope .none kV doc pm an cdv ct) ⟨us, []⟩ = pure ((["script"] : List Str).zip us)
theorem LTx.d (x : LTx t fn) : DTx t fn (("law" : Str), none) ("law" : Str) := by
  obtain ⟨i, d, N, fd, h1, h2, h3, h4, h5, h6, h7, h8, h9⟩ := x.ex
  exact ⟨i, d, N, ["script"], fd, h1, h2, h3, h4, h5, h6, h7, h8, h9⟩
/-- the end: what the walk of the law's def is given -/
theorem Tb.law (X : K.In h) (G : h.Ns mainGlobals mg) (c : SaysT t P fn sups K) (x : Txt t P fn sups) (hs : LTx t fn) (hl : t.tops.contains ("law" : Str) = true) {k : Nat} {fa : Addr} (hfa : mg ("law" : Str) = some (.ref fa)) (law : ∀ ns : List Int, ns.length ≤ 63 → ∃ o, callD t.g (k + 1) ("law" : Str) [.scr ns] = .ok (o, .bl true)) :
    ∃ (fdat : FuncData) (sp : Sp), (∀ (s : Shared) (v : Value), BindsTo s fdat ⟨[v], []⟩ [("script", v)]) ∧ (∀ (H : Hp) (a : Addr) (ns : List Int), ns.length ≤ 63 → Only H → SqL K H a (ns.map V.int) → sp [.ref a] H (fun v _ => v = .bl true) fun _ _ _ => False) ∧ ∀ base : Heap, FnG P wd K mg base (CXA P) (k + 1) fa fdat ["script"] sp := by
  obtain ⟨fx, tb, ea, ex, df⟩ := Tb.all (wd := wd) X G c x
  obtain ⟨i, d, N, fd, hi, ha, hd, S, hf, hn, hp, ok, hb⟩ := hs.ex
  obtain ⟨fdat, F⟩ := c.parts.2.1 i d hi
  have e0 : d.dvs K = [] := by unfold He.DefD.dvs; rw [hd]; rfl
  rw [e0, ha] at F
  have B := FunD.bindsA (ps := ["script"]) F hb
  obtain ⟨oc, od, dV, kV, doc, pm, an, cdv, ct, osl, e, lk, hcd, _, _⟩ := F.ex
  have D : DefAt K t.g ("law" : Str) (He.fAd K (("law" : Str), none)) fdat ["script"] := ⟨d.name, d.qual, d.params, d.body, d.scope, dV, kV, doc, pm, cdv, ct, oc, an, od, osl, N, fd, e, e ▸ lk, hcd, S, hf, hn, hp, ok⟩
  have : He.fAd K (("law" : Str), none) = fa := by
    have q := He.glo_ok X G (List.all_eq_true.mp (by
      have hok := c.parts.1
      unfold Tb.ok at hok
      simp only [Bool.and_eq_true] at hok
      exact hok.1.1.1.1.1.1) ("law" : Str) (List.mem_append_left _ (List.contains_iff_mem.mp hl)))
    rw [hfa] at q
    have q := Option.some.inj q
    cases q; rfl
  rw [this] at D
  refine ⟨fdat, spF t.g (t.wr K) (k + 1) ("law" : Str), fun s v => B s [v] rfl, fun H a ns hn hO hS => ?_, fun base => fnOk_cx (fn_at fx tb ea ex (hlv_all fx tb ea ex df) (lv_all (base := base) fx tb ea ex df k).1 D)⟩
  refine ⟨[.scr ns], fun _ => False, fun _ z => z.elim, ⟨.ref a, [], rfl, ⟨a, rfl, ?_⟩, rfl⟩, ?_⟩
  · rcases hS with hS | hS
    · rcases hS with hS | ⟨o, hS⟩
      · rcases hO a with z | ⟨o, xs, z⟩ <;> rw [z] at hS <;> cases hS
      · exact .inl ⟨o, hS⟩
    · exact .inr hS
  · obtain ⟨o, q⟩ := law ns hn
    rw [q]
    intro v H' _ r
    exact r.1
end
end S2

set_option maxHeartbeats 4000000
/-! P1: the evaluator by simp. -/
namespace S2
open PySem
section
variable {g : G} {C : Cal} {env : Env} {a b c e : E} {es : Es} {s : S} {ss : Ss}
@[simp] theorem R.tame_exc {α : Type} (e : D) : (R.exc e : R α).tame = .no := (rfl)
@[simp] theorem R.tame_no {α : Type} : (R.no : R α).tame = .no := (rfl)
@[simp] theorem R.bind_ite {α β : Type} (c : Prop) [Decidable c] (x y : R α) (f : α → R β) : (if c then x else y).bind f = if c then x.bind f else y.bind f := by split <;> rfl
@[simp] theorem R.tame_ite {α : Type} (c : Prop) [Decidable c] (x y : R α) : (if c then x else y).tame = if c then x.tame else y.tame := by split <;> rfl
@[simp] theorem R.to_ite {α : Type} (is : List (Nat × Bool)) (c : Prop) [Decidable c] (x y : R α) (f : α → Out) : (if c then x else y).to is env f = if c then x.to is env f else y.to is env f := by split <;> rfl
@[simp] theorem asB_ok (b : Bool) : asB (.ok b) = .ok (.sh, .bl b) := (rfl)
@[simp] theorem shD_ok (d : D) : shD (.ok d) = .ok (.sh, d) := (rfl)
@[simp] theorem shD_exc (d : D) : shD (.exc d) = .exc d := (rfl)
@[simp] theorem shD_no : shD .no = .no := (rfl)
@[simp] theorem fst1_ok (x : OD) : fst1 (.ok x) = .ok x.2 := (rfl)
@[simp] theorem fst1_exc (d : D) : fst1 (.exc d) = .exc d := (rfl)
@[simp] theorem fst1_no : fst1 .no = .no := (rfl)
@[simp] theorem ownL_ok (d : D) : ownL (.ok d) = .ok (if isLst d = true then .o1 else .sh, d) := by unfold ownL; cases d <;> rfl
@[simp] theorem shD_ite (c : Prop) [Decidable c] (x y : R D) : shD (if c then x else y) = if c then shD x else shD y := by split <;> rfl
@[simp] theorem fst1_ite (c : Prop) [Decidable c] (x y : R OD) : fst1 (if c then x else y) = if c then fst1 x else fst1 y := by split <;> rfl
@[simp] theorem asB_ite (c : Prop) [Decidable c] (x y : R Bool) : asB (if c then x else y) = if c then asB x else asB y := by split <;> rfl
@[simp] theorem ownL_ite (c : Prop) [Decidable c] (x y : R D) : ownL (if c then x else y) = if c then ownL x else ownL y := by split <;> rfl
@[simp] theorem isLst_lst (l : List D) : isLst (.lst l) = true := (rfl)
@[simp] theorem isLst_int (i : Int) : isLst (.int i) = false := (rfl)
@[simp] theorem isLst_bl (i : Bool) : isLst (.bl i) = false := (rfl)
@[simp] theorem isLst_str (i : Str) : isLst (.str i) = false := (rfl)
@[simp] theorem isLst_tup (l : List D) : isLst (.tup l) = false := (rfl)
@[simp] theorem isLst_non : isLst .non = false := (rfl)
@[simp] theorem ev_non : ev g C .non env = .ok (.sh, .non) := by rw [ev] <;> rfl
@[simp] theorem ev_bl (b : Bool) : ev g C (.bl b) env = .ok (.sh, .bl b) := by rw [ev] <;> rfl
@[simp] theorem ev_int (i : Int) : ev g C (.int i) env = .ok (.sh, .int i) := by rw [ev] <;> rfl
@[simp] theorem ev_str (i : Str) : ev g C (.str i) env = .ok (.sh, .str i) := by rw [ev] <;> rfl
@[simp] theorem ev_var (i : Nat) : ev g C (.var i) env = look env i := by rw [ev] <;> rfl
@[simp] theorem ev_g (x : Str) : ev g C (.g x) env = match g.con x with
    | some d => .ok (.sh, d)
    | none => .no := by rw [ev] <;> rfl
@[simp] theorem ev_bin (o : Bop) : ev g C (.bin o a b) env = (ev g C a env).bind fun x => (ev g C b env).bind fun y => ownL (binD o x.2 y.2) := by rw [ev] <;> rfl
@[simp] theorem ev_neg : ev g C (.neg a) env = (ev g C a env).bind fun x => match x.2 with
    | .int i => .ok (.sh, .int (-i))
    | _ => .no := by rw [ev] <;> rfl
@[simp] theorem ev_not : ev g C (.not a) env = (ev g C a env).bind fun x => asB ((truthD x.2).bind fun b => .ok (!b)) := by rw [ev] <;> rfl
@[simp] theorem ev_and : ev g C (.and a b) env = (ev g C a env).bind fun x => (truthD x.2).tame.bind fun k => if k = true then shD (fst1 (ev g C b env)) else .ok (.sh, x.2) := by rw [ev] <;> rfl
@[simp] theorem ev_or : ev g C (.or a b) env = (ev g C a env).bind fun x => (truthD x.2).tame.bind fun k => if k = true then .ok (.sh, x.2) else shD (fst1 (ev g C b env)) := by rw [ev] <;> rfl
@[simp] theorem ev_cmp (o : Cop) : ev g C (.cmp o a b) env = (ev g C a env).bind fun x => (ev g C b env).bind fun y => asB (cmpD o x.2 y.2) := by rw [ev] <;> rfl
@[simp] theorem ev_chain (o p : Cop) : ev g C (.chain o p a b c) env = (ev g C a env).bind fun x => (ev g C b env).bind fun y => (cmpD o x.2 y.2).tame.bind fun k =>
      if k = true then (ev g C c env).bind fun z => asB (cmpD p y.2 z.2) else .ok (.sh, .bl false) := by rw [ev] <;> rfl
@[simp] theorem ev_ife : ev g C (.ife c a b) env = (tst g C c env).bind fun k => if k = true then ev g C a env else ev g C b env := by rw [ev] <;> rfl
@[simp] theorem ev_tup : ev g C (.tup es) env = (evs g C es env).bind fun l => if l.length ≤ szL then .ok (.sh, .tup (l.map (·.2))) else .no := by rw [ev] <;> simp only [decide_eq_true_eq] <;> rfl
@[simp] theorem ev_lst : ev g C (.lst es) env = (evs g C es env).bind fun l => if l.length ≤ szL then .ok (listOwn l, .lst (l.map (·.2))) else .no := by rw [ev] <;> simp only [decide_eq_true_eq] <;> rfl
@[simp] theorem ev_ix : ev g C (.ix a b) env = (ev g C a env).bind fun x => (ev g C b env).bind fun y => shD (ixD x.2 y.2).tame := by rw [ev] <;> rfl
@[simp] theorem ev_sl (lo hi : Eo) : ev g C (.sl a lo hi) env = (ev g C a env).bind fun x => (evo g C lo env).bind fun l => (evo g C hi env).bind fun h => ownL (slD x.2 l h) := by rw [ev] <;> rfl
@[simp] theorem ev_isi (b : Bt) : ev g C (.isi a b) env = (ev g C a env).bind fun x => asB (isiD b x.2) := by rw [ev] <;> rfl
@[simp] theorem ev_isx (i : Nat) (c : Str) : ev g C (.isx i c) env = match env[i]? with
    | some (some (.ex, .ob k _ _)) => if (g.exf k).isSome = true then .ok (.sh, .bl (g.sub k c)) else .no
    | _ => .no := by rw [ev] <;> rfl
@[simp] theorem ev_xfl (i : Nat) (f : Str) : ev g C (.xfl i f) env = match env[i]? with
    | some (some (.ex, .ob k ns vs)) => if (g.exf k).isSome = true then shD (fldD f (.ob k ns vs)).tame else .no
    | _ => .no := by rw [ev] <;> rfl
@[simp] theorem ev_call (f : Str) : ev g C (.call f es) env = (evs g C es env).bind fun l => C.call f (l.map (·.2)) := by rw [ev] <;> rfl
@[simp] theorem ev_bi (f : Bi) : ev g C (.bi f es) env = (evs g C es env).bind fun l => ownL (biD f (l.map (·.2))) := by rw [ev] <;> rfl
@[simp] theorem ev_bm (m : Bm) : ev g C (.bm m a es) env = (ev g C a env).bind fun x => if bmTy m x.2 = true then (evs g C es env).bind fun l => ownL (bmD m x.2 (l.map (·.2))) else .no := by rw [ev] <;> rfl
@[simp] theorem ev_join (z : Str) : ev g C (.join z b) env = (ev g C b env).bind fun x => ownL (bmD .join (.str z) [x.2]) := by rw [ev] <;> rfl
@[simp] theorem ev_new (c : Str) : ev g C (.new c es) env = if C.can = true then (evs g C es env).bind fun l => shD (C.make c (l.map (·.2))) else .no := by rw [ev] <;> rfl
@[simp] theorem ev_me (m : Str) : ev g C (.me m a es) env = (ev g C a env).bind fun x => match whoM g m x.2 with
    | some f => (evs g C es env).bind fun l => C.call f (x.2 :: l.map (·.2))
    | none => .no := by rw [ev] <;> rfl
@[simp] theorem ev_fldv (i : Nat) (f : Str) : ev g C (.fld (.var i) f) env = match env[i]? with
      | some (some (.ex, d)) => .no
      | some (some (_, d)) => shD (fldD f d).tame
      | _ => .no := by rw [ev] <;> rfl
@[simp] theorem listOwn_sh (d : D) (l : List OD) : listOwn ((.sh, d) :: l) = .o1 := (rfl)
@[simp] theorem ev_emp : ev g C .emp env = .ok (.o1, .dct [] []) := by rw [ev] <;> rfl
@[simp] theorem ev_lsv (i : Nat) : ev g C (.lsv i) env = (look env i).bind fun x => if isLst x.2 = true then ownL (biD .list [x.2]) else .no := by rw [ev] <;> rfl
@[simp] theorem ev_rvl : ev g C (.rvl a) env = (ev g C a env).bind fun x => if isLst x.2 = true then ownL (biD .revL [x.2]) else .no := by rw [ev] <;> rfl
@[simp] theorem ev_rvt : ev g C (.rvt a) env = (ev g C a env).bind fun x => ownL (biD .revT [x.2]) := by rw [ev] <;> rfl
@[simp] theorem ev_hsm (i j : Nat) : ev g C (.hsm i j) env = (look env i).bind fun x => match x.2 with
    | .lst l => (match blsOf l with
      | some bs => if bs.length < szL then .ok (.sh, .int (bs.map fun b => if b = true then (1 : Int) else 0).sum) else .no
      | none => .no)
    | _ => .no := by rw [ev] <;> simp only [decide_eq_true_eq] <;> rfl
@[simp] theorem ev_hcall (f : Str) (i : Nat) : ev g C (.hcall f i) env = match env[i]? with
    | some (some (.ex, .ob k ns vs)) => if (g.exf k).isSome = true then C.hot f (.ob k ns vs) else .no
    | _ => .no := by rw [ev] <;> rfl
@[simp] theorem cal_hot (n : Nat) (f : Str) (d : D) : (cal g (n + 1)).hot f d = (hotR g f d).tame := (rfl)
@[simp] theorem ev_lc (elt : E) (tg : Tg) (it : It) (c : Eo) : ev g C (.lc elt tg it c) env = (items g C it env).bind fun xs =>
      (mapC (fun x => match bindT tg x env with
        | none => .no
        | some env' => (tsto g C c env').tame.bind fun k => if k = true then (ev g C elt env').tame.bind fun y => .ok (some y) else .ok none) xs.2).tame.bind fun l =>
      if xs.2.length ≤ szL then .ok (listOwn l, .lst (l.map (·.2))) else .no := by rw [ev] <;> simp only [decide_eq_true_eq] <;> rfl
@[simp] theorem evs_nil : evs g C .nil env = .ok [] := by rw [evs] <;> rfl
@[simp] theorem evs_cons : evs g C (.cons e es) env = (ev g C e env).bind fun x => (evs g C es env).bind fun l => .ok (x :: l) := by rw [evs] <;> rfl
@[simp] theorem evo_none : evo g C .none env = .ok none := by rw [evo] <;> rfl
@[simp] theorem evo_some : evo g C (.some e) env = (ev g C e env).bind fun x => match x.2 with
    | .int i => .ok (some i)
    | _ => .no := by rw [evo] <;> rfl
@[simp] theorem tsto_none : tsto g C .none env = .ok true := by rw [tsto] <;> rfl
@[simp] theorem tsto_some : tsto g C (.some e) env = tst g C e env := by rw [tsto] <;> rfl
@[simp] theorem tst_not : tst g C (.not a) env = (tst g C a env).bind fun b => .ok (!b) := by rw [tst] <;> rfl
@[simp] theorem tst_and : tst g C (.and a b) env = (tst g C a env).bind fun k => if k = true then tst g C b env else .ok false := by rw [tst] <;> rfl
@[simp] theorem tst_or : tst g C (.or a b) env = (tst g C a env).bind fun k => if k = true then .ok true else tst g C b env := by rw [tst] <;> rfl
@[simp] theorem tst_bl (b : Bool) : tst g C (.bl b) env = .ok b := by rw [tst] <;> rfl
@[simp] theorem tst_var (i : Nat) : tst g C (.var i) env = (look env i).bind fun x => (truthD x.2).tame := by rw [tst] <;> rfl
@[simp] theorem tst_cmp (o : Cop) : tst g C (.cmp o a b) env = (ev g C a env).bind fun x => (ev g C b env).bind fun y => (cmpD o x.2 y.2).tame := by rw [tst] <;> rfl
@[simp] theorem tst_chain (o p : Cop) : tst g C (.chain o p a b c) env = (ev g C a env).bind fun x => (ev g C b env).bind fun y => (cmpD o x.2 y.2).tame.bind fun k =>
      if k = true then (ev g C c env).bind fun z => (cmpD p y.2 z.2).tame else .ok false := by rw [tst] <;> rfl
@[simp] theorem tst_isi (b : Bt) : tst g C (.isi a b) env = (ev g C a env).bind fun x => (isiD b x.2).tame := by rw [tst] <;> rfl
@[simp] theorem tst_isx (i : Nat) (c : Str) : tst g C (.isx i c) env = match env[i]? with
    | some (some (.ex, .ob k _ _)) => if (g.exf k).isSome = true then .ok (g.sub k c) else .no
    | _ => .no := by rw [tst] <;> rfl
@[simp] theorem tst_call (f : Str) : tst g C (.call f es) env = ((evs g C es env).bind fun l => C.call f (l.map (·.2))).bind fun x => (truthD x.2).tame := by rw [tst] <;> rfl
@[simp] theorem tst_ix : tst g C (.ix a b) env = ((ev g C a env).bind fun x => (ev g C b env).bind fun y => shD (ixD x.2 y.2).tame).bind fun z => (truthD z.2).tame := by rw [tst] <;> rfl
@[simp] theorem tst_bi (f : Bi) : tst g C (.bi f es) env = ((evs g C es env).bind fun l => ownL (biD f (l.map (·.2)))).bind fun z => (truthD z.2).tame := by rw [tst] <;> rfl
@[simp] theorem items_it : items g C (.it e) env = (ev g C e env).bind fun x => match itD x.2 with
    | some l => .ok (x, l)
    | none => .no := by rw [items] <;> rfl
@[simp] theorem items_rng1 : items g C (.rng1 a) env = (ev g C a env).bind fun x => match x.2 with
    | .int j => (rngD 0 j).bind fun l => .ok ((.sh, .non), l)
    | _ => .no := by rw [items] <;> rfl
@[simp] theorem items_rng2 : items g C (.rng2 a b) env = (ev g C a env).bind fun x => (ev g C b env).bind fun y => match x.2, y.2 with
    | .int i, .int j => (rngD i j).bind fun l => .ok ((.sh, .non), l)
    | _, _ => .no := by rw [items] <;> rfl
@[simp] theorem items_rev : items g C (.rev e) env = (ev g C e env).bind fun x => match seqOf x.2 with
    | some l => .ok (x, l.reverse)
    | none => .no := by rw [items] <;> rfl
/-! statements -/
@[simp] theorem exs_nil : exs g C .nil env = .nx env := by rw [exs] <;> rfl
theorem exs_cons : exs g C (.cons s ss) env = match exS g C s env with
    | .nx env' => exs g C ss env'
    | o => o := by rw [exs] <;> rfl
def Out.seq (o : Out) (f : Env → Out) : Out := match o with
  | .nx env => f env
  | o => o
@[simp] theorem seq_nx (f : Env → Out) : (Out.nx env).seq f = f env := (rfl)
@[simp] theorem seq_ret (o : Own) (d : D) (f : Env → Out) : (Out.ret o d).seq f = .ret o d := (rfl)
@[simp] theorem seq_brk (f : Env → Out) : (Out.brk env).seq f = .brk env := (rfl)
@[simp] theorem seq_ct (f : Env → Out) : (Out.ct env).seq f = .ct env := (rfl)
@[simp] theorem seq_exc (e : D) (f : Env → Out) : (Out.exc env e).seq f = .exc env e := (rfl)
@[simp] theorem seq_no (f : Env → Out) : Out.no.seq f = .no := (rfl)
@[simp] theorem exs_seq : exs g C (.cons s ss) env = (exS g C s env).seq (exs g C ss) := by rw [exs] <;> rfl
@[simp] theorem seq_ite (c : Prop) [Decidable c] (x y : Out) (f : Env → Out) : (if c then x else y).seq f = if c then x.seq f else y.seq f := by split <;> rfl
@[simp] theorem exS_pass : exS g C .pass env = .nx env := by rw [exS] <;> rfl
@[simp] theorem exS_doc : exS g C .doc env = .nx env := by rw [exS] <;> rfl
@[simp] theorem exS_asg (i : Nat) : exS g C (.asg i e) env = (ev g C e env).to (rd e) env fun v => .nx ((aft e v env).set i (some v)) := by rw [exS] <;> rfl
@[simp] theorem exS_tup (is : List Nat) : exS g C (.tup is e) env = (ev g C e env).to (rd e) env fun v => match bindT (.tp is) v.2 (aft e (.sh, v.2) env) with
    | some env' => .nx env'
    | none => .no := by rw [exS] <;> rfl
@[simp] theorem exS_app (x : Nat) : exS g C (.app x e) env = if isL x env = true then (ev g C e env).to (rd e) env fun v => match own1 x (frz [(x, false)] (aft e v env)) with
    | some (_, l) => if l.length < szL then .nx ((frz [(x, false)] (aft e v env)).set x (some (.o1, .lst (l ++ [v.2])))) else .no
    | none => .no else .no := by rw [exS] <;> simp only [decide_eq_true_eq] <;> rfl
@[simp] theorem exS_asgix (x : Nat) (i : E) : exS g C (.asgix x i e) env = (ev g C e env).to (rd e) env fun v => if isL x (aft e v env) = true then (ev g C i (aft e v env)).to (rd i) (aft e v env) fun k => (match k.2 with
    | .int j => (match own1 x (frz [(x, false)] (aft e v env)) with
      | some (_, l) => (match L2.ixN l.length j with
        | some n => .nx ((frz [(x, false)] (aft e v env)).set x (some (.o1, .lst (l.set n v.2))))
        | none => .no)
      | none => .no)
    | _ => .no) else .no := by rw [exS] <;> rfl
@[simp] theorem exS_fld (x : Nat) (f : Str) : exS g C (.fld x f e) env = (ev g C e env).to (rd e) env fun v => match (aft e v env)[x]? with
    | some (some (.oi, .ob c ns vs)) => if ns.length < 900 then .nx ((aft e v env).set x (some (.oi, .ob c (setF f v.2 ns vs).1 (setF f v.2 ns vs).2))) else .no
    | _ => .no := by rw [exS] <;> simp only [decide_eq_true_eq] <;> rfl
theorem exS_appat (x : Nat) (i : E) : exS g C (.appat x i e) env = (match own2 x env with
    | some l => (ev g C i env).to (rd i) env fun k => (match k.2 with
      | .int j => (match L2.ixN l.length j with
        | some n => (match l[n]? with
          | some (.lst m) => (ev g C e env).to (rd e) env fun v => (match own2 x (aft e v env) with
            | some l2 => (match l2[n]? with
              | some (.lst m2) => if decide (m2.length < szL) then .nx ((aft e v env).set x (some (.o2, .lst (l2.set n (.lst (m2 ++ [v.2])))))) else .no
              | _ => .no)
            | none => .no)
          | _ => .no)
        | none => .no)
      | _ => .no)
    | none => .no) := by rw [exS] <;> rfl
@[simp] theorem setF_nil (f : Str) (v : D) (vs : List D) : setF f v [] vs = ([f], [v]) := (rfl)
theorem setF_ne {f n : Str} (h : n ≠ f) (v w : D) (ns : List Str) (vs : List D) : setF f v (n :: ns) (w :: vs) = ((n :: (setF f v ns vs).1), (w :: (setF f v ns vs).2)) := by
  show (if n = f then _ else _) = _
  rw [if_neg h]
@[simp] theorem fldD_ob (f c : Str) (ns : List Str) (vs : List D) : fldD f (.ob c ns vs) = match fldL f ns vs with
    | some d => .ok d
    | none => .no := (rfl)
@[simp] theorem endI_nx (d : D) (r : Env) : endI (.nx (some (.oi, d) :: r)) = .ok d := (rfl)
@[simp] theorem endI_exc (e : D) : endI (.exc env e) = .exc e := (rfl)
@[simp] theorem exS_popd (x : Nat) : exS g C (.popd x .none) env = (match own1 x env with
    | some (_, l) => if l.isEmpty = true then .no else .nx (env.set x (some (.o1, .lst l.dropLast)))
    | none => .no) := by rw [exS] <;> rfl
@[simp] theorem exS_appop (x y : Nat) (i : E) : exS g C (.appop x y (.some i)) env = if (isL x env && isL y env) = true then (ev g C i env).to (rd i) env fun k => popA x y k.2 (frz [(x, false), (y, false)] (aft i k env)) else .no := by rw [exS] <;> rfl
@[simp] theorem exS_rev (x : Nat) : exS g C (.rev x) env = match own1 x (frz [(x, false)] env) with
    | some (_, l) => .nx ((frz [(x, false)] env).set x (some (.o1, .lst l.reverse)))
    | none => .no := by rw [exS] <;> rfl
@[simp] theorem exS_dput (x : Nat) (i : E) : exS g C (.dput x i e) env = (ev g C e env).to (rd e) env fun v => if isDc x (aft e v env) = true then (ev g C i (aft e v env)).to (rd i) (aft e v env) fun k => (match keyK k.2 with
    | some q => (match ownD x (aft e v env) with
      | some (ks, vs) => if (decide (ks.length < szL) && !isTk ks) = true then .nx ((aft e v env).set x (some (.o1, .dct (putKD ks vs q k.2 v.2).1 (putKD ks vs q k.2 v.2).2))) else .no
      | none => .no)
    | none => .no) else .no := by rw [exS] <;> rfl
@[simp] theorem exS_par (i j : Nat) : exS g C (.par i j a b) env = (evs g C (.cons a (.cons b .nil)) env).to (rds (.cons a (.cons b .nil))) env fun l => (match l with
    | [v, u] => if (!hasL v.2 && !hasL u.2) = true then .nx ((env.set i (some (.sh, v.2))).set j (some (.sh, u.2))) else .no
    | _ => .no) := by rw [exS] <;> rfl
@[simp] theorem exS_ex : exS g C (.ex e) env = (ev g C e env).to (rd e) env fun _ => .nx env := by rw [exS] <;> rfl
@[simp] theorem exS_ife (x y : Ss) : exS g C (.ife c x y) env = (tst g C c env).to (rd c) env fun k => if k = true then exs g C x env else exs g C y env := by rw [exS] <;> rfl
@[simp] theorem exS_for (tg : Tg) (it : It) (b : Ss) : exS g C (.for_ tg it b) env = (items g C it env).to (rdi it) env fun xs =>
      forL (fun x env' => match bindT tg x env' with
        | some env2 => exs g C b env2
        | none => .no) xs.2 (aftI (rdi it) xs.1 env) := by rw [exS] <;> rfl
@[simp] theorem exS_while (b : Ss) : exS g C (.while_ c b) env = whileL (rd c) (tst g C c) (exs g C b) wFuel env := by rw [exS] <;> rfl
@[simp] theorem exS_ret : exS g C (.ret e) env = (retV e env (ev g C e env)).to (rd e) env fun v => .ret v.1 v.2 := by rw [exS] <;> rfl
@[simp] theorem exS_retn : exS g C .retn env = .ret .sh .non := by rw [exS] <;> rfl
@[simp] theorem exS_brk : exS g C .brk env = .brk env := by rw [exS] <;> rfl
@[simp] theorem exS_cont : exS g C .cont env = .ct env := by rw [exS] <;> rfl
@[simp] theorem exS_raise (k : Str) : exS g C (.raise_ k es) env = (evs g C es env).to (rds es) env fun l => match g.exf k with
    | some ns => if ns.length = l.length then .exc (frz (rds es) env) (.ob k ns (l.map (·.2))) else .no
    | none => .no := by rw [exS] <;> rfl
@[simp] theorem exS_try (b hb : Ss) (c : Str) (i : Nat) : exS g C (.try_ b (.cons c (some i) hb .nil)) env = match exs g C b env with
    | .exc env' (.ob k ns vs) => if ((g.exf k).isSome && (g.exf c).isSome && noX env') = true then (if g.sub k c = true then unx i (exs g C hb (env'.set i (some (.ex, .ob k ns vs)))) else .exc env' (.ob k ns vs)) else .no
    | .exc _ _ => .no
    | o => o := by rw [exS] <;> rfl
@[simp] theorem exS_tryN (b hb : Ss) (c : Str) : exS g C (.try_ b (.cons c none hb .nil)) env = match exs g C b env with
    | .exc env' (.ob k ns vs) => if ((g.exf k).isSome && (g.exf c).isSome && noX env') = true then (if g.sub k c = true then und (exs g C hb env') else .exc env' (.ob k ns vs)) else .no
    | .exc _ _ => .no
    | o => o := by rw [exS] <;> rfl
@[simp] theorem ev_srk (f : Str) : ev g C (.srk a f) env = (ev g C a env).bind fun x => match x.2 with
    | .lst l => (keysR C.call f l).tame.bind fun ks => if sortOk ks = true then .ok (.o1, .lst (keyed l ks)) else .no
    | _ => .no := by rw [ev] <;> rfl
@[simp] theorem endR_nx : endR (.nx env) = .ok (.sh, .non) := (rfl)
@[simp] theorem endR_ret (o : Own) (d : D) : endR (.ret o d) = .ok (o, d) := (rfl)
@[simp] theorem endR_exc (e : D) : endR (.exc env e) = .exc e := (rfl)
@[simp] theorem endR_ite (c : Prop) [Decidable c] (x y : Out) : endR (if c then x else y) = if c then endR x else endR y := by split <;> rfl
@[simp] theorem cal_call (n : Nat) (f : Str) (l : List D) : (cal g n).call f l = callD g n f l := (rfl)
@[simp] theorem forL_nil (f : D → Env → Out) : forL f [] env = .nx env := (rfl)
@[simp] theorem truth_bl (b : Bool) : truthD (.bl b) = .ok b := (rfl)
@[simp] theorem truth_int (b : Int) : truthD (.int b) = .ok (b != 0) := (rfl)
@[simp] theorem truth_non : truthD .non = .ok false := (rfl)
@[simp] theorem listOwn_nil : listOwn [] = .o1 := (rfl)
@[simp] theorem szL_1 {n : Nat} (h : n ≤ 1000 := by decide) : n ≤ szL := by unfold szL; omega
end
/-! reading and freezing -/
section
variable {g : G} {C : Cal} {env : Env}
@[simp] theorem frz_def (is : List (Nat × Bool)) : frz is env = frzA is 0 env := (rfl)
@[simp] theorem frzA_nil (is : List (Nat × Bool)) (k : Nat) : frzA is k [] = [] := (rfl)
@[simp] theorem frzA_cons (is : List (Nat × Bool)) (k : Nat) (s : Slot) (r : Env) : frzA is k (s :: r) = frzS is k s :: frzA is (k + 1) r := (rfl)
@[simp] theorem frzS_none (is : List (Nat × Bool)) (k : Nat) : frzS is k none = none := (rfl)
@[simp] theorem frzS_sh (is : List (Nat × Bool)) (k : Nat) (d : D) : frzS is k (some (.sh, d)) = some (.sh, d) := (rfl)
@[simp] theorem frzS_ex (is : List (Nat × Bool)) (k : Nat) (d : D) : frzS is k (some (.ex, d)) = some (.ex, d) := (rfl)
@[simp] theorem frzS_oi (is : List (Nat × Bool)) (k : Nat) (d : D) : frzS is k (some (.oi, d)) = some (.oi, d) := (rfl)
@[simp] theorem frzS_o1 (is : List (Nat × Bool)) (k : Nat) (d : D) : frzS is k (some (.o1, d)) = if is.contains (k, true) = true then some (.sh, d) else some (.o1, d) := (rfl)
@[simp] theorem frzS_o2 (is : List (Nat × Bool)) (k : Nat) (d : D) : frzS is k (some (.o2, d)) = if is.contains (k, true) = true then some (.sh, d) else if is.contains (k, false) = true then some (.o1, d) else some (.o2, d) := (rfl)
@[simp] theorem aft_def (e : E) (v : OD) : aft e v env = aftI (rd e) v env := (rfl)
@[simp] theorem aftI_def (is : List (Nat × Bool)) (v : OD) : aftI is v env = if leaks v = true then frz is env else env := (rfl)
@[simp] theorem leaks_sh (d : D) : leaks (.sh, d) = hasL d := (rfl)
@[simp] theorem leaks_o1 (d : D) : leaks (.o1, d) = hasLs (kids d) := (rfl)
@[simp] theorem leaks_o2 (d : D) : leaks (.o2, d) = (kids d).any fun k => hasLs (kids k) := (rfl)
@[simp] theorem kids_lst (l : List D) : kids (.lst l) = l := (rfl)
@[simp] theorem kids_tup (l : List D) : kids (.tup l) = l := (rfl)
@[simp] theorem hasL_int (i : Int) : hasL (.int i) = false := by rw [hasL] <;> simp
@[simp] theorem hasL_bl (i : Bool) : hasL (.bl i) = false := by rw [hasL] <;> simp
@[simp] theorem hasL_str (i : Str) : hasL (.str i) = false := by rw [hasL] <;> simp
@[simp] theorem hasL_non : hasL .non = false := by rw [hasL] <;> simp
@[simp] theorem hasL_tup (l : List D) : hasL (.tup l) = hasLs l := by rw [hasL]
@[simp] theorem hasL_lst (l : List D) : hasL (.lst l) = true := by rw [hasL]
@[simp] theorem hasL_scr (l : List Int) : hasL (.scr l) = false := by rw [hasL] <;> simp
@[simp] theorem hasLs_nil : hasLs [] = false := by rw [hasLs]
@[simp] theorem hasLs_cons (d : D) (l : List D) : hasLs (d :: l) = (hasL d || hasLs l) := by rw [hasLs]
@[simp] theorem look_def (i : Nat) : look env i = match env[i]? with
  | some (some (.oi, _)) => .no
  | some (some (.ex, _)) => .no
  | some (some (_, d)) => .ok (.sh, d)
  | _ => .no := (rfl)
@[simp] theorem bindT_nm (i : Nat) (d : D) : bindT (.nm i) d env = some (env.set i (some (.sh, d))) := (rfl)
@[simp] theorem bindT_tp (is : List Nat) (l : List D) : bindT (.tp is) (.tup l) env = setAll is l env := (rfl)
@[simp] theorem setAll_nil : setAll [] [] env = some env := (rfl)
@[simp] theorem setAll_cons (i : Nat) (is : List Nat) (d : D) (ds : List D) : setAll (i :: is) (d :: ds) env = setAll is ds (env.set i (some (.sh, d))) := (rfl)
@[simp] theorem rd_non : rd .non = [] := by rw [rd] <;> simp
@[simp] theorem rd_emp : rd .emp = [] := by rw [rd] <;> simp
@[simp] theorem rd_bl (b : Bool) : rd (.bl b) = [] := by rw [rd] <;> simp
@[simp] theorem rd_int (b : Int) : rd (.int b) = [] := by rw [rd] <;> simp
@[simp] theorem rd_str (b : Str) : rd (.str b) = [] := by rw [rd] <;> simp
@[simp] theorem rd_g (b : Str) : rd (.g b) = [] := by rw [rd] <;> simp
@[simp] theorem rd_var (i : Nat) : rd (.var i) = [(i, true)] := by rw [rd]
@[simp] theorem rd_bin (o : Bop) (a b : E) : rd (.bin o a b) = rd a ++ rd b := by rw [rd]
@[simp] theorem rd_neg (a : E) : rd (.neg a) = rd a := by rw [rd]
@[simp] theorem rd_not (a : E) : rd (.not a) = rd a := by rw [rd]
@[simp] theorem rd_and (a b : E) : rd (.and a b) = rd a ++ rd b := by rw [rd]
@[simp] theorem rd_or (a b : E) : rd (.or a b) = rd a ++ rd b := by rw [rd]
@[simp] theorem rd_cmp (o : Cop) (a b : E) : rd (.cmp o a b) = rd a ++ rd b := by rw [rd]
@[simp] theorem rd_chain (o p : Cop) (a b c : E) : rd (.chain o p a b c) = rd a ++ (rd b ++ rd c) := by rw [rd]
@[simp] theorem rd_ife (a b c : E) : rd (.ife c a b) = rd c ++ (rd a ++ rd b) := by rw [rd]
@[simp] theorem rd_tup (es : Es) : rd (.tup es) = rds es := by rw [rd]
@[simp] theorem rd_lst (es : Es) : rd (.lst es) = rds es := by rw [rd]
@[simp] theorem rd_ixv (i : Nat) (b : E) : rd (.ix (.var i) b) = [(i, false)] ++ rd b := by rw [rd]
@[simp] theorem rd_ixl (es : Es) (b : E) : rd (.ix (.lst es) b) = rds es ++ rd b := by rw [rd] <;> first | rw [rd] | (intro i h; cases h)
@[simp] theorem rd_sl (a : E) (lo hi : Eo) : rd (.sl a lo hi) = rd a ++ (rdo lo ++ rdo hi) := by rw [rd]
@[simp] theorem rd_isi (a : E) (b : Bt) : rd (.isi a b) = rd a := by rw [rd]
@[simp] theorem rd_isx (i : Nat) (c : Str) : rd (.isx i c) = [(i, false)] := by rw [rd]
@[simp] theorem rd_xfl (i : Nat) (c : Str) : rd (.xfl i c) = [(i, false)] := by rw [rd]
@[simp] theorem rd_hsm (i j : Nat) : rd (.hsm i j) = [(i, true)] := by rw [rd]
@[simp] theorem rd_hcall (f : Str) (i : Nat) : rd (.hcall f i) = [(i, false)] := by rw [rd]
@[simp] theorem rd_join (z : Str) (b : E) : rd (.join z b) = rd b := by rw [rd]
@[simp] theorem rd_new (c : Str) (es : Es) : rd (.new c es) = rds es := by rw [rd]
@[simp] theorem rd_me (m : Str) (a : E) (es : Es) : rd (.me m a es) = rd a ++ rds es := by rw [rd]
@[simp] theorem rd_fldv (i : Nat) (f : Str) : rd (.fld (.var i) f) = [(i, false)] := by rw [rd]
@[simp] theorem rd_lsv (i : Nat) : rd (.lsv i) = [(i, false)] := by rw [rd]
@[simp] theorem rd_rvl (a : E) : rd (.rvl a) = rd a := by rw [rd]
@[simp] theorem rd_rvt (a : E) : rd (.rvt a) = rd a := by rw [rd]
@[simp] theorem rd_bm (m : Bm) (a : E) (es : Es) : rd (.bm m a es) = rd a ++ rds es := by rw [rd]
@[simp] theorem rd_call (f : Str) (es : Es) : rd (.call f es) = rds es := by rw [rd]
@[simp] theorem rd_bi (f : Bi) (es : Es) : rd (.bi f es) = rds es := by rw [rd]
@[simp] theorem rd_lc (elt : E) (tg : Tg) (it : It) (c : Eo) : rd (.lc elt tg it c) = rdi it ++ (rd elt ++ rdo c) := by rw [rd]
@[simp] theorem rds_nil : rds .nil = [] := by rw [rds]
@[simp] theorem rds_cons (e : E) (es : Es) : rds (.cons e es) = rd e ++ rds es := by rw [rds]
@[simp] theorem rdo_none : rdo .none = [] := by rw [rdo]
@[simp] theorem rdo_some (e : E) : rdo (.some e) = rd e := by rw [rdo]
@[simp] theorem rdi_it (e : E) : rdi (.it e) = rd e := by rw [rdi]
@[simp] theorem rdi_rng1 (e : E) : rdi (.rng1 e) = rd e := by rw [rdi]
@[simp] theorem rdi_rng2 (e f : E) : rdi (.rng2 e f) = rd e ++ rd f := by rw [rdi]
@[simp] theorem rdi_rev (e : E) : rdi (.rev e) = rd e := by rw [rdi]
@[simp] theorem retV_var (i : Nat) (r : R OD) : retV (.var i) env r = match env[i]? with
    | some (some (.oi, _)) => .no
    | some (some (.ex, _)) => .no
    | some (some (o, d)) => .ok (o, d)
    | _ => .no := (rfl)
theorem retV_of {e : E} (h : ∀ i, e ≠ .var i) (r : R OD) : retV e env r = r := by cases e <;> first | rfl | exact absurd rfl (h _)
@[simp] theorem retV_tup (es : Es) (r : R OD) : retV (.tup es) env r = r := (rfl)
@[simp] theorem retV_bl (b : Bool) (r : R OD) : retV (.bl b) env r = r := (rfl)
@[simp] theorem retV_int (b : Int) (r : R OD) : retV (.int b) env r = r := (rfl)
@[simp] theorem retV_non (r : R OD) : retV .non env r = r := (rfl)
@[simp] theorem retV_str (b : Str) (r : R OD) : retV (.str b) env r = r := (rfl)
@[simp] theorem retV_and (a b : E) (r : R OD) : retV (.and a b) env r = r := (rfl)
@[simp] theorem retV_or (a b : E) (r : R OD) : retV (.or a b) env r = r := (rfl)
@[simp] theorem retV_not (a : E) (r : R OD) : retV (.not a) env r = r := (rfl)
@[simp] theorem retV_neg (a : E) (r : R OD) : retV (.neg a) env r = r := (rfl)
@[simp] theorem retV_cmp (o : Cop) (a b : E) (r : R OD) : retV (.cmp o a b) env r = r := (rfl)
@[simp] theorem retV_chain (o p : Cop) (a b c : E) (r : R OD) : retV (.chain o p a b c) env r = r := (rfl)
@[simp] theorem retV_bin (o : Bop) (a b : E) (r : R OD) : retV (.bin o a b) env r = r := (rfl)
@[simp] theorem retV_call (f : Str) (es : Es) (r : R OD) : retV (.call f es) env r = r := (rfl)
@[simp] theorem retV_bm (m : Bm) (a : E) (es : Es) (r : R OD) : retV (.bm m a es) env r = r := (rfl)
@[simp] theorem retV_join (z : Str) (b : E) (r : R OD) : retV (.join z b) env r = r := (rfl)
@[simp] theorem retV_new (c : Str) (es : Es) (r : R OD) : retV (.new c es) env r = r := (rfl)
@[simp] theorem retV_me (m : Str) (a : E) (es : Es) (r : R OD) : retV (.me m a es) env r = r := (rfl)
@[simp] theorem retV_fld (a : E) (f : Str) (r : R OD) : retV (.fld a f) env r = r := (rfl)
@[simp] theorem retV_sl (a : E) (lo hi : Eo) (r : R OD) : retV (.sl a lo hi) env r = r := (rfl)
@[simp] theorem retV_emp (r : R OD) : retV .emp env r = r := (rfl)
@[simp] theorem retV_lsv (i : Nat) (r : R OD) : retV (.lsv i) env r = r := (rfl)
@[simp] theorem retV_rvl (a : E) (r : R OD) : retV (.rvl a) env r = r := (rfl)
@[simp] theorem retV_rvt (a : E) (r : R OD) : retV (.rvt a) env r = r := (rfl)
@[simp] theorem retV_hsm (i j : Nat) (r : R OD) : retV (.hsm i j) env r = r := (rfl)
@[simp] theorem retV_hcall (f : Str) (i : Nat) (r : R OD) : retV (.hcall f i) env r = r := (rfl)
@[simp] theorem retV_bi (f : Bi) (es : Es) (r : R OD) : retV (.bi f es) env r = r := (rfl)
@[simp] theorem retV_ix (a b : E) (r : R OD) : retV (.ix a b) env r = r := (rfl)
@[simp] theorem retV_lst (es : Es) (r : R OD) : retV (.lst es) env r = r := (rfl)
@[simp] theorem retV_ife (a b c : E) (r : R OD) : retV (.ife a b c) env r = r := (rfl)
@[simp] theorem retV_lc (elt : E) (tg : Tg) (it : It) (c : Eo) (r : R OD) : retV (.lc elt tg it c) env r = r := (rfl)
@[simp] theorem isi_int_non  : isiD .int .non = .ok false := (rfl)
@[simp] theorem isi_int_bl (x : Bool) : isiD .int (.bl x) = .ok true := (rfl)
@[simp] theorem isi_int_int (x : Int) : isiD .int (.int x) = .ok true := (rfl)
@[simp] theorem isi_int_str (x : Str) : isiD .int (.str x) = .ok false := (rfl)
@[simp] theorem isi_int_tup (x : List D) : isiD .int (.tup x) = .ok false := (rfl)
@[simp] theorem isi_int_lst (x : List D) : isiD .int (.lst x) = .ok false := (rfl)
@[simp] theorem isi_int_scr (x : List Int) : isiD .int (.scr x) = .ok false := (rfl)
@[simp] theorem isi_str_non  : isiD .str .non = .ok false := (rfl)
@[simp] theorem isi_str_bl (x : Bool) : isiD .str (.bl x) = .ok false := (rfl)
@[simp] theorem isi_str_int (x : Int) : isiD .str (.int x) = .ok false := (rfl)
@[simp] theorem isi_str_str (x : Str) : isiD .str (.str x) = .ok true := (rfl)
@[simp] theorem isi_str_tup (x : List D) : isiD .str (.tup x) = .ok false := (rfl)
@[simp] theorem isi_str_lst (x : List D) : isiD .str (.lst x) = .ok false := (rfl)
@[simp] theorem isi_str_scr (x : List Int) : isiD .str (.scr x) = .ok false := (rfl)
@[simp] theorem isi_bool_non  : isiD .bool .non = .ok false := (rfl)
@[simp] theorem isi_bool_bl (x : Bool) : isiD .bool (.bl x) = .ok true := (rfl)
@[simp] theorem isi_bool_int (x : Int) : isiD .bool (.int x) = .ok false := (rfl)
@[simp] theorem isi_bool_str (x : Str) : isiD .bool (.str x) = .ok false := (rfl)
@[simp] theorem isi_bool_tup (x : List D) : isiD .bool (.tup x) = .ok false := (rfl)
@[simp] theorem isi_bool_lst (x : List D) : isiD .bool (.lst x) = .ok false := (rfl)
@[simp] theorem isi_bool_scr (x : List Int) : isiD .bool (.scr x) = .ok false := (rfl)
@[simp] theorem isi_tuple_non  : isiD .tuple .non = .ok false := (rfl)
@[simp] theorem isi_tuple_bl (x : Bool) : isiD .tuple (.bl x) = .ok false := (rfl)
@[simp] theorem isi_tuple_int (x : Int) : isiD .tuple (.int x) = .ok false := (rfl)
@[simp] theorem isi_tuple_str (x : Str) : isiD .tuple (.str x) = .ok false := (rfl)
@[simp] theorem isi_tuple_tup (x : List D) : isiD .tuple (.tup x) = .ok true := (rfl)
@[simp] theorem isi_tuple_lst (x : List D) : isiD .tuple (.lst x) = .ok false := (rfl)
@[simp] theorem isi_tuple_scr (x : List Int) : isiD .tuple (.scr x) = .ok false := (rfl)
@[simp] theorem isi_list_non  : isiD .list .non = .ok false := (rfl)
@[simp] theorem isi_list_bl (x : Bool) : isiD .list (.bl x) = .ok false := (rfl)
@[simp] theorem isi_list_int (x : Int) : isiD .list (.int x) = .ok false := (rfl)
@[simp] theorem isi_list_str (x : Str) : isiD .list (.str x) = .ok false := (rfl)
@[simp] theorem isi_list_tup (x : List D) : isiD .list (.tup x) = .ok false := (rfl)
@[simp] theorem isi_list_lst (x : List D) : isiD .list (.lst x) = .ok true := (rfl)
@[simp] theorem isi_list_scr (x : List Int) : isiD .list (.scr x) = .ok true := (rfl)
end
/-! ### values -/
section
@[simp] theorem W_alike_ii (i j : Int) : W.alike (.int i) (.int j) = true := (rfl)
@[simp] theorem py_int (i : Int) : py (.int i) = .int i := by rw [py] <;> rfl
@[simp] theorem py_bl (i : Bool) : py (.bl i) = .bool i := by rw [py] <;> rfl
@[simp] theorem py_str (i : Str) : py (.str i) = .str i := by rw [py] <;> rfl
@[simp] theorem py_non : py .non = .none := by rw [py] <;> rfl
@[simp] theorem py_tup (l : List D) : py (.tup l) = .tuple (pys l) := by rw [py] <;> rfl
@[simp] theorem pys_nil : pys [] = [] := by rw [pys] <;> rfl
@[simp] theorem pys_cons (d : D) (l : List D) : pys (d :: l) = py d :: pys l := by rw [pys] <;> rfl
@[simp] theorem plainB_int (i : Int) : plainB (.int i) = true := by unfold plainB; rw [py_int]; rfl
@[simp] theorem plainB_bl (i : Bool) : plainB (.bl i) = true := by unfold plainB; rw [py_bl]; rfl
@[simp] theorem plainB_str (i : Str) : plainB (.str i) = true := by unfold plainB; rw [py_str]; rfl
@[simp] theorem plainB_non : plainB .non = true := by unfold plainB; rw [py_non]; rfl
@[simp] theorem dataLt_ii (i j : Int) : W.dataLt (.int i) (.int j) = decide (i < j) := W.dataLt_int i j
@[simp] theorem lt_ii (i j : Int) : cmpD .lt (.int i) (.int j) = .ok (decide (i < j)) := by
  simp only [cmpD, ltD]
  simp [isNonD]
@[simp] theorem gt_ii (i j : Int) : cmpD .gt (.int i) (.int j) = .ok (decide (j < i)) := by
  simp only [cmpD]
  simp [isNonD]
@[simp] theorem le_ii (i j : Int) : cmpD .le (.int i) (.int j) = .ok (decide (i ≤ j)) := by
  simp only [cmpD, nltD]
  simp [isNonD]
  by_cases h : j < i
  · have : ¬ i ≤ j := by omega
    simp [h, this]
  · have : i ≤ j := by omega
    simp [h, this]
@[simp] theorem ge_ii (i j : Int) : cmpD .ge (.int i) (.int j) = .ok (decide (j ≤ i)) := by
  simp only [cmpD]
  simp [isNonD]
  by_cases h : i < j
  · have : ¬ j ≤ i := by omega
    simp [h, this]
  · have : j ≤ i := by omega
    simp [h, this]
@[simp] theorem eq_ii (i j : Int) : cmpD .eq (.int i) (.int j) = .ok (decide (i = j)) := by
  simp only [cmpD, eqD, scV]
  simp [L2.scal]
@[simp] theorem eq_ss (i j : Str) : cmpD .eq (.str i) (.str j) = .ok (decide (i = j)) := by
  simp only [cmpD, eqD, scV]
  simp [L2.scal]
@[simp] theorem eq_bb (i j : Bool) : cmpD .eq (.bl i) (.bl j) = .ok (decide (i = j)) := by
  simp only [cmpD, eqD, scV]
  simp [L2.scal]
theorem ne_of (a b : D) : cmpD .ne a b = (cmpD .eq a b).bind fun c => .ok (!c) := (rfl)
@[simp] theorem ne_ii (i j : Int) : cmpD .ne (.int i) (.int j) = .ok (decide (i ≠ j)) := by rw [ne_of, eq_ii]; simp
@[simp] theorem ne_bb (i j : Bool) : cmpD .ne (.bl i) (.bl j) = .ok (decide (i ≠ j)) := by rw [ne_of, eq_bb]; simp
@[simp] theorem is_n (a : D) : cmpD .is_ a .non = .ok (isNonD a) := by cases a <;> rfl
@[simp] theorem isnot_n (a : D) : cmpD .isnot a .non = .ok (!isNonD a) := by cases a <;> rfl
@[simp] theorem add_ii (i j : Int) : binD .add (.int i) (.int j) = .ok (.int (i + j)) := (rfl)
@[simp] theorem sub_ii (i j : Int) : binD .sub (.int i) (.int j) = .ok (.int (i - j)) := (rfl)
theorem mul_ii (i j : Int) (h : mulOk i j = true) : binD .mul (.int i) (.int j) = .ok (.int (i * j)) := by simp only [binD, mulD, h, if_true]
theorem mod_ii (i j : Int) (h : 0 < j) : binD .mod (.int i) (.int j) = .ok (.int (i % j)) := by simp only [binD, decide_eq_true h, if_true]
theorem div_ii (i j : Int) (h : 0 < j) (h2 : j < 1073741824) : binD .fdiv (.int i) (.int j) = .ok (.int (i / j)) := by simp only [binD, decide_eq_true h, absLe_of (show -((1073741823 : Nat) : Int) ≤ j by omega) (show j ≤ (1073741823 : Nat) by omega)]; rfl
@[simp] theorem add_tt (a b : List D) : binD .add (.tup a) (.tup b) = if a.length + b.length ≤ szL then .ok (.tup (a ++ b)) else .no := by
  simp only [binD, addD, decide_eq_true_eq]
@[simp] theorem add_ll (a b : List D) : binD .add (.lst a) (.lst b) = if a.length + b.length ≤ szL then .ok (.lst (a ++ b)) else .no := by
  simp only [binD, addD, decide_eq_true_eq]
@[simp] theorem len_dct (ks vs : List D) : biD .len [.dct ks vs] = if isTk ks = true then .no else .ok (.int ks.length) := (rfl)
@[simp] theorem len_tup (l : List D) : biD .len [.tup l] = .ok (.int l.length) := (rfl)
@[simp] theorem len_lst (l : List D) : biD .len [.lst l] = .ok (.int l.length) := (rfl)
@[simp] theorem len_scr (l : List Int) : biD .len [.scr l] = .ok (.int l.length) := (rfl)
@[simp] theorem int_int (i : Int) : biD .int [.int i] = .ok (.int i) := (rfl)
@[simp] theorem tuple_lst (l : List D) : biD .tuple [.lst l] = .ok (.tup l) := (rfl)
@[simp] theorem tuple_tup (l : List D) : biD .tuple [.tup l] = .ok (.tup l) := (rfl)
@[simp] theorem list_tup (l : List D) : biD .list [.tup l] = .ok (.lst l) := (rfl)
@[simp] theorem list_lst (l : List D) : biD .list [.lst l] = .ok (.lst l) := (rfl)
@[simp] theorem abs_i (i : Int) : biD .abs [.int i] = .ok (.int (if i < 0 then -i else i)) := (rfl)
@[simp] theorem max_ii (i j : Int) : biD .max [.int i, .int j] = .ok (.int (if j > i then j else i)) := (rfl)
@[simp] theorem max_l (l : List D) : biD .max [.lst l] = match intsOf l with
  | some (x :: is) => .ok (.int (is.foldl max x))
  | _ => maxR l := (rfl)
@[simp] theorem max_t (l : List D) : biD .max [.tup l] = match intsOf l with
  | some (x :: is) => .ok (.int (is.foldl max x))
  | _ => maxR l := (rfl)
@[simp] theorem min_l (l : List D) : biD .min [.lst l] = match intsOf l with
  | some (x :: is) => .ok (.int (is.foldl min x))
  | _ => minR l := (rfl)
@[simp] theorem min_t (l : List D) : biD .min [.tup l] = match intsOf l with
  | some (x :: is) => .ok (.int (is.foldl min x))
  | _ => minR l := (rfl)
@[simp] theorem maxd_i (l : List D) (k : Int) : biD .maxd [.lst l, .int k] = match intsOf l with
  | some (x :: is) => .ok (.int (is.foldl max x))
  | some [] => .ok (.int k)
  | none => maxR l := (rfl)
@[simp] theorem mind_n (l : List D) : biD .mind [.lst l, .non] = match intsOf l with
  | some (x :: is) => .ok (.int (is.foldl min x))
  | some [] => .ok .non
  | none => minR l := (rfl)
@[simp] theorem min_ii (i j : Int) : biD .min [.int i, .int j] = .ok (.int (if j < i then j else i)) := (rfl)
@[simp] theorem itD_tup (l : List D) : itD (.tup l) = some l := (rfl)
@[simp] theorem itD_lst (l : List D) : itD (.lst l) = some l := (rfl)
@[simp] theorem ixD_tup (l : List D) (i : Int) : ixD (.tup l) (.int i) = match L2.atI l i with
  | some d => .ok d
  | none => .no := (rfl)
@[simp] theorem ixD_lst (l : List D) (i : Int) : ixD (.lst l) (.int i) = match L2.atI l i with
  | some d => .ok d
  | none => .no := (rfl)
@[simp] theorem ixD_scr (l : List Int) (i : Int) : ixD (.scr l) (.int i) = match L2.atI l i with
  | some d => .ok (.int d)
  | none => .no := (rfl)
end
end S2

set_option maxHeartbeats 1000000
/-! P2: loops, lists of numbers. -/
namespace S2
open PySem
/-- the loop is left there -/
def Out.stop : Out → Bool
  | .ret _ _ => true
  | .exc _ _ => true
  | _ => false
theorem forL_ind {f : D → Env → Out} {Post : Out → Prop} (Inv : List D → Env → Prop) (step : ∀ x r env, Inv (x :: r) env → (∃ env', (f x env = .nx env' ∨ f x env = .ct env') ∧ Inv r env') ∨ (∃ env', f x env = .brk env' ∧ Post (.nx env')) ∨ ((f x env).stop = true ∧ Post (f x env)))
    (hend : ∀ env, Inv [] env → Post (.nx env)) : ∀ (l : List D) (env : Env), Inv l env → Post (forL f l env)
  | [], env, h => hend env h
  | x :: r, env, h => by
    rcases step x r env h with ⟨env', e, i⟩ | ⟨env', e, p⟩ | ⟨e, p⟩
    · have : forL f (x :: r) env = forL f r env' := by
        rw [forL]
        rcases e with e | e <;> rw [e]
      rw [this]
      exact forL_ind Inv step hend r env' i
    · have : forL f (x :: r) env = .nx env' := by rw [forL, e]
      rw [this]; exact p
    · have : forL f (x :: r) env = f x env := by
        rw [forL]
        cases q : f x env <;> rw [q] at e <;> first | rfl | cases e
      rw [this]; exact p
theorem upto_zero (n : Nat) : upto 0 n = (List.range' 0 n).map fun k : Nat => D.int k := by
  unfold upto
  rw [List.range_eq_range']
  exact List.map_congr_left fun a _ => by simp
/-- for k in range(n) -/
theorem forL_up {f : D → Env → Out} {Post : Out → Prop} {n : Nat} {env : Env} (Inv : Nat → Env → Prop) (h0 : Inv 0 env) (step : ∀ k env, k < n → Inv k env → (∃ env', (f (.int k) env = .nx env' ∨ f (.int k) env = .ct env') ∧ Inv (k + 1) env') ∨ (∃ env', f (.int k) env = .brk env' ∧ Post (.nx env')) ∨ ((f (.int k) env).stop = true ∧ Post (f (.int k) env)))
    (hend : ∀ env, Inv n env → Post (.nx env)) : Post (forL f (upto 0 n) env) := by
  refine forL_ind (fun r env => ∃ k m, r = (List.range' k m).map (fun k : Nat => D.int k) ∧ k + m = n ∧ Inv k env) (fun x r env ⟨k, m, e, hm, i⟩ => ?_) (fun env ⟨k, m, e, hm, i⟩ => ?_) _ _ ⟨0, n, upto_zero n, by omega, h0⟩
  · cases m with
    | zero => cases e
    | succ m =>
      rw [List.range'_succ, List.map_cons] at e
      injection e with e1 e2
      subst e1
      rcases step k env (by omega) i with ⟨env', e, i'⟩ | h | h
      · exact .inl ⟨env', e, k + 1, m, e2, by omega, i'⟩
      · exact .inr (.inl h)
      · exact .inr (.inr h)
  · cases m with
    | zero =>
      have : k = n := by omega
      subst this
      exact hend env i
    | succ m => rw [List.range'_succ, List.map_cons] at e; cases e
theorem rng_up {j : Int} (h0 : 0 ≤ j) (h1 : j ≤ 1000000) : rngD 0 j = .ok (upto 0 j.toNat) := by
  have e1 : small62 j = true := absLe_of (by omega) (by omega)
  have e2 : small62 0 = true := rfl
  unfold rngD
  rw [e1, e2, Int.sub_zero]
  rfl
theorem rng_nat {j : Nat} (h1 : j ≤ 1000000) : rngD 0 (j : Int) = .ok (upto 0 j) := by
  rw [rng_up (Int.natCast_nonneg j) (by omega), Int.toNat_natCast]
theorem atI_nat {α : Type} {l : List α} {k : Nat} (h : k < l.length) : L2.atI l (k : Int) = some (l[k]) := by
  unfold L2.atI L2.ixN
  have h1 : (0 : Int) ≤ k := by omega
  have h2 : (k : Int) < l.length := by omega
  rw [if_pos h1, if_pos h2]
  simp [h]
theorem atI_int {α : Type} {l : List α} {k : Int} (h0 : 0 ≤ k) (h : k < l.length) : ∃ h2, L2.atI l k = some (l[k.toNat]'h2) := by
  have h2 : k.toNat < l.length := by omega
  refine ⟨h2, ?_⟩
  have := atI_nat (l := l) (k := k.toNat) h2
  rwa [Int.toNat_of_nonneg h0] at this
theorem atI_mem {α : Type} {l : List α} {k : Int} (h0 : 0 ≤ k) (h : k < l.length) : ∃ x ∈ l, L2.atI l k = some x := by
  obtain ⟨h2, e⟩ := atI_int h0 h
  exact ⟨_, List.getElem_mem h2, e⟩
theorem ixN_int {n : Nat} {k : Int} (h0 : 0 ≤ k) (h : k < n) : L2.ixN n k = some k.toNat := by
  unfold L2.ixN
  rw [if_pos h0, if_pos h]
theorem mulOk_l {i j : Int} (h1 : -18446744073709551615 ≤ i) (h2 : i ≤ 18446744073709551615) : mulOk i j = true := by
  unfold mulOk
  rw [absLe_of (n := 18446744073709551615) (by omega) (by omega)]
  rfl
theorem mulOk_r {i j : Int} (h1 : -18446744073709551615 ≤ j) (h2 : j ≤ 18446744073709551615) : mulOk i j = true := by
  unfold mulOk
  rw [absLe_of (i := j) (n := 18446744073709551615) (by omega) (by omega), Bool.or_true]
@[simp] theorem own1_get {x : Nat} {env : Env} : own1 x env = match env[x]? with
  | some (some (.o1, .lst l)) => some (.o1, l)
  | _ => none := rfl
@[simp] theorem isL_get {x : Nat} {env : Env} : isL x env = match env[x]? with
  | some (some (.o1, .lst _)) => true
  | some (some (.o2, .lst _)) => true
  | _ => false := rfl
@[simp] theorem hasLs_ints : ∀ l : List Int, hasLs (l.map .int) = false
  | [] => hasLs_nil
  | i :: l => by rw [List.map_cons, hasLs_cons, hasL_int, hasLs_ints l]; rfl
theorem szL_ne : szL ≠ 0 := by unfold szL; decide
theorem szL_of {n : Nat} (h : n ≤ 1000000) : n ≤ szL := by unfold szL; omega
theorem szL_lt {n : Nat} (h : n ≤ 1000000) : n < szL := by unfold szL; omega
end S2

set_option maxHeartbeats 1000000
/-! P3: strings as lists of signs, comprehensions and loops by what holds of their items. -/
namespace S2
open PySem
/-- the text of these signs -/
def sg (l : List Nat) : Str := ⟨l.toArray⟩
theorem sg_of (s : Str) : s = sg s.cps.toList := by cases s; simp [sg]
theorem str_ex (s : Str) : ∃ l, s = sg l := ⟨_, sg_of s⟩
@[simp] theorem sg_cps (l : List Nat) : (sg l).cps.toList = l := by simp [sg]
@[simp] theorem sg_len (l : List Nat) : (sg l).length = l.length := by simp [sg, Str.length]
theorem sg_inj {a b : List Nat} (h : sg a = sg b) : a = b := by rw [← sg_cps a, h, sg_cps]
@[simp] theorem sg_eq (a b : List Nat) : (sg a = sg b) = (a = b) := propext ⟨sg_inj, fun h => by rw [h]⟩
theorem sg_app (a b : List Nat) : sg a ++ sg b = sg (a ++ b) := by
  show Str.append (sg a) (sg b) = _
  simp [Str.append, sg]
theorem len_str {l : List Nat} (h : l.length ≤ 1000000) : biD .len [.str (sg l)] = .ok (.int l.length) := by
  show (if (sg l).length ≤ szL then _ else _) = _
  rw [sg_len, if_pos (szL_of h)]
theorem add_str {a b : List Nat} (h : a.length + b.length ≤ 1000000) : binD .add (.str (sg a)) (.str (sg b)) = .ok (.str (sg (a ++ b))) := by
  show (if (sg a).length + (sg b).length ≤ szL then R.ok (D.str (sg a ++ sg b)) else _) = _
  rw [sg_len, sg_len, if_pos (szL_of h), sg_app]
theorem itD_str (l : List Nat) : itD (.str (sg l)) = some (l.map fun c => .str (sg [c])) := by
  show some ((sg l).cps.toList.map fun c => D.str ⟨#[c]⟩) = _
  rw [sg_cps]
  rfl
theorem ix_str {l : List Nat} {i : Int} {c : Nat} (h : l.length ≤ 1000000) (e : L2.atI l i = some c) : ixD (.str (sg l)) (.int i) = .ok (.str (sg [c])) := by
  show (if (sg l).length ≤ szL then (match L2.atI (sg l).cps.toList i with
    | some c => R.ok (D.str ⟨#[c]⟩)
    | none => .no) else .no) = _
  rw [sg_len, if_pos (szL_of h), sg_cps, e]
  rfl
theorem sl_str {l : List Nat} {lo hi : Option Int} (h : l.length ≤ 1000000) : slD (.str (sg l)) lo hi = .ok (.str (sg (cut l lo hi))) := by
  show (if (sg l).length ≤ szL then R.ok (D.str ⟨(cut (sg l).cps.toList lo hi).toArray⟩) else _) = _
  rw [sg_len, if_pos (szL_of h), sg_cps]
  rfl
theorem in_chr (c : Nat) (l : List Nat) : cmpD .in_ (.str (sg [c])) (.str (sg l)) = .ok (decide (c ∈ l)) := by
  show R.ok (!(Builtin.Str.occurrences (sg l) ⟨#[c]⟩ 0 (sg l).length 1).isEmpty) = _
  rw [StrLaws.found_one, sg_cps]
theorem notin_chr (c : Nat) (l : List Nat) : cmpD .notin (.str (sg [c])) (.str (sg l)) = .ok (!decide (c ∈ l)) := by
  have e : cmpD .notin (.str (sg [c])) (.str (sg l)) = (inD (.str (sg [c])) (.str (sg l))).bind fun c => .ok (!c) := rfl
  rw [e, show inD (.str (sg [c])) (.str (sg l)) = .ok (decide (c ∈ l)) from in_chr c l]
  rfl
theorem add_tup {a b : List D} (h : a.length + b.length ≤ 1000000) : binD .add (.tup a) (.tup b) = .ok (.tup (a ++ b)) := by rw [add_tt, if_pos (szL_of h)]
theorem add_lst {a b : List D} (h : a.length + b.length ≤ 1000000) : binD .add (.lst a) (.lst b) = .ok (.lst (a ++ b)) := by rw [add_ll, if_pos (szL_of h)]
theorem slD_tup (l : List D) (lo hi : Option Int) : slD (.tup l) lo hi = .ok (.tup (cut l lo hi)) := rfl
theorem slD_lst (l : List D) (lo hi : Option Int) : slD (.lst l) lo hi = .ok (.lst (cut l lo hi)) := rfl
theorem cut_mem {α : Type} {l : List α} {lo hi : Option Int} {x : α} (h : x ∈ cut l lo hi) : x ∈ l := List.mem_of_mem_drop (List.mem_of_mem_take h)
theorem cut_len {α : Type} (l : List α) (lo hi : Option Int) : (cut l lo hi).length ≤ l.length := by
  unfold cut
  rw [List.length_take, List.length_drop]
  omega
/-- "".join -/
theorem strs_map (ls : List (List Nat)) : strsOf (ls.map fun l => D.str (sg l)) = some (ls.map sg) := by
  induction ls with
  | nil => rfl
  | cons a r ih =>
    rw [List.map_cons]
    show (strsOf (r.map fun l => D.str (sg l))).map (sg a :: ·) = _
    rw [ih]
    rfl
theorem join_nil_sg : ∀ ls : List (List Nat), Str.join ⟨#[]⟩ (ls.map sg) = sg ls.flatten
  | [] => rfl
  | [a] => by show sg a = _; simp
  | a :: b :: r => by
    show sg a ++ (⟨#[]⟩ : Str) ++ Str.join ⟨#[]⟩ ((b :: r).map sg) = _
    rw [join_nil_sg (b :: r), show (⟨#[]⟩ : Str) = sg [] from rfl, sg_app, sg_app]
    simp
theorem sum_sg (ls : List (List Nat)) : ((ls.map sg).map (fun s : Str => s.length)).sum = ls.flatten.length := by
  induction ls with
  | nil => rfl
  | cons a r ih => rw [List.map_cons, List.map_cons, List.sum_cons, ih, List.flatten_cons, List.length_append, sg_len]
theorem join_ok {d : D} (ls : List (List Nat)) (hd : seqOf d = some (ls.map fun l => D.str (sg l))) (h : ls.flatten.length ≤ 1000000) : bmD .join (.str (sg [])) [d] = .ok (.str (sg ls.flatten)) := by
  show (match seqOf d with
    | some l => (match strsOf l with
      | some ss => if decide ((ss.map fun s : Str => s.length).sum + ss.length * (sg []).length ≤ 16777216) = true then R.ok (D.str (Txt.join (sg []) ss)) else .no
      | none => .no)
    | none => .no) = _
  rw [hd]
  show (match strsOf (ls.map fun l => D.str (sg l)) with
      | some ss => if decide ((ss.map fun s : Str => s.length).sum + ss.length * (sg []).length ≤ 16777216) = true then R.ok (D.str (Txt.join (sg []) ss)) else .no
      | none => .no) = _
  rw [strs_map]
  show (if decide (((ls.map sg).map fun s : Str => s.length).sum + (ls.map sg).length * (sg []).length ≤ 16777216) = true then R.ok (D.str (Txt.join (sg []) (ls.map sg))) else .no) = _
  have e : Txt.join (sg []) (ls.map sg) = sg ls.flatten := by
    show Builtin.Str.glued (sg []) (ls.map sg) = _
    rw [StrLaws.glued_eq_join]
    exact join_nil_sg ls
  rw [sum_sg, e, sg_len, List.length_nil, Nat.mul_zero, Nat.add_zero, if_pos (decide_eq_true (by omega))]
/-- a text of at most m signs -/
def Sh (m : Nat) (d : D) : Prop := ∃ l, d = .str (sg l) ∧ l.length ≤ m
theorem Sh.mono {m k : Nat} {d : D} (h : Sh m d) (e : m ≤ k) : Sh k d := let ⟨l, a, b⟩ := h; ⟨l, a, Nat.le_trans b e⟩
theorem shs_ex {m : Nat} : ∀ {ds : List D}, (∀ d ∈ ds, Sh m d) → ∃ ls : List (List Nat), ds = ls.map (fun l => .str (sg l)) ∧ ∀ l ∈ ls, l.length ≤ m
  | [], _ => ⟨[], rfl, fun _ h => absurd h (by simp)⟩
  | d :: r, h => by
    obtain ⟨l, e, hl⟩ := h d List.mem_cons_self
    obtain ⟨ls, e2, h2⟩ := shs_ex (ds := r) fun x hx => h x (List.mem_cons_of_mem _ hx)
    exact ⟨l :: ls, by rw [e, e2]; rfl, fun x hx => (List.mem_cons.mp hx).elim (fun z => by rw [z]; exact hl) (h2 x)⟩
theorem flat_len {m : Nat} : ∀ {ls : List (List Nat)}, (∀ l ∈ ls, l.length ≤ m) → ls.flatten.length ≤ ls.length * m
  | [], _ => by simp
  | l :: r, h => by
    have h1 := h l List.mem_cons_self
    have h2 := flat_len (ls := r) fun x hx => h x (List.mem_cons_of_mem _ hx)
    rw [List.flatten_cons, List.length_append, List.length_cons, Nat.succ_mul]
    omega
/-- joined short texts -/
theorem join_sh {d : D} {ds : List D} {m : Nat} (hd : seqOf d = some ds) (h : ∀ x ∈ ds, Sh m x) (hn : ds.length * m ≤ 1000000) : ∃ l, bmD .join (.str (sg [])) [d] = .ok (.str (sg l)) ∧ l.length ≤ ds.length * m := by
  obtain ⟨ls, e, h2⟩ := shs_ex h
  have f := flat_len h2
  have el : ls.length = ds.length := by rw [e, List.length_map]
  rw [el] at f
  exact ⟨_, join_ok ls (by rw [hd, e]) (by omega), f⟩

/-! ### statements -/
theorem st {g : G} {C : Cal} {s : S} {ss : Ss} {env env' : Env} {r : R OD} (h1 : exS g C s env = .nx env') (h2 : endR (exs g C ss env') = r) : endR (exs g C (.cons s ss) env) = r := by rw [exs_seq, h1]; exact h2
theorem sx {g : G} {C : Cal} {s : S} {ss : Ss} {env env' : Env} {o : Out} (h1 : exS g C s env = .nx env') (h2 : exs g C ss env' = o) : exs g C (.cons s ss) env = o := by rw [exs_seq, h1]; exact h2
theorem for_nm {g : G} {C : Cal} {i : Nat} {it : It} {L : Ss} {env : Env} {o : OD} {l : List D} (hi : items g C it env = .ok (o, l)) : exS g C (.for_ (.nm i) it L) env = forL (fun x env' => exs g C L (env'.set i (some (.sh, x)))) l (aftI (rdi it) o env) := by
  rw [exS_for, hi]
  rfl
theorem forL_nx {f : D → Env → Out} {x : D} {l : List D} {env env' : Env} (h : f x env = .nx env') : forL f (x :: l) env = forL f l env' := by rw [forL, h]
theorem forL_ret {f : D → Env → Out} {x : D} {l : List D} {env : Env} {o : Own} {d : D} (h : f x env = .ret o d) : forL f (x :: l) env = .ret o d := by rw [forL, h]
/-- a loop that goes on to its end -/
theorem forL_keep {f : D → Env → Out} {mk : Slot → Env} : ∀ (l : List D) (s : Slot), (∀ x ∈ l, ∀ s, f x (mk s) = .nx (mk (some (.sh, x)))) → ∃ s', (s' = s ∨ ∃ x, s' = some (.sh, x)) ∧ forL f l (mk s) = .nx (mk s')
  | [], s, _ => ⟨s, .inl rfl, rfl⟩
  | x :: l, s, h => by
    obtain ⟨s', hs, e⟩ := forL_keep l (some (.sh, x)) fun y hy s => h y (List.mem_cons_of_mem _ hy) s
    exact ⟨s', .inr (hs.elim (fun z => ⟨x, z⟩) id), by rw [forL, h x List.mem_cons_self]; exact e⟩
/-- a loop that ends with the first one -/
theorem forL_find {f : D → Env → Out} {mk : Slot → Env} {p : D → Bool} {out : Slot → D → Out} : ∀ (l : List D) (s : Slot), (∀ x ∈ l, ∀ s, f x (mk s) = if p x = true then out s x else .nx (mk (some (.sh, x)))) → (∀ s x, (out s x).stop = true) →
    ∃ s', (s' = s ∨ ∃ x, s' = some (.sh, x)) ∧ ((∃ x, l.find? p = some x ∧ forL f l (mk s) = out s' x) ∨ (l.find? p = none ∧ forL f l (mk s) = .nx (mk s')))
  | [], s, _, _ => ⟨s, .inl rfl, .inr ⟨rfl, rfl⟩⟩
  | x :: l, s, h, ho => by
    have h1 := h x List.mem_cons_self s
    cases q : p x with
    | true =>
      rw [q, if_pos rfl] at h1
      refine ⟨s, .inl rfl, .inl ⟨x, List.find?_cons_of_pos q, ?_⟩⟩
      rw [forL, h1]
      have := ho s x
      cases z : out s x <;> rw [z] at this <;> first | rfl | cases this
    | false =>
      rw [q, if_neg Bool.false_ne_true] at h1
      obtain ⟨s', hs, e⟩ := forL_find l (some (.sh, x)) (fun y hy s => h y (List.mem_cons_of_mem _ hy) s) ho
      refine ⟨s', .inr (hs.elim (fun z => ⟨x, z⟩) id), ?_⟩
      rw [List.find?_cons_of_neg (by rw [q]; exact Bool.false_ne_true), forL, h1]
      exact e
theorem frzS_no {is : List (Nat × Bool)} {k : Nat} {s : Slot} (h1 : is.contains (k, true) = false) (h2 : is.contains (k, false) = false) : frzS is k s = s := by
  unfold frzS
  split
  · rw [h1]; rfl
  · rw [h1, h2]; rfl
  · rfl
theorem revT_tup (l : List D) : biD .revT [.tup l] = .ok (.tup l.reverse) := rfl
theorem listOwn_mix (x d : D) (r : List OD) : listOwn ((.o1, x) :: (.sh, d) :: r) = .o1 := by
  unfold listOwn
  simp
/-! ### comprehensions -/
theorem own_sh : ∀ (l : List OD), (∀ x ∈ l, x.1 = .sh) → listOwn l = .o1
  | [], _ => rfl
  | x :: l, h => by
    have := h x List.mem_cons_self
    unfold listOwn
    rw [List.all_cons, this]
    rfl
theorem mapC_ex {f : D → R (Option OD)} {P : D → D → Prop} : ∀ l : List D, (∀ x ∈ l, ∃ y, f x = .ok (some (.sh, y)) ∧ P x y) → ∃ ys : List OD, mapC f l = .ok ys ∧ ys.length = l.length ∧ (∀ y ∈ ys, y.1 = .sh ∧ ∃ x ∈ l, P x y.2)
  | [], _ => ⟨[], rfl, rfl, fun _ h => absurd h (by simp)⟩
  | x :: l, h => by
    obtain ⟨y, e, p⟩ := h x List.mem_cons_self
    obtain ⟨ys, e2, hl, hp⟩ := mapC_ex (P := P) l fun z hz => h z (List.mem_cons_of_mem _ hz)
    refine ⟨(.sh, y) :: ys, ?_, by rw [List.length_cons, List.length_cons, hl], fun z hz => ?_⟩
    · show (f x).bind (fun o => (mapC f l).bind fun ys => .ok (consO o ys)) = _
      rw [e, e2]
      rfl
    · rcases List.mem_cons.mp hz with rfl | hz
      · exact ⟨rfl, x, List.mem_cons_self, p⟩
      · obtain ⟨a, b, c, d⟩ := hp z hz
        exact ⟨a, b, List.mem_cons_of_mem _ c, d⟩
def lcFn (g : G) (C : Cal) (elt : E) (tg : Tg) (c : Eo) (env : Env) (x : D) : R (Option OD) := match bindT tg x env with
  | none => .no
  | some env' => (tsto g C c env').tame.bind fun k => if k = true then (ev g C elt env').tame.bind fun y => .ok (some y) else .ok none
theorem lcFn_at {g : G} {C : Cal} {elt : E} {tg : Tg} {c : Eo} {env env' : Env} {x : D} (h : bindT tg x env = some env') : lcFn g C elt tg c env x = (tsto g C c env').tame.bind fun k => if k = true then (ev g C elt env').tame.bind fun y => .ok (some y) else .ok none := by
  unfold lcFn
  rw [h]
theorem ev_lcFn {g : G} {C : Cal} {elt : E} {tg : Tg} {it : It} {c : Eo} {env : Env} {o : OD} {l : List D} (hi : items g C it env = .ok (o, l)) : ev g C (.lc elt tg it c) env = (mapC (lcFn g C elt tg c env) l).tame.bind fun ys => if l.length ≤ szL then .ok (listOwn ys, .lst (ys.map (·.2))) else .no := by
  rw [ev_lc, hi]
  rfl
/-- [elt for .. in e]: of each item y P holds -/
theorem lc_ex {g : G} {C : Cal} {elt : E} {tg : Tg} {it : It} {env : Env} {o : OD} {l : List D} {P : D → D → Prop} (hi : items g C it env = .ok (o, l)) (hn : l.length ≤ 1000000)
    (h : ∀ x ∈ l, ∃ env' y, bindT tg x env = some env' ∧ ev g C elt env' = .ok (.sh, y) ∧ P x y) : ∃ ys : List D, ev g C (.lc elt tg it .none) env = .ok (.o1, .lst ys) ∧ ys.length = l.length ∧ ∀ y ∈ ys, ∃ x ∈ l, P x y := by
  obtain ⟨ys, e, hl, hp⟩ := mapC_ex (f := lcFn g C elt tg .none env) (P := P) l fun x hx => by
    obtain ⟨env', y, h1, h2, h3⟩ := h x hx
    refine ⟨y, ?_, h3⟩
    rw [lcFn_at h1, tsto_none, h2]
    rfl
  refine ⟨ys.map (·.2), ?_, by rw [List.length_map, hl], fun y hy => ?_⟩
  · rw [ev_lcFn hi, e]
    show (if l.length ≤ szL then R.ok (listOwn ys, D.lst _) else R.no) = _
    rw [if_pos (szL_of hn), own_sh ys fun x hx => (hp x hx).1]
  · obtain ⟨z, hz, rfl⟩ := List.mem_map.mp hy
    exact (hp z hz).2
theorem mapC_ix {f : D → R (Option OD)} {P : D → D → Prop} : ∀ l : List D, (∀ x ∈ l, ∃ y, f x = .ok (some (.sh, y)) ∧ P x y) → ∃ ys : List D, mapC f l = .ok (ys.map fun y => (Own.sh, y)) ∧ ∃ e : ys.length = l.length, ∀ i (h : i < ys.length), P (l[i]'(e ▸ h)) ys[i]
  | [], _ => ⟨[], rfl, rfl, fun _ h => absurd h (by simp)⟩
  | x :: l, h => by
    obtain ⟨y, e, p⟩ := h x List.mem_cons_self
    obtain ⟨ys, e2, hl, hp⟩ := mapC_ix (P := P) l fun z hz => h z (List.mem_cons_of_mem _ hz)
    refine ⟨y :: ys, ?_, by rw [List.length_cons, List.length_cons, hl], fun i hi => ?_⟩
    · show (f x).bind (fun o => (mapC f l).bind fun ys => .ok (consO o ys)) = _
      rw [e, e2]
      rfl
    · cases i with
      | zero => exact p
      | succ i => exact hp i (by rw [List.length_cons] at hi; omega)
theorem upto_mem {n : Nat} {x : D} (h : x ∈ upto 0 n) : ∃ k : Nat, x = .int k ∧ k < n := by
  rw [upto_zero] at h
  obtain ⟨k, hk, rfl⟩ := List.mem_map.mp h
  rw [List.mem_range'_1] at hk
  exact ⟨k, rfl, by omega⟩
theorem upto_len (n : Nat) : (upto 0 n).length = n := by unfold upto; rw [List.length_map, List.length_range]
/-- [elt for .. in ..], each item known -/
theorem lc_all {α : Type} {g : G} {C : Cal} {elt : E} {tg : Tg} {it : It} {env : Env} {o : OD} (l : List α) (d y : α → D) (hi : items g C it env = .ok (o, l.map d)) (hn : l.length ≤ 1000000)
    (h : ∀ x ∈ l, ∃ env', bindT tg (d x) env = some env' ∧ ev g C elt env' = .ok (.sh, y x)) : ev g C (.lc elt tg it .none) env = .ok (.o1, .lst (l.map y)) := by
  have key : ∀ m : List α, (∀ x ∈ m, ∃ env', bindT tg (d x) env = some env' ∧ ev g C elt env' = .ok (.sh, y x)) → mapC (lcFn g C elt tg .none env) (m.map d) = .ok (m.map fun x => (Own.sh, y x)) := fun m => by
    induction m with
    | nil => intro _; rfl
    | cons x m ih =>
      intro h
      obtain ⟨env', h1, h2⟩ := h x List.mem_cons_self
      rw [List.map_cons]
      show (lcFn g C elt tg .none env (d x)).bind (fun o => (mapC _ (m.map d)).bind fun ys => .ok (consO o ys)) = _
      rw [ih fun z hz => h z (List.mem_cons_of_mem _ hz), lcFn_at h1, tsto_none, h2]
      rfl
  rw [ev_lcFn hi, key l h]
  show (if (l.map d).length ≤ szL then R.ok (listOwn (l.map fun x => (Own.sh, y x)), D.lst ((l.map fun x => (Own.sh, y x)).map (·.2))) else R.no) = _
  rw [if_pos (by rw [List.length_map]; exact szL_of hn), own_sh _ (fun x hx => by obtain ⟨y, _, rfl⟩ := List.mem_map.mp hx; rfl), List.map_map]
  rfl
/-- [elt for k in .. if c], each item known -/
theorem lc_filter {α : Type} {g : G} {C : Cal} {elt c : E} {tg : Tg} {it : It} {env : Env} {o : OD} (l : List α) (d y : α → D) (p : α → Bool) (hi : items g C it env = .ok (o, l.map d)) (hn : l.length ≤ 1000000)
    (h : ∀ x ∈ l, ∃ env', bindT tg (d x) env = some env' ∧ tst g C c env' = .ok (p x) ∧ (p x = true → ev g C elt env' = .ok (.sh, y x))) : ev g C (.lc elt tg it (.some c)) env = .ok (.o1, .lst ((l.filter p).map y)) := by
  have key : ∀ m : List α, (∀ x ∈ m, ∃ env', bindT tg (d x) env = some env' ∧ tst g C c env' = .ok (p x) ∧ (p x = true → ev g C elt env' = .ok (.sh, y x))) → mapC (lcFn g C elt tg (.some c) env) (m.map d) = .ok ((m.filter p).map fun x => (Own.sh, y x)) := fun m => by
    induction m with
    | nil => intro _; rfl
    | cons x m ih =>
      intro h
      obtain ⟨env', h1, h2, h3⟩ := h x List.mem_cons_self
      rw [List.map_cons]
      show (lcFn g C elt tg (.some c) env (d x)).bind (fun o => (mapC _ (m.map d)).bind fun ys => .ok (consO o ys)) = _
      rw [ih fun z hz => h z (List.mem_cons_of_mem _ hz), lcFn_at h1, tsto_some, h2]
      cases e : p x with
      | true => rw [List.filter_cons_of_pos e, show ev g C elt env' = .ok (.sh, y x) from h3 e]; rfl
      | false => rw [List.filter_cons_of_neg (by rw [e]; exact Bool.false_ne_true)]; rfl
  rw [ev_lcFn hi, key l h]
  show (if (l.map d).length ≤ szL then R.ok (listOwn ((l.filter p).map fun x => (Own.sh, y x)), D.lst (((l.filter p).map fun x => (Own.sh, y x)).map (·.2))) else R.no) = _
  rw [if_pos (by rw [List.length_map]; exact szL_of hn), own_sh _ (fun x hx => by obtain ⟨y, _, rfl⟩ := List.mem_map.mp hx; rfl), List.map_map]
  rfl
/-- [[] for i in range(n)] -/
theorem lc_lists {g : G} {C : Cal} {a : E} {i n : Nat} {env : Env} {o : Own} (hi : ev g C a env = .ok (o, .int n)) (h0 : 1 ≤ n) (hn : n ≤ 1000000) : ev g C (.lc (.lst .nil) (.nm i) (.rng1 a) .none) env = .ok (.o2, .lst (List.replicate n (.lst []))) := by
  have hit : items g C (.rng1 a) env = .ok ((.sh, .non), upto 0 n) := by
    rw [items_rng1, hi]
    show (rngD 0 (n : Int)).bind _ = _
    rw [rng_nat hn]
    rfl
  have key : ∀ m : List D, mapC (lcFn g C (.lst .nil) (.nm i) .none env) m = .ok (List.replicate m.length (Own.o1, D.lst [])) := fun m => by
    induction m with
    | nil => rfl
    | cons x m ih =>
      show (lcFn g C (.lst .nil) (.nm i) .none env x).bind (fun o => (mapC _ m).bind fun ys => .ok (consO o ys)) = _
      rw [ih, lcFn_at (env' := env.set i (some (.sh, x))) rfl]
      simp [consO, List.replicate_succ]
  have ow : listOwn (List.replicate n (Own.o1, D.lst [])) = .o2 := by
    unfold listOwn
    rw [if_pos]
    rw [Bool.and_eq_true]
    refine ⟨?_, List.all_eq_true.mpr fun x hx => ?_⟩
    · cases n with
      | zero => omega
      | succ n => rfl
    · rw [List.eq_of_mem_replicate hx]; rfl
  rw [ev_lcFn hit, key, upto_len]
  show (if n ≤ szL then R.ok (listOwn _, D.lst _) else R.no) = _
  rw [if_pos (szL_of hn), ow, List.map_replicate]
/-- [elt for i in range(a)] -/
theorem lc_rex {g : G} {C : Cal} {elt a : E} {i n : Nat} {env : Env} {o : Own} {P : Nat → D → Prop} (hi : ev g C a env = .ok (o, .int n)) (hn : n ≤ 1000000) (h : ∀ k < n, ∃ y, ev g C elt (env.set i (some (.sh, .int k))) = .ok (.sh, y) ∧ P k y) :
    ∃ ys : List D, ev g C (.lc elt (.nm i) (.rng1 a) .none) env = .ok (.o1, .lst ys) ∧ ys.length = n ∧ ∀ y ∈ ys, ∃ k < n, P k y := by
  have hit : items g C (.rng1 a) env = .ok ((.sh, .non), upto 0 n) := by
    rw [items_rng1, hi]
    show (rngD 0 (n : Int)).bind _ = _
    rw [rng_nat hn]
    rfl
  obtain ⟨ys, e, hl, hp⟩ := lc_ex (P := fun x y => ∃ k : Nat, x = .int k ∧ k < n ∧ P k y) (elt := elt) (tg := .nm i) hit (by rw [upto_len]; exact hn) fun x hx => by
    obtain ⟨k, rfl, hk⟩ := upto_mem hx
    obtain ⟨y, h1, h2⟩ := h k hk
    exact ⟨_, y, rfl, h1, k, rfl, hk, h2⟩
  rw [upto_len] at hl
  exact ⟨ys, e, hl, fun y hy => let ⟨x, _, k, _, h2, h3⟩ := hp y hy; ⟨k, h2, h3⟩⟩
/-- [elt for i in range(a)], item by item -/
theorem lc_rix {g : G} {C : Cal} {elt a : E} {i n : Nat} {env : Env} {o : Own} {P : Nat → D → Prop} (hi : ev g C a env = .ok (o, .int n)) (hn : n ≤ 1000000) (h : ∀ k < n, ∃ y, ev g C elt (env.set i (some (.sh, .int k))) = .ok (.sh, y) ∧ P k y) :
    ∃ ys : List D, ev g C (.lc elt (.nm i) (.rng1 a) .none) env = .ok (.o1, .lst ys) ∧ ys.length = n ∧ ∀ k (h : k < ys.length), P k ys[k] := by
  have hit : items g C (.rng1 a) env = .ok ((.sh, .non), upto 0 n) := by
    rw [items_rng1, hi]
    show (rngD 0 (n : Int)).bind _ = _
    rw [rng_nat hn]
    rfl
  obtain ⟨ys, e, hl, hp⟩ := mapC_ix (f := lcFn g C elt (.nm i) .none env) (P := fun x y => ∀ k : Nat, x = .int k → P k y) (upto 0 n) fun x hx => by
    obtain ⟨k, rfl, hk⟩ := upto_mem hx
    obtain ⟨y, h1, h2⟩ := h k hk
    refine ⟨y, ?_, fun j hj => ?_⟩
    · rw [lcFn_at (env' := env.set i (some (.sh, .int k))) rfl, tsto_none, h1]
      rfl
    · injection hj with hj
      obtain rfl : k = j := by omega
      exact h2
  rw [upto_len] at hl
  refine ⟨ys, ?_, hl, fun k hk => hp k hk k ?_⟩
  · rw [ev_lcFn hit, e]
    show (if (upto 0 n).length ≤ szL then R.ok (listOwn (ys.map fun y => (Own.sh, y)), D.lst ((ys.map fun y => (Own.sh, y)).map (·.2))) else R.no) = _
    rw [if_pos (by rw [upto_len]; exact szL_of hn), own_sh _ (fun x hx => by obtain ⟨y, _, rfl⟩ := List.mem_map.mp hx; rfl), List.map_map]
    exact congrArg (fun z => R.ok (Own.o1, D.lst z)) (List.map_id ys)
  · unfold upto
    simp
/-- a text of at most m signs, all of them G -/
def ShP (m : Nat) (G : Nat → Bool) (d : D) : Prop := ∃ l, d = .str (sg l) ∧ l.length ≤ m ∧ l.all G = true
theorem shps_ex {m : Nat} {G : Nat → Bool} : ∀ {ds : List D}, (∀ d ∈ ds, ShP m G d) → ∃ ls : List (List Nat), ds = ls.map (fun l => .str (sg l)) ∧ (∀ l ∈ ls, l.length ≤ m) ∧ ls.flatten.all G = true
  | [], _ => ⟨[], rfl, fun _ h => absurd h (by simp), rfl⟩
  | d :: r, h => by
    obtain ⟨l, e, hl, hg⟩ := h d List.mem_cons_self
    obtain ⟨ls, e2, h2, h3⟩ := shps_ex (ds := r) fun x hx => h x (List.mem_cons_of_mem _ hx)
    exact ⟨l :: ls, by rw [e, e2]; rfl, fun x hx => (List.mem_cons.mp hx).elim (fun z => by rw [z]; exact hl) (h2 x), by rw [List.flatten_cons, List.all_append, hg, h3]; rfl⟩
theorem join_shP {d : D} {ds : List D} {m : Nat} {G : Nat → Bool} (hd : seqOf d = some ds) (h : ∀ x ∈ ds, ShP m G x) (hn : ds.length * m ≤ 1000000) : ∃ l, bmD .join (.str (sg [])) [d] = .ok (.str (sg l)) ∧ l.length ≤ ds.length * m ∧ l.all G = true := by
  obtain ⟨ls, e, h2, h3⟩ := shps_ex h
  have f := flat_len h2
  have el : ls.length = ds.length := by rw [e, List.length_map]
  rw [el] at f
  exact ⟨_, join_ok ls (by rw [hd, e]) (by omega), f, h3⟩
/-- a loop that goes on to its end, and what it keeps -/
theorem forL_inv {f : D → Env → Out} {I : Env → Prop} : ∀ (l : List D) (env : Env), I env → (∀ x ∈ l, ∀ env, I env → ∃ env', f x env = .nx env' ∧ I env') → ∃ env', forL f l env = .nx env' ∧ I env'
  | [], env, i, _ => ⟨env, rfl, i⟩
  | x :: l, env, i, h => by
    obtain ⟨e1, h1, i1⟩ := h x List.mem_cons_self env i
    obtain ⟨e2, h2, i2⟩ := forL_inv l e1 i1 fun y hy => h y (List.mem_cons_of_mem _ hy)
    exact ⟨e2, by rw [forL, h1]; exact h2, i2⟩
theorem atI_0 {α : Type} (c : α) (r : List α) : L2.atI (c :: r) 0 = some c := atI_nat (l := c :: r) (k := 0) (by simp)
theorem atI_P {l : List D} {i : Int} {P : D → Prop} (all : ∀ x ∈ l, P x) (h0 : 0 ≤ i) (h : i < l.length) : ∃ x, L2.atI l i = some x ∧ P x := by
  obtain ⟨x, hx, e⟩ := atI_mem h0 h
  exact ⟨x, e, all x hx⟩
theorem atI_lits (l : List Int) (i : Int) (h0 : 0 ≤ i) (h1 : i < l.length) (P : Int → Prop) (all : ∀ x ∈ l, P x) : ∃ v, L2.atI (l.map D.int) i = some (.int v) ∧ P v := by
  obtain ⟨x, hx, e⟩ := atI_P (l := l.map D.int) (P := fun d => ∃ v, d = .int v ∧ P v) (fun x hx => by
    obtain ⟨v, hv, rfl⟩ := List.mem_map.mp hx
    exact ⟨v, rfl, all v hv⟩) h0 (by rw [List.length_map]; exact h1)
  obtain ⟨v, rfl, p⟩ := e
  exact ⟨v, hx, p⟩
theorem modP (a : Int) {b : Int} (h : 0 < b) : 0 ≤ a % b ∧ a % b < b := ⟨Int.emod_nonneg _ (by omega), Int.emod_lt_of_pos _ h⟩
/-! ### plain data -/
/-- scalars, tuples and lists of such, j deep -/
def pl : Nat → D → Bool
  | _, .non => true
  | _, .bl _ => true
  | _, .int _ => true
  | _, .str _ => true
  | j + 1, .tup l => decide (l.length ≤ 1000000) && l.all (pl j)
  | j + 1, .lst l => decide (l.length ≤ 1000000) && l.all (pl j)
  | _, _ => false
theorem pl_py : ∀ (j : Nat) (d : D), pl j d = true → (py d).plain = true ∧ (py d).depth ≤ j := by
  have all : ∀ (j : Nat), (∀ d, pl j d = true → (py d).plain = true ∧ (py d).depth ≤ j) → ∀ l : List D, l.all (pl j) = true → PyData.plainAll (pys l) = true ∧ PyData.depthAll (pys l) ≤ j := fun j h l => by
    induction l with
    | nil => intro _; exact ⟨rfl, Nat.zero_le _⟩
    | cons a r ih =>
      intro z
      rw [List.all_cons, Bool.and_eq_true] at z
      obtain ⟨h1, h2⟩ := h a z.1
      obtain ⟨h3, h4⟩ := ih z.2
      rw [pys_cons]
      refine ⟨?_, ?_⟩
      · rw [PyData.plainAll, h1, h3]; rfl
      · rw [PyData.depthAll]; omega
  intro j
  induction j with
  | zero =>
    intro d h
    cases d <;> first | (simp [pl] at h; done) | simp [PyData.plain, PyData.depth]
  | succ j ih =>
    intro d h
    cases d with
    | tup l =>
      obtain ⟨h1, h2⟩ := all j ih l (by have h : (decide (l.length ≤ 1000000) && l.all (pl j)) = true := h; rw [Bool.and_eq_true] at h; exact h.2)
      rw [show py (.tup l) = .tuple (pys l) from py_tup l]
      exact ⟨by rw [PyData.plain]; exact h1, by rw [PyData.depth]; omega⟩
    | lst l =>
      obtain ⟨h1, h2⟩ := all j ih l (by have h : (decide (l.length ≤ 1000000) && l.all (pl j)) = true := h; rw [Bool.and_eq_true] at h; exact h.2)
      have e : py (.lst l) = .list (pys l) := by rw [py] <;> rfl
      rw [e]
      exact ⟨by rw [PyData.plain]; exact h1, by rw [PyData.depth]; omega⟩
    | _ => first | (simp [pl] at h; done) | simp [PyData.plain, PyData.depth]
theorem plainB_pl {j : Nat} {d : D} (h : pl j d = true) (hj : j ≤ 64 := by decide) : plainB d = true := by
  obtain ⟨h1, h2⟩ := pl_py j d h
  unfold plainB depth64
  rw [h1, decide_eq_true (by omega)]
  rfl
theorem pl_tup {j : Nat} {l : List D} (hl : l.length ≤ 1000000) (h : ∀ d ∈ l, pl j d = true) : pl (j + 1) (.tup l) = true := by
  show (decide (l.length ≤ 1000000) && l.all (pl j)) = true
  rw [Bool.and_eq_true]
  exact ⟨decide_eq_true hl, List.all_eq_true.mpr h⟩
theorem tup_pl {j : Nat} {l : List D} (h : pl (j + 1) (.tup l) = true) : l.length ≤ 1000000 ∧ ∀ d ∈ l, pl j d = true := by
  have h : (decide (l.length ≤ 1000000) && l.all (pl j)) = true := h
  rw [Bool.and_eq_true] at h
  exact ⟨of_decide_eq_true h.1, List.all_eq_true.mp h.2⟩
theorem pl_lst {j : Nat} {l : List D} (hl : l.length ≤ 1000000) (h : ∀ d ∈ l, pl j d = true) : pl (j + 1) (.lst l) = true := by
  show (decide (l.length ≤ 1000000) && l.all (pl j)) = true
  rw [Bool.and_eq_true]
  exact ⟨decide_eq_true hl, List.all_eq_true.mpr h⟩
theorem lst_pl {j : Nat} {l : List D} (h : pl (j + 1) (.lst l) = true) : l.length ≤ 1000000 ∧ ∀ d ∈ l, pl j d = true := by
  have h : (decide (l.length ≤ 1000000) && l.all (pl j)) = true := h
  rw [Bool.and_eq_true] at h
  exact ⟨of_decide_eq_true h.1, List.all_eq_true.mp h.2⟩
theorem pl_up : ∀ (j : Nat) {d : D}, pl j d = true → pl (j + 1) d = true
  | 0, d, h => by cases d <;> first | rfl | (simp [pl] at h; done)
  | j + 1, d, h => by
    cases d with
    | tup l => exact pl_tup (tup_pl h).1 fun d hd => pl_up j ((tup_pl h).2 d hd)
    | lst l => exact pl_lst (lst_pl h).1 fun d hd => pl_up j ((lst_pl h).2 d hd)
    | _ => first | rfl | (simp [pl] at h; done)
/-- whole numbers from 0 to b -/
def IL (m : Nat) (b : Int) (l : List D) : Prop := m ≤ l.length ∧ ∀ d ∈ l, ∃ v : Int, d = .int v ∧ 0 ≤ v ∧ v < b
theorem IL.at {m : Nat} {b : Int} {l : List D} (h : IL m b l) (i : Nat) (hi : i < m) : ∃ v : Int, L2.atI l (i : Int) = some (.int v) ∧ 0 ≤ v ∧ v < b := by
  have hl := Nat.lt_of_lt_of_le hi h.1
  obtain ⟨v, e, r⟩ := h.2 l[i] (List.getElem_mem hl)
  exact ⟨v, by rw [atI_nat hl, e], r⟩
theorem IL.at2 {m : Nat} {b : Int} {l : List D} (h : IL m b l) (j k : Nat) (hk : j + k < m) : ∃ v : Int, L2.atI l ((j : Int) + (k : Int)) = some (.int v) ∧ 0 ≤ v ∧ v < b := by
  obtain ⟨v, e, r⟩ := h.at (j + k) hk
  exact ⟨v, by rw [← e]; congr 1, r⟩
theorem IL.drop {m : Nat} {b : Int} {l : List D} (h : IL m b l) (k : Nat) : IL (m - k) b (l.drop k) := ⟨by rw [List.length_drop]; have := h.1; omega, fun d hd => h.2 d (List.mem_of_mem_drop hd)⟩
theorem pl_str (j : Nat) (s : Str) : pl j (.str s) = true := by cases j <;> rfl
theorem pl_int (j : Nat) (s : Int) : pl j (.int s) = true := by cases j <;> rfl
theorem pl_bl (j : Nat) (s : Bool) : pl j (.bl s) = true := by cases j <;> rfl
theorem pl_non (j : Nat) : pl j .non = true := by cases j <;> rfl
theorem in_tup {a : D} {l : List D} (h1 : plainB a = true) (h2 : plainB (.tup l) = true) : cmpD .in_ a (.tup l) = .ok (l.any fun z => PyData.eqv (py z) (py a)) := by
  show (if plainB a && plainB (.tup l) then R.ok (l.any fun z => PyData.eqv (py z) (py a)) else .no) = _
  rw [h1, h2]
  rfl
theorem in_lst {a : D} {l : List D} (h1 : plainB a = true) (h2 : plainB (.lst l) = true) : cmpD .in_ a (.lst l) = .ok (l.any fun z => PyData.eqv (py z) (py a)) := by
  show (if plainB a && plainB (.lst l) then R.ok (l.any fun z => PyData.eqv (py z) (py a)) else .no) = _
  rw [h1, h2]
  rfl
theorem cut_to {α : Type} (l : List α) (k : Nat) : cut l none (some (k : Int)) = l.take k := by
  unfold cut
  rw [HT.sIx_nat, HT.sIx_none, List.drop_zero, Nat.sub_zero, ← List.take_eq_take_min]
theorem cut_from {α : Type} (l : List α) (k : Nat) : cut l (some (k : Int)) none = l.drop k := by
  unfold cut
  rw [HT.sIx_nat, HT.sIx_none]
  rcases Nat.le_total k l.length with h | h
  · rw [Nat.min_eq_left h, List.take_of_length_le (by rw [List.length_drop]; omega)]
  · rw [Nat.min_eq_right h, List.drop_length, List.drop_eq_nil_of_le h, List.take_nil]
end S2

set_option maxHeartbeats 4000000
/-! P4: loops that carry a value; steps by simp. -/
namespace S2
open PySem
/-- a loop that carries a value -/
theorem forL_fold {α : Type} {f : D → Env → Out} {mk : Slot → α → Env} {step : α → D → α} : ∀ (l : List D) (s : Slot) (a : α), (∀ p x r, l = p ++ x :: r → ∀ s, f x (mk s (p.foldl step a)) = .nx (mk (some (.sh, x)) (step (p.foldl step a) x))) →
    ∃ s', (s' = s ∨ ∃ x, s' = some (.sh, x)) ∧ forL f l (mk s a) = .nx (mk s' (l.foldl step a))
  | [], s, a, _ => ⟨s, .inl rfl, rfl⟩
  | x :: l, s, a, h => by
    obtain ⟨s', h1, h2⟩ := forL_fold (f := f) (mk := mk) (step := step) l (some (.sh, x)) (step a x) fun p y r e s => h (x :: p) y r (by rw [e]; rfl) s
    refine ⟨s', .inr (h1.elim (fun z => ⟨x, z⟩) id), ?_⟩
    rw [forL_nx (show f x (mk s a) = .nx (mk (some (.sh, x)) (step a x)) from h [] x l rfl s)]
    exact h2
/-- .. and may stop: what it carries, or the way it ends -/
theorem forL_foldR {α : Type} {f : D → Env → Out} {mk : Slot → α → Env} {step : α → D → Option α} {out : α → D → Out} : ∀ (l : List D) (s : Slot) (a : α), (∀ x ∈ l, ∀ s a, f x (mk s a) = match step a x with | some b => .nx (mk (some (.sh, x)) b) | none => out a x) → (∀ a x, (out a x).stop = true) →
    (∃ s' b, (s' = s ∨ ∃ x, s' = some (.sh, x)) ∧ l.foldlM step a = some b ∧ forL f l (mk s a) = .nx (mk s' b)) ∨ (l.foldlM step a = none ∧ ∃ x b, forL f l (mk s a) = out b x)
  | [], s, a, _, _ => .inl ⟨s, a, .inl rfl, rfl, rfl⟩
  | x :: l, s, a, h, ho => by
    have h1 := h x List.mem_cons_self s a
    cases e : step a x with
    | none =>
      rw [e] at h1
      refine .inr ⟨by rw [List.foldlM_cons, e]; rfl, x, a, ?_⟩
      rw [forL, h1]
      have := ho a x
      cases q : out a x <;> rw [q] at this <;> first | rfl | cases this
    | some b =>
      rw [e] at h1
      rw [forL_nx h1, List.foldlM_cons, e]
      rcases forL_foldR (f := f) (mk := mk) (step := step) (out := out) l (some (.sh, x)) b (fun y hy => h y (List.mem_cons_of_mem _ hy)) ho with ⟨s', c, h2, h3, h4⟩ | h2
      · exact .inl ⟨s', c, .inr (h2.elim (fun z => ⟨x, z⟩) id), h3, h4⟩
      · exact .inr h2
theorem fold_filter {α β : Type} (p : α → Bool) (g : α → β) : ∀ (l : List α) (a : List β), l.foldl (fun a x => if p x = true then a ++ [g x] else a) a = a ++ (l.filter p).map g
  | [], a => by simp
  | x :: l, a => by
    rw [List.foldl_cons, fold_filter p g l]
    cases e : p x with
    | true => rw [List.filter_cons_of_pos e]; simp
    | false => rw [List.filter_cons_of_neg (by rw [e]; exact Bool.false_ne_true)]; simp
theorem fold_len {α β : Type} (p : α → Bool) (g : α → β) (l : List α) (a : List β) : (l.foldl (fun a x => if p x = true then a ++ [g x] else a) a).length ≤ a.length + l.length := by
  rw [fold_filter, List.length_append, List.length_map]
  have := List.length_filter_le p l
  omega
theorem snoc_ind {α : Type} {P : List α → Prop} (h0 : P []) (h1 : ∀ l a, P l → P (l ++ [a])) (l : List α) : P l := by
  have key : ∀ m : List α, P m.reverse := fun m => by
    induction m with
    | nil => exact h0
    | cons a m ih => rw [List.reverse_cons]; exact h1 _ _ ih
  rw [← List.reverse_reverse l]
  exact key _
theorem perm_pick {α : Type} : ∀ {l : List α} {i : Nat} (h : i < l.length), (l[i] :: l.eraseIdx i).Perm l
  | a :: l, 0, _ => List.Perm.refl _
  | a :: l, i + 1, h => by
    have hi : i < l.length := by simpa using h
    have ih := perm_pick (l := l) (i := i) hi
    show (l[i] :: a :: l.eraseIdx i).Perm (a :: l)
    exact (List.Perm.swap a _ _).trans (ih.cons a)
@[simp] theorem mod_l2 (i : Int) : binD .mod (.int i) (.int 2) = .ok (.int (i % 2)) := mod_ii _ _ (by decide)
@[simp] theorem div_l2 (i : Int) : binD .fdiv (.int i) (.int 2) = .ok (.int (i / 2)) := div_ii _ _ (by decide) (by decide)
@[simp] theorem mod_l3 (i : Int) : binD .mod (.int i) (.int 3) = .ok (.int (i % 3)) := mod_ii _ _ (by decide)
@[simp] theorem div_l3 (i : Int) : binD .fdiv (.int i) (.int 3) = .ok (.int (i / 3)) := div_ii _ _ (by decide) (by decide)
@[simp] theorem mod_l4 (i : Int) : binD .mod (.int i) (.int 4) = .ok (.int (i % 4)) := mod_ii _ _ (by decide)
@[simp] theorem div_l4 (i : Int) : binD .fdiv (.int i) (.int 4) = .ok (.int (i / 4)) := div_ii _ _ (by decide) (by decide)
@[simp] theorem mod_l5 (i : Int) : binD .mod (.int i) (.int 5) = .ok (.int (i % 5)) := mod_ii _ _ (by decide)
@[simp] theorem div_l5 (i : Int) : binD .fdiv (.int i) (.int 5) = .ok (.int (i / 5)) := div_ii _ _ (by decide) (by decide)
@[simp] theorem mod_l6 (i : Int) : binD .mod (.int i) (.int 6) = .ok (.int (i % 6)) := mod_ii _ _ (by decide)
@[simp] theorem div_l6 (i : Int) : binD .fdiv (.int i) (.int 6) = .ok (.int (i / 6)) := div_ii _ _ (by decide) (by decide)
@[simp] theorem mod_l7 (i : Int) : binD .mod (.int i) (.int 7) = .ok (.int (i % 7)) := mod_ii _ _ (by decide)
@[simp] theorem div_l7 (i : Int) : binD .fdiv (.int i) (.int 7) = .ok (.int (i / 7)) := div_ii _ _ (by decide) (by decide)
@[simp] theorem mod_l8 (i : Int) : binD .mod (.int i) (.int 8) = .ok (.int (i % 8)) := mod_ii _ _ (by decide)
@[simp] theorem div_l8 (i : Int) : binD .fdiv (.int i) (.int 8) = .ok (.int (i / 8)) := div_ii _ _ (by decide) (by decide)
@[simp] theorem mod_l9 (i : Int) : binD .mod (.int i) (.int 9) = .ok (.int (i % 9)) := mod_ii _ _ (by decide)
@[simp] theorem div_l9 (i : Int) : binD .fdiv (.int i) (.int 9) = .ok (.int (i / 9)) := div_ii _ _ (by decide) (by decide)
@[simp] theorem mod_l10 (i : Int) : binD .mod (.int i) (.int 10) = .ok (.int (i % 10)) := mod_ii _ _ (by decide)
@[simp] theorem div_l10 (i : Int) : binD .fdiv (.int i) (.int 10) = .ok (.int (i / 10)) := div_ii _ _ (by decide) (by decide)
@[simp] theorem mod_l11 (i : Int) : binD .mod (.int i) (.int 11) = .ok (.int (i % 11)) := mod_ii _ _ (by decide)
@[simp] theorem div_l11 (i : Int) : binD .fdiv (.int i) (.int 11) = .ok (.int (i / 11)) := div_ii _ _ (by decide) (by decide)
@[simp] theorem mod_l12 (i : Int) : binD .mod (.int i) (.int 12) = .ok (.int (i % 12)) := mod_ii _ _ (by decide)
@[simp] theorem div_l12 (i : Int) : binD .fdiv (.int i) (.int 12) = .ok (.int (i / 12)) := div_ii _ _ (by decide) (by decide)
@[simp] theorem mod_l13 (i : Int) : binD .mod (.int i) (.int 13) = .ok (.int (i % 13)) := mod_ii _ _ (by decide)
@[simp] theorem div_l13 (i : Int) : binD .fdiv (.int i) (.int 13) = .ok (.int (i / 13)) := div_ii _ _ (by decide) (by decide)
@[simp] theorem mod_l14 (i : Int) : binD .mod (.int i) (.int 14) = .ok (.int (i % 14)) := mod_ii _ _ (by decide)
@[simp] theorem div_l14 (i : Int) : binD .fdiv (.int i) (.int 14) = .ok (.int (i / 14)) := div_ii _ _ (by decide) (by decide)
@[simp] theorem mod_l16 (i : Int) : binD .mod (.int i) (.int 16) = .ok (.int (i % 16)) := mod_ii _ _ (by decide)
@[simp] theorem div_l16 (i : Int) : binD .fdiv (.int i) (.int 16) = .ok (.int (i / 16)) := div_ii _ _ (by decide) (by decide)
@[simp] theorem mod_l20 (i : Int) : binD .mod (.int i) (.int 20) = .ok (.int (i % 20)) := mod_ii _ _ (by decide)
@[simp] theorem div_l20 (i : Int) : binD .fdiv (.int i) (.int 20) = .ok (.int (i / 20)) := div_ii _ _ (by decide) (by decide)
@[simp] theorem mod_l24 (i : Int) : binD .mod (.int i) (.int 24) = .ok (.int (i % 24)) := mod_ii _ _ (by decide)
@[simp] theorem div_l24 (i : Int) : binD .fdiv (.int i) (.int 24) = .ok (.int (i / 24)) := div_ii _ _ (by decide) (by decide)
@[simp] theorem mod_l26 (i : Int) : binD .mod (.int i) (.int 26) = .ok (.int (i % 26)) := mod_ii _ _ (by decide)
@[simp] theorem div_l26 (i : Int) : binD .fdiv (.int i) (.int 26) = .ok (.int (i / 26)) := div_ii _ _ (by decide) (by decide)
@[simp] theorem mod_l36 (i : Int) : binD .mod (.int i) (.int 36) = .ok (.int (i % 36)) := mod_ii _ _ (by decide)
@[simp] theorem div_l36 (i : Int) : binD .fdiv (.int i) (.int 36) = .ok (.int (i / 36)) := div_ii _ _ (by decide) (by decide)
@[simp] theorem mod_l64 (i : Int) : binD .mod (.int i) (.int 64) = .ok (.int (i % 64)) := mod_ii _ _ (by decide)
@[simp] theorem div_l64 (i : Int) : binD .fdiv (.int i) (.int 64) = .ok (.int (i / 64)) := div_ii _ _ (by decide) (by decide)
@[simp] theorem mod_l100 (i : Int) : binD .mod (.int i) (.int 100) = .ok (.int (i % 100)) := mod_ii _ _ (by decide)
@[simp] theorem div_l100 (i : Int) : binD .fdiv (.int i) (.int 100) = .ok (.int (i / 100)) := div_ii _ _ (by decide) (by decide)
@[simp] theorem mod_l112 (i : Int) : binD .mod (.int i) (.int 112) = .ok (.int (i % 112)) := mod_ii _ _ (by decide)
@[simp] theorem div_l112 (i : Int) : binD .fdiv (.int i) (.int 112) = .ok (.int (i / 112)) := div_ii _ _ (by decide) (by decide)
@[simp] theorem mod_l5040 (i : Int) : binD .mod (.int i) (.int 5040) = .ok (.int (i % 5040)) := mod_ii _ _ (by decide)
@[simp] theorem div_l5040 (i : Int) : binD .fdiv (.int i) (.int 5040) = .ok (.int (i / 5040)) := div_ii _ _ (by decide) (by decide)
end S2

set_option maxHeartbeats 0
namespace Lw
open PySem S2
def N_0 : Str := ⟨#[48]⟩
def N_0123456789 : Str := ⟨#[48, 49, 50, 51, 52, 53, 54, 55, 56, 57]⟩
def N_2a : Str := ⟨#[50, 97]⟩
def N_98 : Str := ⟨#[57, 56]⟩
def N_A : Str := ⟨#[65]⟩
def N_AlarmError : Str := ⟨#[65, 108, 97, 114, 109, 69, 114, 114, 111, 114]⟩
def N_DIGITS : Str := ⟨#[68, 73, 71, 73, 84, 83]⟩
def N_DuplicateName : Str := ⟨#[68, 117, 112, 108, 105, 99, 97, 116, 101, 78, 97, 109, 101]⟩
def N_InvalidClause : Str := ⟨#[73, 110, 118, 97, 108, 105, 100, 67, 108, 97, 117, 115, 101]⟩
def N_InvalidName : Str := ⟨#[73, 110, 118, 97, 108, 105, 100, 78, 97, 109, 101]⟩
def N_InvalidWeights : Str := ⟨#[73, 110, 118, 97, 108, 105, 100, 87, 101, 105, 103, 104, 116, 115]⟩
def N_LETTERS : Str := ⟨#[76, 69, 84, 84, 69, 82, 83]⟩
def N_MOST_ALARMS : Str := ⟨#[77, 79, 83, 84, 95, 65, 76, 65, 82, 77, 83]⟩
def N_MOST_CHOICE : Str := ⟨#[77, 79, 83, 84, 95, 67, 72, 79, 73, 67, 69]⟩
def N_MOST_CLAUSES : Str := ⟨#[77, 79, 83, 84, 95, 67, 76, 65, 85, 83, 69, 83]⟩
def N_MOST_COST : Str := ⟨#[77, 79, 83, 84, 95, 67, 79, 83, 84]⟩
def N_MOST_SIGNS : Str := ⟨#[77, 79, 83, 84, 95, 83, 73, 71, 78, 83]⟩
def N_TooMany : Str := ⟨#[84, 111, 111, 77, 97, 110, 121]⟩
def N_ValueError : Str := ⟨#[86, 97, 108, 117, 101, 69, 114, 114, 111, 114]⟩
def N__law_answer : Str := ⟨#[95, 108, 97, 119, 95, 97, 110, 115, 119, 101, 114]⟩
def N__law_cell : Str := ⟨#[95, 108, 97, 119, 95, 99, 101, 108, 108]⟩
def N__law_cheapest : Str := ⟨#[95, 108, 97, 119, 95, 99, 104, 101, 97, 112, 101, 115, 116]⟩
def N__law_chosen : Str := ⟨#[95, 108, 97, 119, 95, 99, 104, 111, 115, 101, 110]⟩
def N__law_digits : Str := ⟨#[95, 108, 97, 119, 95, 100, 105, 103, 105, 116, 115]⟩
def N__law_due : Str := ⟨#[95, 108, 97, 119, 95, 100, 117, 101]⟩
def N__law_hearings : Str := ⟨#[95, 108, 97, 119, 95, 104, 101, 97, 114, 105, 110, 103, 115]⟩
def N__law_is_clause : Str := ⟨#[95, 108, 97, 119, 95, 105, 115, 95, 99, 108, 97, 117, 115, 101]⟩
def N__law_is_name : Str := ⟨#[95, 108, 97, 119, 95, 105, 115, 95, 110, 97, 109, 101]⟩
def N__law_least : Str := ⟨#[95, 108, 97, 119, 95, 108, 101, 97, 115, 116]⟩
def N__law_meets : Str := ⟨#[95, 108, 97, 119, 95, 109, 101, 101, 116, 115]⟩
def N__law_minimal : Str := ⟨#[95, 108, 97, 119, 95, 109, 105, 110, 105, 109, 97, 108]⟩
def N__law_names : Str := ⟨#[95, 108, 97, 119, 95, 110, 97, 109, 101, 115]⟩
def N__law_same : Str := ⟨#[95, 108, 97, 119, 95, 115, 97, 109, 101]⟩
def N__law_shuffled : Str := ⟨#[95, 108, 97, 119, 95, 115, 104, 117, 102, 102, 108, 101, 100]⟩
def N__law_wrong : Str := ⟨#[95, 108, 97, 119, 95, 119, 114, 111, 110, 103]⟩
def N_a : Str := ⟨#[97]⟩
def N_a0 : Str := ⟨#[97, 48]⟩
def N_aa : Str := ⟨#[97, 97]⟩
def N_ab : Str := ⟨#[97, 98]⟩
def N_abcdefghi : Str := ⟨#[97, 98, 99, 100, 101, 102, 103, 104, 105]⟩
def N_abcdefghijkl : Str := ⟨#[97, 98, 99, 100, 101, 102, 103, 104, 105, 106, 107, 108]⟩
def N_abcdefghijklm : Str := ⟨#[97, 98, 99, 100, 101, 102, 103, 104, 105, 106, 107, 108, 109]⟩
def N_abcdefghijklmnopqrstuvwxyz : Str := ⟨#[97, 98, 99, 100, 101, 102, 103, 104, 105, 106, 107, 108, 109, 110, 111, 112, 113, 114, 115, 116, 117, 118, 119, 120, 121, 122]⟩
def N_abcdefghijkm : Str := ⟨#[97, 98, 99, 100, 101, 102, 103, 104, 105, 106, 107, 109]⟩
def N_actual : Str := ⟨#[97, 99, 116, 117, 97, 108]⟩
def N_alarm : Str := ⟨#[97, 108, 97, 114, 109]⟩
def N_alarms : Str := ⟨#[97, 108, 97, 114, 109, 115]⟩
def N_answer : Str := ⟨#[97, 110, 115, 119, 101, 114]⟩
def N_are_numbers : Str := ⟨#[97, 114, 101, 95, 110, 117, 109, 98, 101, 114, 115]⟩
def N_at : Str := ⟨#[97, 116]⟩
def N_b : Str := ⟨#[98]⟩
def N_b2b : Str := ⟨#[98, 50, 98]⟩
def N_bad : Str := ⟨#[98, 97, 100]⟩
def N_base : Str := ⟨#[98, 97, 115, 101]⟩
def N_best : Str := ⟨#[98, 101, 115, 116]⟩
def N_bool : Str := ⟨#[98, 111, 111, 108]⟩
def N_bound : Str := ⟨#[98, 111, 117, 110, 100]⟩
def N_cell : Str := ⟨#[99, 101, 108, 108]⟩
def N_cells : Str := ⟨#[99, 101, 108, 108, 115]⟩
def N_char : Str := ⟨#[99, 104, 97, 114]⟩
def N_cheapest_hitting : Str := ⟨#[99, 104, 101, 97, 112, 101, 115, 116, 95, 104, 105, 116, 116, 105, 110, 103]⟩
def N_check_clauses : Str := ⟨#[99, 104, 101, 99, 107, 95, 99, 108, 97, 117, 115, 101, 115]⟩
def N_check_costs : Str := ⟨#[99, 104, 101, 99, 107, 95, 99, 111, 115, 116, 115]⟩
def N_check_names : Str := ⟨#[99, 104, 101, 99, 107, 95, 110, 97, 109, 101, 115]⟩
def N_clause : Str := ⟨#[99, 108, 97, 117, 115, 101]⟩
def N_clauses : Str := ⟨#[99, 108, 97, 117, 115, 101, 115]⟩
def N_code : Str := ⟨#[99, 111, 100, 101]⟩
def N_cost : Str := ⟨#[99, 111, 115, 116]⟩
def N_cost_of : Str := ⟨#[99, 111, 115, 116, 95, 111, 102]⟩
def N_costs : Str := ⟨#[99, 111, 115, 116, 115]⟩
def N_count : Str := ⟨#[99, 111, 117, 110, 116]⟩
def N_digits : Str := ⟨#[100, 105, 103, 105, 116, 115]⟩
def N_due : Str := ⟨#[100, 117, 101]⟩
def N_e : Str := ⟨#[101]⟩
def N_fault : Str := ⟨#[102, 97, 117, 108, 116]⟩
def N_found : Str := ⟨#[102, 111, 117, 110, 100]⟩
def N_handed : Str := ⟨#[104, 97, 110, 100, 101, 100]⟩
def N_has_all : Str := ⟨#[104, 97, 115, 95, 97, 108, 108]⟩
def N_has_one_of : Str := ⟨#[104, 97, 115, 95, 111, 110, 101, 95, 111, 102]⟩
def N_head : Str := ⟨#[104, 101, 97, 100]⟩
def N_hearing : Str := ⟨#[104, 101, 97, 114, 105, 110, 103]⟩
def N_hearing_place : Str := ⟨#[104, 101, 97, 114, 105, 110, 103, 95, 112, 108, 97, 99, 101]⟩
def N_hearings : Str := ⟨#[104, 101, 97, 114, 105, 110, 103, 115]⟩
def N_hearings_in_order : Str := ⟨#[104, 101, 97, 114, 105, 110, 103, 115, 95, 105, 110, 95, 111, 114, 100, 101, 114]⟩
def N_hits : Str := ⟨#[104, 105, 116, 115]⟩
def N_int : Str := ⟨#[105, 110, 116]⟩
def N_is_ascending : Str := ⟨#[105, 115, 95, 97, 115, 99, 101, 110, 100, 105, 110, 103]⟩
def N_is_hearing : Str := ⟨#[105, 115, 95, 104, 101, 97, 114, 105, 110, 103]⟩
def N_is_integer : Str := ⟨#[105, 115, 95, 105, 110, 116, 101, 103, 101, 114]⟩
def N_is_name : Str := ⟨#[105, 115, 95, 110, 97, 109, 101]⟩
def N_is_number : Str := ⟨#[105, 115, 95, 110, 117, 109, 98, 101, 114]⟩
def N_isinstance : Str := ⟨#[105, 115, 105, 110, 115, 116, 97, 110, 99, 101]⟩
def N_j : Str := ⟨#[106]⟩
def N_k : Str := ⟨#[107]⟩
def N_kept : Str := ⟨#[107, 101, 112, 116]⟩
def N_last : Str := ⟨#[108, 97, 115, 116]⟩
def N_law : Str := ⟨#[108, 97, 119]⟩
def N_least : Str := ⟨#[108, 101, 97, 115, 116]⟩
def N_len : Str := ⟨#[108, 101, 110]⟩
def N_less : Str := ⟨#[108, 101, 115, 115]⟩
def N_letter : Str := ⟨#[108, 101, 116, 116, 101, 114]⟩
def N_letters : Str := ⟨#[108, 101, 116, 116, 101, 114, 115]⟩
def N_list : Str := ⟨#[108, 105, 115, 116]⟩
def N_listed : Str := ⟨#[108, 105, 115, 116, 101, 100]⟩
def N_m : Str := ⟨#[109]⟩
def N_many : Str := ⟨#[109, 97, 110, 121]⟩
def N_mark : Str := ⟨#[109, 97, 114, 107]⟩
def N_marks : Str := ⟨#[109, 97, 114, 107, 115]⟩
def N_meets : Str := ⟨#[109, 101, 101, 116, 115]⟩
def N_minimal_hitting : Str := ⟨#[109, 105, 110, 105, 109, 97, 108, 95, 104, 105, 116, 116, 105, 110, 103]⟩
def N_mixed : Str := ⟨#[109, 105, 120, 101, 100]⟩
def N_mm : Str := ⟨#[109, 109]⟩
def N_most : Str := ⟨#[109, 111, 115, 116]⟩
def N_name : Str := ⟨#[110, 97, 109, 101]⟩
def N_names : Str := ⟨#[110, 97, 109, 101, 115]⟩
def N_nine : Str := ⟨#[110, 105, 110, 101]⟩
def N_once : Str := ⟨#[111, 110, 99, 101]⟩
def N_other : Str := ⟨#[111, 116, 104, 101, 114]⟩
def N_pair : Str := ⟨#[112, 97, 105, 114]⟩
def N_part : Str := ⟨#[112, 97, 114, 116]⟩
def N_parts : Str := ⟨#[112, 97, 114, 116, 115]⟩
def N_pick : Str := ⟨#[112, 105, 99, 107]⟩
def N_place : Str := ⟨#[112, 108, 97, 99, 101]⟩
def N_plant : Str := ⟨#[112, 108, 97, 110, 116]⟩
def N_pool : Str := ⟨#[112, 111, 111, 108]⟩
def N_position : Str := ⟨#[112, 111, 115, 105, 116, 105, 111, 110]⟩
def N_prices : Str := ⟨#[112, 114, 105, 99, 101, 115]⟩
def N_range : Str := ⟨#[114, 97, 110, 103, 101]⟩
def N_rest : Str := ⟨#[114, 101, 115, 116]⟩
def N_reversed : Str := ⟨#[114, 101, 118, 101, 114, 115, 101, 100]⟩
def N_row : Str := ⟨#[114, 111, 119]⟩
def N_rows : Str := ⟨#[114, 111, 119, 115]⟩
def N_rows_of_clauses : Str := ⟨#[114, 111, 119, 115, 95, 111, 102, 95, 99, 108, 97, 117, 115, 101, 115]⟩
def N_salt : Str := ⟨#[115, 97, 108, 116]⟩
def N_script : Str := ⟨#[115, 99, 114, 105, 112, 116]⟩
def N_seed : Str := ⟨#[115, 101, 101, 100]⟩
def N_several : Str := ⟨#[115, 101, 118, 101, 114, 97, 108]⟩
def N_sign : Str := ⟨#[115, 105, 103, 110]⟩
def N_signs : Str := ⟨#[115, 105, 103, 110, 115]⟩
def N_sorted : Str := ⟨#[115, 111, 114, 116, 101, 100]⟩
def N_spot : Str := ⟨#[115, 112, 111, 116]⟩
def N_stem : Str := ⟨#[115, 116, 101, 109]⟩
def N_step : Str := ⟨#[115, 116, 101, 112]⟩
def N_str : Str := ⟨#[115, 116, 114]⟩
def N_sum : Str := ⟨#[115, 117, 109]⟩
def N_super : Str := ⟨#[115, 117, 112, 101, 114]⟩
def N_told : Str := ⟨#[116, 111, 108, 100]⟩
def N_total : Str := ⟨#[116, 111, 116, 97, 108]⟩
def N_tuple : Str := ⟨#[116, 117, 112, 108, 101]⟩
def N_turns : Str := ⟨#[116, 117, 114, 110, 115]⟩
def N_value : Str := ⟨#[118, 97, 108, 117, 101]⟩
def N_which : Str := ⟨#[119, 104, 105, 99, 104]⟩
def N_x : Str := ⟨#[]⟩
def N_x97_32_98 : Str := ⟨#[97, 32, 98]⟩
def N_z : Str := ⟨#[122]⟩
def N_z9 : Str := ⟨#[122, 57]⟩
def N_zz98 : Str := ⟨#[122, 122, 57, 56]⟩
/-- is_integer -/
def b_is_integer : Ss := (.cons (.ret (.and (.isi (.var 0) .int) (.not (.isi (.var 0) .bool)))) .nil)
def n0 : List Str := [N_value]
def d0 : FD := ⟨1, 1, b_is_integer⟩
/-- is_number -/
def b_is_number : Ss := (.cons (.ret (.and (.call N_is_integer (.cons (.var 0) .nil)) (.chain .le .le (.var 1) (.var 0) (.var 2)))) .nil)
def n1 : List Str := [N_value, N_least, N_most]
def d1 : FD := ⟨3, 3, b_is_number⟩
def L_is_name_0 : Ss := (.cons (.ife (.and (.cmp .notin (.var 1) (.g N_LETTERS)) (.cmp .notin (.var 1) (.g N_DIGITS))) (.cons (.ret (.bl false)) .nil) .nil) .nil)
/-- is_name -/
def b_is_name : Ss := (.cons (.ife (.or (.not (.isi (.var 0) .str)) (.not (.chain .le .le (.int 1) (.bi .len (.cons (.var 0) .nil)) (.g N_MOST_SIGNS)))) (.cons (.ret (.bl false)) .nil) .nil) (.cons (.for_ (.nm 1) (.it (.var 0)) L_is_name_0) (.cons (.ret (.cmp .in_ (.ix (.var 0) (.int 0)) (.g N_LETTERS))) .nil)))
def n2 : List Str := [N_value, N_char]
def d2 : FD := ⟨1, 2, b_is_name⟩
def L_is_ascending_0 : Ss := (.cons (.ife (.not (.cmp .lt (.ix (.var 0) (.bin .sub (.var 1) (.int 1))) (.ix (.var 0) (.var 1)))) (.cons (.ret (.bl false)) .nil) .nil) .nil)
/-- is_ascending -/
def b_is_ascending : Ss := (.cons (.for_ (.nm 1) (.rng2 (.int 1) (.bi .len (.cons (.var 0) .nil))) L_is_ascending_0) (.cons (.ret (.bl true)) .nil))
def n3 : List Str := [N_row, N_k]
def d3 : FD := ⟨1, 2, b_is_ascending⟩
def L_check_names_0 : Ss := (.cons (.ife (.not (.call N_is_name (.cons (.var 2) .nil))) (.cons (.raise_ N_InvalidName (.cons (.var 2) .nil)) .nil) .nil) .nil)
def L_check_names_1 : Ss := (.cons (.ife (.cmp .in_ (.ix (.var 0) (.var 3)) (.sl (.var 0) .none (.some (.var 3)))) (.cons (.raise_ N_DuplicateName (.cons (.ix (.var 0) (.var 3)) .nil)) .nil) .nil) .nil)
/-- check_names -/
def b_check_names : Ss := (.cons (.ife (.not (.isi (.var 0) .tuple)) (.cons (.raise_ N_InvalidName (.cons (.var 0) .nil)) .nil) .nil) (.cons (.for_ (.nm 2) (.it (.var 0)) L_check_names_0) (.cons (.ife (.cmp .gt (.bi .len (.cons (.var 0) .nil)) (.var 1)) (.cons (.raise_ N_TooMany (.cons (.var 1) .nil)) .nil) .nil) (.cons (.for_ (.nm 3) (.rng1 (.bi .len (.cons (.var 0) .nil))) L_check_names_1) .nil))))
def n4 : List Str := [N_names, N_most, N_name, N_k]
def d4 : FD := ⟨2, 4, b_check_names⟩
def L_are_numbers_0 : Ss := (.cons (.ife (.not (.call N_is_number (.cons (.var 3) (.cons (.var 1) (.cons (.var 2) .nil))))) (.cons (.ret (.bl false)) .nil) .nil) .nil)
/-- are_numbers -/
def b_are_numbers : Ss := (.cons (.ife (.not (.isi (.var 0) .tuple)) (.cons (.ret (.bl false)) .nil) .nil) (.cons (.for_ (.nm 3) (.it (.var 0)) L_are_numbers_0) (.cons (.ret (.bl true)) .nil)))
def n5 : List Str := [N_row, N_least, N_most, N_value]
def d5 : FD := ⟨3, 4, b_are_numbers⟩
def L_is_hearing_0 : Ss := (.cons (.ife (.or (.not (.isi (.var 2) .str)) (.cmp .notin (.var 2) (.var 0))) (.cons (.ret (.bl false)) .nil) .nil) .nil)
/-- is_hearing -/
def b_is_hearing : Ss := (.cons (.ife (.not (.isi (.var 1) .tuple)) (.cons (.ret (.bl false)) .nil) .nil) (.cons (.for_ (.nm 2) (.it (.var 1)) L_is_hearing_0) (.cons (.ret (.call N_is_ascending (.cons (.var 1) .nil))) .nil)))
def n6 : List Str := [N_alarms, N_hearing, N_name]
def d6 : FD := ⟨2, 3, b_is_hearing⟩
/-- hearing_place -/
def b_hearing_place : Ss := (.cons (.ret (.tup (.cons (.bi .len (.cons (.var 0) .nil)) (.cons (.var 0) .nil)))) .nil)
def n7 : List Str := [N_hearing]
def d7 : FD := ⟨1, 1, b_hearing_place⟩
def L_hearings_0 : Ss := (.cons (.asg 1 (.bin .add (.var 1) (.lc (.bin .add (.var 3) (.tup (.cons (.var 2) .nil))) (.nm 3) (.it (.var 1)) .none))) .nil)
/-- hearings -/
def b_hearings : Ss := (.cons (.ex (.call N_check_names (.cons (.var 0) (.cons (.g N_MOST_CHOICE) .nil)))) (.cons (.asg 1 (.lst (.cons (.tup .nil) .nil))) (.cons (.for_ (.nm 2) (.it (.bi .sorted (.cons (.var 0) .nil))) L_hearings_0) (.cons (.ret (.bi .tuple (.cons (.srk (.var 1) N_hearing_place) .nil))) .nil))))
def n8 : List Str := [N_alarms, N_found, N_name, N_hearing]
def d8 : FD := ⟨1, 4, b_hearings⟩
/-- check_costs -/
def b_check_costs : Ss := (.cons (.ife (.or (.not (.call N_are_numbers (.cons (.var 1) (.cons (.int 0) (.cons (.g N_MOST_COST) .nil))))) (.cmp .ne (.bi .len (.cons (.var 1) .nil)) (.bi .len (.cons (.var 0) .nil)))) (.cons (.raise_ N_InvalidWeights .nil) .nil) .nil) .nil)
def n9 : List Str := [N_alarms, N_costs]
def d9 : FD := ⟨2, 2, b_check_costs⟩
def L_check_clauses_0 : Ss := (.cons (.ife (.not (.call N_is_hearing (.cons (.var 0) (.cons (.ix (.var 1) (.var 2)) .nil)))) (.cons (.raise_ N_InvalidClause (.cons (.var 2) .nil)) .nil) .nil) .nil)
/-- check_clauses -/
def b_check_clauses : Ss := (.cons (.ife (.not (.isi (.var 1) .tuple)) (.cons (.raise_ N_InvalidClause (.cons (.neg (.int 1)) .nil)) .nil) .nil) (.cons (.ife (.cmp .gt (.bi .len (.cons (.var 1) .nil)) (.g N_MOST_CLAUSES)) (.cons (.raise_ N_TooMany (.cons (.g N_MOST_CLAUSES) .nil)) .nil) .nil) (.cons (.for_ (.nm 2) (.rng1 (.bi .len (.cons (.var 1) .nil))) L_check_clauses_0) .nil)))
def n10 : List Str := [N_alarms, N_clauses, N_k]
def d10 : FD := ⟨2, 3, b_check_clauses⟩
def L_meets_0 : Ss := (.cons (.ife (.cmp .in_ (.var 2) (.var 0)) (.cons (.ret (.bl true)) .nil) .nil) .nil)
/-- meets -/
def b_meets : Ss := (.cons (.for_ (.nm 2) (.it (.var 1)) L_meets_0) (.cons (.ret (.bl false)) .nil))
def n11 : List Str := [N_hearing, N_clause, N_name]
def d11 : FD := ⟨2, 3, b_meets⟩
def L_hits_0 : Ss := (.cons (.ife (.not (.call N_meets (.cons (.var 0) (.cons (.var 2) .nil)))) (.cons (.ret (.bl false)) .nil) .nil) .nil)
/-- hits -/
def b_hits : Ss := (.cons (.for_ (.nm 2) (.it (.var 1)) L_hits_0) (.cons (.ret (.bl true)) .nil))
def n12 : List Str := [N_hearing, N_clauses, N_clause]
def d12 : FD := ⟨2, 3, b_hits⟩
def L_has_all_0 : Ss := (.cons (.ife (.cmp .notin (.var 2) (.var 0)) (.cons (.ret (.bl false)) .nil) .nil) .nil)
/-- has_all -/
def b_has_all : Ss := (.cons (.for_ (.nm 2) (.it (.var 1)) L_has_all_0) (.cons (.ret (.bl true)) .nil))
def n13 : List Str := [N_hearing, N_part, N_name]
def d13 : FD := ⟨2, 3, b_has_all⟩
def L_has_one_of_0 : Ss := (.cons (.ife (.call N_has_all (.cons (.var 0) (.cons (.var 2) .nil))) (.cons (.ret (.bl true)) .nil) .nil) .nil)
/-- has_one_of -/
def b_has_one_of : Ss := (.cons (.for_ (.nm 2) (.it (.var 1)) L_has_one_of_0) (.cons (.ret (.bl false)) .nil))
def n14 : List Str := [N_hearing, N_parts, N_part]
def d14 : FD := ⟨2, 3, b_has_one_of⟩
def L_cost_of_0 : Ss := (.cons (.ife (.cmp .in_ (.ix (.var 0) (.var 4)) (.var 2)) (.cons (.asg 3 (.bin .add (.var 3) (.ix (.var 1) (.var 4)))) .nil) .nil) .nil)
/-- cost_of -/
def b_cost_of : Ss := (.cons (.asg 3 (.int 0)) (.cons (.for_ (.nm 4) (.rng1 (.bi .len (.cons (.var 0) .nil))) L_cost_of_0) (.cons (.ret (.var 3)) .nil)))
def n15 : List Str := [N_alarms, N_costs, N_hearing, N_total, N_k]
def d15 : FD := ⟨3, 5, b_cost_of⟩
def L_minimal_hitting_0 : Ss := (.cons (.ife (.and (.call N_hits (.cons (.var 3) (.cons (.var 1) .nil))) (.not (.call N_has_one_of (.cons (.var 3) (.cons (.var 2) .nil))))) (.cons (.app 2 (.var 3)) .nil) .nil) .nil)
/-- minimal_hitting -/
def b_minimal_hitting : Ss := (.cons (.ex (.call N_check_names (.cons (.var 0) (.cons (.g N_MOST_ALARMS) .nil)))) (.cons (.ex (.call N_check_clauses (.cons (.var 0) (.cons (.var 1) .nil)))) (.cons (.asg 2 (.lst .nil)) (.cons (.for_ (.nm 3) (.it (.call N_hearings (.cons (.var 0) .nil))) L_minimal_hitting_0) (.cons (.ret (.bi .tuple (.cons (.var 2) .nil))) .nil)))))
def n16 : List Str := [N_alarms, N_clauses, N_found, N_hearing]
def d16 : FD := ⟨2, 4, b_minimal_hitting⟩
def L_cheapest_hitting_0 : Ss := (.cons (.ife (.call N_hits (.cons (.var 4) (.cons (.var 2) .nil))) (.cons (.asg 5 (.call N_cost_of (.cons (.var 0) (.cons (.var 1) (.cons (.var 4) .nil))))) (.cons (.ife (.or (.cmp .is_ (.var 3) .non) (.cmp .lt (.var 5) (.ix (.var 3) (.int 0)))) (.cons (.asg 3 (.tup (.cons (.var 5) (.cons (.var 4) .nil)))) .nil) .nil) .nil)) .nil) .nil)
/-- cheapest_hitting -/
def b_cheapest_hitting : Ss := (.cons (.ex (.call N_check_names (.cons (.var 0) (.cons (.g N_MOST_ALARMS) .nil)))) (.cons (.ex (.call N_check_costs (.cons (.var 0) (.cons (.var 1) .nil)))) (.cons (.ex (.call N_check_clauses (.cons (.var 0) (.cons (.var 2) .nil)))) (.cons (.asg 3 .non) (.cons (.for_ (.nm 4) (.it (.call N_hearings (.cons (.var 0) .nil))) L_cheapest_hitting_0) (.cons (.ret (.var 3)) .nil))))))
def n17 : List Str := [N_alarms, N_costs, N_clauses, N_best, N_hearing, N_cost]
def d17 : FD := ⟨3, 6, b_cheapest_hitting⟩
/-- _law_cell -/
def b__law_cell : Ss := (.cons (.ife (.cmp .lt (.var 1) (.bi .len (.cons (.var 0) .nil))) (.cons (.ret (.bi .int (.cons (.ix (.var 0) (.var 1)) .nil))) .nil) .nil) (.cons (.ife (.cmp .eq (.bi .len (.cons (.var 0) .nil)) (.int 0)) (.cons (.ret (.var 1)) .nil) .nil) (.cons (.ret (.bin .add (.bin .mod (.bi .int (.cons (.ix (.var 0) (.int 0)) .nil)) (.int 1000003)) (.bin .mul (.int 31) (.var 1)))) .nil)))
def n18 : List Str := [N_script, N_k]
def d18 : FD := ⟨2, 2, b__law_cell⟩
def L__law_digits_0 : Ss := (.cons (.app 4 (.bin .mod (.bi .int (.cons (.var 5) .nil)) (.var 2))) (.cons (.asg 5 (.bin .fdiv (.var 5) (.var 2))) .nil))
def L__law_digits_1 : Ss := (.cons (.asg 7 (.bin .mod (.bi .int (.cons (.bin .add (.bin .add (.bin .mul (.var 7) (.int 48271)) (.bin .mul (.int 11) (.var 6))) (.int 7)) .nil)) (.int 2147483647))) (.cons (.asg 8 (.bin .mod (.bi .int (.cons (.bin .add (.bin .mul (.bin .fdiv (.var 7) (.int 64)) (.bin .add (.bin .fdiv (.var 7) (.int 32768)) (.int 3))) (.var 6)) .nil)) (.int 1000000007))) (.cons (.app 4 (.bin .mod (.bi .int (.cons (.bin .fdiv (.var 8) (.int 5)) .nil)) (.var 2))) .nil)))
/-- _law_digits -/
def b__law_digits : Ss := (.cons (.asg 4 (.lst .nil)) (.cons (.asg 5 (.bin .sub (.bi .int (.cons (.var 0) .nil)) (.bin .pow (.int 10) (.int 18)))) (.cons (.ife (.cmp .ge (.var 5) (.int 0)) (.cons (.for_ (.nm 6) (.rng1 (.var 1)) L__law_digits_0) (.cons (.ret (.var 4)) .nil)) .nil) (.cons (.asg 7 (.bin .add (.bin .mod (.bi .int (.cons (.var 0) .nil)) (.int 1000003)) (.bin .mul (.int 7919) (.var 3)))) (.cons (.for_ (.nm 6) (.rng1 (.var 1)) L__law_digits_1) (.cons (.ret (.var 4)) .nil))))))
def n19 : List Str := [N_cell, N_many, N_base, N_salt, N_row, N_rest, N_k, N_seed, N_mixed]
def d19 : FD := ⟨4, 9, b__law_digits⟩
def L__law_names_0 : Ss := (.cons (.asg 12 (.ix (.var 2) (.bin .mod (.bi .int (.cons (.bin .add (.ix (.var 5) (.int 1)) (.bin .mul (.int 5) (.var 6))) .nil)) (.int 26)))) (.cons (.ife (.cmp .eq (.bin .mod (.bi .int (.cons (.ix (.var 5) (.int 0)) .nil)) (.int 3)) (.int 1)) (.cons (.app 11 (.bin .add (.bin .add (.sl (.var 9) .none (.some (.var 10))) (.var 12)) (.sl (.var 9) (.some (.var 10)) .none))) .nil) (.cons (.app 11 (.bin .add (.var 12) (.join N_x (.sl (.var 7) .none (.some (.bin .mod (.bi .int (.cons (.ix (.var 5) (.bin .add (.int 16) (.var 6))) .nil)) (.int 12))))))) .nil)) .nil))
/-- _law_names -/
def b__law_names : Ss := (.cons (.asg 2 (.str N_abcdefghijklmnopqrstuvwxyz)) (.cons (.asg 3 (.bin .add (.var 2) (.str N_0123456789))) (.cons (.asg 4 (.lst (.cons (.str N_a) (.cons (.str N_b) (.cons (.str N_aa) (.cons (.str N_ab) (.cons (.str N_a0) (.cons (.str N_plant) (.cons (.str N_alarm) (.cons (.str N_fault) (.cons (.str N_step) (.cons (.str N_z) (.cons (.str N_z9) (.cons (.str N_abcdefghijkl) (.cons (.str N_abcdefghijkm) (.cons (.str N_b2b) (.cons (.str N_m) (.cons (.str N_mm) .nil)))))))))))))))))) (.cons (.asg 5 (.call N__law_digits (.cons (.var 0) (.cons (.int 32) (.cons (.bin .mul (.int 36) (.int 11)) (.cons (.int 2) .nil)))))) (.cons (.ife (.cmp .eq (.bin .mod (.bi .int (.cons (.ix (.var 5) (.int 0)) .nil)) (.int 3)) (.int 0)) (.cons (.ret (.lc (.ix (.var 4) (.bin .mod (.bi .int (.cons (.bin .add (.ix (.var 5) (.int 1)) (.bin .mul (.int 5) (.var 6))) .nil)) (.int 16))) (.nm 6) (.rng1 (.var 1)) .none)) .nil) .nil) (.cons (.asg 7 (.lc (.ix (.var 3) (.bin .mod (.bi .int (.cons (.ix (.var 5) (.bin .add (.int 2) (.var 8))) .nil)) (.int 36))) (.nm 8) (.rng1 (.int 11)) .none)) (.cons (.asg 9 (.bin .add (.ix (.var 2) (.bin .mod (.bi .int (.cons (.ix (.var 5) (.int 13)) .nil)) (.int 26))) (.join N_x (.sl (.var 7) .none (.some (.bin .mod (.bi .int (.cons (.ix (.var 5) (.int 14)) .nil)) (.int 11))))))) (.cons (.asg 10 (.bin .mod (.bi .int (.cons (.ix (.var 5) (.int 15)) .nil)) (.bin .add (.bi .len (.cons (.var 9) .nil)) (.int 1)))) (.cons (.asg 11 (.lst .nil)) (.cons (.for_ (.nm 6) (.rng1 (.var 1)) L__law_names_0) (.cons (.ret (.var 11)) .nil)))))))))))
def n20 : List Str := [N_cell, N_many, N_letters, N_signs, N_pool, N_digits, N_k, N_rest, N_j, N_stem, N_at, N_names, N_sign]
def d20 : FD := ⟨2, 13, b__law_names⟩
def L__law_same_0 : Ss := (.cons (.ife (.not (.call N__law_same (.cons (.ix (.var 0) (.var 2)) (.cons (.ix (.var 1) (.var 2)) .nil)))) (.cons (.ret (.bl false)) .nil) .nil) .nil)
/-- _law_same -/
def b__law_same : Ss := (.cons (.ife (.isi (.var 1) .list) (.cons (.ret (.and (.isi (.var 0) .list) (.call N__law_same (.cons (.bi .tuple (.cons (.var 0) .nil)) (.cons (.bi .tuple (.cons (.var 1) .nil)) .nil))))) .nil) .nil) (.cons (.ife (.isi (.var 1) .tuple) (.cons (.ife (.or (.not (.isi (.var 0) .tuple)) (.cmp .ne (.bi .len (.cons (.var 0) .nil)) (.bi .len (.cons (.var 1) .nil)))) (.cons (.ret (.bl false)) .nil) .nil) (.cons (.for_ (.nm 2) (.rng1 (.bi .len (.cons (.var 1) .nil))) L__law_same_0) (.cons (.ret (.bl true)) .nil))) .nil) (.cons (.ife (.isi (.var 1) .bool) (.cons (.ret (.and (.isi (.var 0) .bool) (.cmp .eq (.var 0) (.var 1)))) .nil) .nil) (.cons (.ife (.isi (.var 1) .int) (.cons (.ret (.and (.isi (.var 0) .int) (.and (.not (.isi (.var 0) .bool)) (.cmp .eq (.var 0) (.var 1))))) .nil) .nil) (.cons (.ife (.isi (.var 1) .str) (.cons (.ret (.and (.isi (.var 0) .str) (.cmp .eq (.var 0) (.var 1)))) .nil) .nil) (.cons (.ret (.and (.cmp .is_ (.var 1) .non) (.cmp .is_ (.var 0) .non))) .nil))))))
def n21 : List Str := [N_actual, N_due, N_k]
def d21 : FD := ⟨2, 3, b__law_same⟩
def L__law_shuffled_0 : Ss := (.cons (.appop 3 2 (.some (.bin .mod (.bi .int (.cons (.ix (.var 1) (.var 4)) .nil)) (.bi .len (.cons (.var 2) .nil))))) .nil)
/-- _law_shuffled -/
def b__law_shuffled : Ss := (.cons (.asg 2 (.bi .list (.cons (.var 0) .nil))) (.cons (.asg 3 (.lst .nil)) (.cons (.for_ (.nm 4) (.rng1 (.bi .len (.cons (.var 0) .nil))) L__law_shuffled_0) (.cons (.ret (.var 3)) .nil))))
def n22 : List Str := [N_row, N_digits, N_rest, N_found, N_k]
def d22 : FD := ⟨2, 5, b__law_shuffled⟩
def L__law_chosen_0 : Ss := (.cons (.ife (.cmp .eq (.bin .mod (.bi .int (.cons (.var 2) .nil)) (.int 2)) (.int 1)) (.cons (.app 3 (.var 4)) .nil) .nil) (.cons (.asg 2 (.bin .fdiv (.var 2) (.int 2))) .nil))
/-- _law_chosen -/
def b__law_chosen : Ss := (.cons (.asg 2 (.bi .int (.cons (.var 1) .nil))) (.cons (.asg 3 (.lst .nil)) (.cons (.for_ (.nm 4) (.it (.var 0)) L__law_chosen_0) (.cons (.ret (.bi .tuple (.cons (.var 3) .nil))) .nil))))
def n23 : List Str := [N_row, N_code, N_rest, N_found, N_name]
def d23 : FD := ⟨2, 5, b__law_chosen⟩
def L__law_meets_0 : Ss := (.cons (.ife (.cmp .eq (.bi .len (.cons (.lc (.var 3) (.nm 3) (.it (.var 2)) (.some (.cmp .in_ (.var 3) (.var 0)))) .nil)) (.int 0)) (.cons (.ret (.bl false)) .nil) .nil) .nil)
/-- _law_meets -/
def b__law_meets : Ss := (.cons (.for_ (.nm 2) (.it (.var 1)) L__law_meets_0) (.cons (.ret (.bl true)) .nil))
def n24 : List Str := [N_hearing, N_clauses, N_clause, N_name]
def d24 : FD := ⟨2, 4, b__law_meets⟩
def L__law_hearings_0 : Ss := (.cons (.asg 2 (.bin .mul (.var 2) (.int 2))) .nil)
def L__law_hearings_1 : Ss := (.cons (.asg 5 (.call N__law_chosen (.cons (.var 0) (.cons (.var 4) .nil)))) (.cons (.app 1 (.tup (.cons (.bi .len (.cons (.var 5) .nil)) (.cons (.var 5) .nil)))) .nil))
/-- _law_hearings -/
def b__law_hearings : Ss := (.cons (.asg 1 (.lst .nil)) (.cons (.asg 2 (.int 1)) (.cons (.for_ (.nm 3) (.it (.var 0)) L__law_hearings_0) (.cons (.for_ (.nm 4) (.rng1 (.var 2)) L__law_hearings_1) (.cons (.ret (.lc (.ix (.var 6) (.int 1)) (.nm 6) (.it (.bi .sorted (.cons (.var 1) .nil))) .none)) .nil)))))
def n25 : List Str := [N_row, N_found, N_many, N_name, N_code, N_hearing, N_pair]
def d25 : FD := ⟨1, 7, b__law_hearings⟩
def L__law_minimal_0 : Ss := (.cons (.ife (.call N__law_meets (.cons (.bin .add (.sl (.var 0) .none (.some (.var 2))) (.sl (.var 0) (.some (.bin .add (.var 2) (.int 1))) .none)) (.cons (.var 1) .nil))) (.cons (.ret (.bl false)) .nil) .nil) .nil)
/-- _law_minimal -/
def b__law_minimal : Ss := (.cons (.ife (.not (.call N__law_meets (.cons (.var 0) (.cons (.var 1) .nil)))) (.cons (.ret (.bl false)) .nil) .nil) (.cons (.for_ (.nm 2) (.rng1 (.bi .len (.cons (.var 0) .nil))) L__law_minimal_0) (.cons (.ret (.bl true)) .nil)))
def n26 : List Str := [N_hearing, N_clauses, N_k]
def d26 : FD := ⟨2, 3, b__law_minimal⟩
def L__law_least_0 : Ss := (.cons (.ife (.cmp .notin (.var 2) (.var 1)) (.cons (.app 1 (.var 2)) .nil) .nil) .nil)
def L__law_least_1 : Ss := (.cons (.asg 4 (.lc (.var 5) (.nm 5) (.it (.var 1)) (.some (.and (.cmp .lt (.bi .len (.cons (.var 5) .nil)) (.bi .len (.cons (.var 2) .nil))) (.cmp .eq (.bi .len (.cons (.lc (.var 6) (.nm 6) (.it (.var 5)) (.some (.cmp .in_ (.var 6) (.var 2)))) .nil)) (.bi .len (.cons (.var 5) .nil))))))) (.cons (.ife (.cmp .eq (.bi .len (.cons (.var 4) .nil)) (.int 0)) (.cons (.app 3 (.tup (.cons (.bi .len (.cons (.var 2) .nil)) (.cons (.var 2) .nil)))) .nil) .nil) .nil))
/-- _law_least -/
def b__law_least : Ss := (.cons (.asg 1 (.lst .nil)) (.cons (.for_ (.nm 2) (.it (.var 0)) L__law_least_0) (.cons (.asg 3 (.lst .nil)) (.cons (.for_ (.nm 2) (.it (.var 1)) L__law_least_1) (.cons (.ret (.bi .tuple (.cons (.lc (.ix (.var 7) (.int 1)) (.nm 7) (.it (.bi .sorted (.cons (.var 3) .nil))) .none) .nil))) .nil)))))
def n27 : List Str := [N_clauses, N_once, N_clause, N_found, N_less, N_other, N_name, N_pair]
def d27 : FD := ⟨1, 8, b__law_least⟩
def L__law_cheapest_0 : Ss := (.cons (.ife (.call N__law_meets (.cons (.var 5) (.cons (.var 3) .nil))) (.cons (.asg 6 (.bi .sum (.cons (.lc (.ix (.var 2) (.var 7)) (.nm 7) (.rng1 (.bi .len (.cons (.var 1) .nil))) (.some (.cmp .in_ (.ix (.var 1) (.var 7)) (.var 5)))) .nil))) (.cons (.ife (.or (.cmp .is_ (.var 4) .non) (.cmp .lt (.var 6) (.ix (.var 4) (.int 0)))) (.cons (.asg 4 (.tup (.cons (.var 6) (.cons (.var 5) .nil)))) .nil) .nil) .nil)) .nil) .nil)
/-- _law_cheapest -/
def b__law_cheapest : Ss := (.cons (.asg 4 .non) (.cons (.for_ (.nm 5) (.it (.var 0)) L__law_cheapest_0) (.cons (.ret (.var 4)) .nil)))
def n28 : List Str := [N_hearings_in_order, N_names, N_costs, N_clauses, N_best, N_hearing, N_cost, N_k]
def d28 : FD := ⟨4, 8, b__law_cheapest⟩
def L__law_is_name_0 : Ss := (.cons (.ife (.cmp .notin (.var 2) (.bin .add (.var 1) (.str N_0123456789))) (.cons (.ret (.bl false)) .nil) .nil) .nil)
/-- _law_is_name -/
def b__law_is_name : Ss := (.cons (.asg 1 (.str N_abcdefghijklmnopqrstuvwxyz)) (.cons (.ife (.or (.not (.isi (.var 0) .str)) (.or (.cmp .lt (.bi .len (.cons (.var 0) .nil)) (.int 1)) (.cmp .gt (.bi .len (.cons (.var 0) .nil)) (.int 12)))) (.cons (.ret (.bl false)) .nil) .nil) (.cons (.for_ (.nm 2) (.it (.var 0)) L__law_is_name_0) (.cons (.ret (.cmp .in_ (.ix (.var 0) (.int 0)) (.var 1))) .nil))))
def n29 : List Str := [N_value, N_letters, N_sign]
def d29 : FD := ⟨1, 3, b__law_is_name⟩
def L__law_is_clause_0 : Ss := (.cons (.ife (.or (.not (.isi (.var 3) .str)) (.or (.cmp .notin (.var 3) (.var 0)) (.not (.cmp .lt (.var 2) (.var 3))))) (.cons (.ret (.bl false)) .nil) .nil) (.cons (.asg 2 (.var 3)) .nil))
/-- _law_is_clause -/
def b__law_is_clause : Ss := (.cons (.ife (.not (.isi (.var 1) .tuple)) (.cons (.ret (.bl false)) .nil) .nil) (.cons (.asg 2 (.str N_x)) (.cons (.for_ (.nm 3) (.it (.var 1)) L__law_is_clause_0) (.cons (.ret (.bl true)) .nil))))
def n30 : List Str := [N_names, N_clause, N_last, N_name]
def d30 : FD := ⟨2, 4, b__law_is_clause⟩
def L__law_due_0 : Ss := (.cons (.ife (.not (.call N__law_is_name (.cons (.var 4) .nil))) (.cons (.ret (.tup (.cons (.str N_InvalidName) (.cons (.var 4) .nil)))) .nil) .nil) .nil)
def L__law_due_1 : Ss := (.cons (.ife (.cmp .in_ (.ix (.var 1) (.var 5)) (.sl (.var 1) .none (.some (.var 5)))) (.cons (.ret (.tup (.cons (.str N_DuplicateName) (.cons (.ix (.var 1) (.var 5)) .nil)))) .nil) .nil) .nil)
def L__law_due_2 : Ss := (.cons (.ife (.or (.not (.isi (.var 6) .int)) (.or (.isi (.var 6) .bool) (.or (.cmp .lt (.var 6) (.int 0)) (.cmp .gt (.var 6) (.int 1000))))) (.cons (.ret (.tup (.cons (.str N_InvalidWeights) .nil))) .nil) .nil) .nil)
def L__law_due_3 : Ss := (.cons (.ife (.not (.call N__law_is_clause (.cons (.var 1) (.cons (.ix (.var 3) (.var 5)) .nil)))) (.cons (.ret (.tup (.cons (.str N_InvalidClause) (.cons (.var 5) .nil)))) .nil) .nil) .nil)
/-- _law_due -/
def b__law_due : Ss := (.cons (.ife (.not (.isi (.var 1) .tuple)) (.cons (.ret (.tup (.cons (.str N_InvalidName) (.cons (.var 1) .nil)))) .nil) .nil) (.cons (.for_ (.nm 4) (.it (.var 1)) L__law_due_0) (.cons (.ife (.cmp .gt (.bi .len (.cons (.var 1) .nil)) (.int 8)) (.cons (.ret (.tup (.cons (.str N_TooMany) (.cons (.int 8) .nil)))) .nil) .nil) (.cons (.for_ (.nm 5) (.rng1 (.bi .len (.cons (.var 1) .nil))) L__law_due_1) (.cons (.ife (.cmp .eq (.var 0) (.int 1)) (.cons (.ife (.or (.not (.isi (.var 2) .tuple)) (.cmp .ne (.bi .len (.cons (.var 2) .nil)) (.bi .len (.cons (.var 1) .nil)))) (.cons (.ret (.tup (.cons (.str N_InvalidWeights) .nil))) .nil) .nil) (.cons (.for_ (.nm 6) (.it (.var 2)) L__law_due_2) .nil)) .nil) (.cons (.ife (.not (.isi (.var 3) .tuple)) (.cons (.ret (.tup (.cons (.str N_InvalidClause) (.cons (.neg (.int 1)) .nil)))) .nil) .nil) (.cons (.ife (.cmp .gt (.bi .len (.cons (.var 3) .nil)) (.int 256)) (.cons (.ret (.tup (.cons (.str N_TooMany) (.cons (.int 256) .nil)))) .nil) .nil) (.cons (.for_ (.nm 5) (.rng1 (.bi .len (.cons (.var 3) .nil))) L__law_due_3) (.cons (.ret (.tup .nil)) .nil)))))))))
def n31 : List Str := [N_which, N_names, N_costs, N_clauses, N_name, N_k, N_cost]
def d31 : FD := ⟨4, 7, b__law_due⟩
/-- _law_answer -/
def b__law_answer : Ss := (.cons (.asg 4 .non) (.cons (.try_ (.cons (.ife (.cmp .eq (.var 0) (.int 0)) (.cons (.asg 4 (.call N_minimal_hitting (.cons (.var 1) (.cons (.var 3) .nil)))) .nil) (.cons (.asg 4 (.call N_cheapest_hitting (.cons (.var 1) (.cons (.var 2) (.cons (.var 3) .nil))))) .nil)) .nil) (.cons N_AlarmError (some 5) (.cons (.asg 6 (.lst (.cons (.isx 5 N_InvalidName) (.cons (.isx 5 N_TooMany) (.cons (.isx 5 N_DuplicateName) (.cons (.isx 5 N_InvalidWeights) .nil)))))) (.cons (.app 6 (.isx 5 N_InvalidClause)) (.cons (.ife (.or (.cmp .ne (.hsm 6 7) (.int 1)) (.not (.isx 5 N_ValueError))) (.cons (.ret (.tup (.cons (.str N_several) .nil))) .nil) .nil) (.cons (.ife (.isx 5 N_InvalidName) (.cons (.ret (.tup (.cons (.str N_InvalidName) (.cons (.xfl 5 N_value) .nil)))) .nil) .nil) (.cons (.ife (.isx 5 N_TooMany) (.cons (.ret (.tup (.cons (.str N_TooMany) (.cons (.xfl 5 N_bound) .nil)))) .nil) .nil) (.cons (.ife (.isx 5 N_DuplicateName) (.cons (.ret (.tup (.cons (.str N_DuplicateName) (.cons (.xfl 5 N_name) .nil)))) .nil) .nil) (.cons (.ife (.isx 5 N_InvalidClause) (.cons (.ret (.tup (.cons (.str N_InvalidClause) (.cons (.xfl 5 N_position) .nil)))) .nil) .nil) (.cons (.ret (.tup (.cons (.str N_InvalidWeights) .nil))) .nil)))))))) .nil)) (.cons (.ret (.tup (.cons (.str N_told) (.cons (.var 4) .nil)))) .nil)))
def n32 : List Str := [N_which, N_names, N_costs, N_clauses, N_answer, N_e, N_marks, N_mark]
def d32 : FD := ⟨4, 8, b__law_answer⟩
/-- _law_wrong -/
def b__law_wrong : Ss := (.cons (.asg 4 (.bin .mod (.bi .int (.cons (.ix (.var 3) (.int 0)) .nil)) (.bin .add (.bi .len (.cons (.var 0) .nil)) (.int 1)))) (.cons (.asg 5 (.ix (.lst (.cons (.str N_x) (.cons (.str N_A) (.cons (.str N_2a) (.cons (.str N_x97_32_98) (.cons (.str N_abcdefghijklm) (.cons .non (.cons (.int 3) (.cons (.bl true) (.cons (.tup (.cons (.str N_a) .nil)) (.cons (.lst (.cons (.str N_a) .nil)) .nil))))))))))) (.bin .mod (.bi .int (.cons (.ix (.var 3) (.int 1)) .nil)) (.int 10)))) (.cons (.asg 6 (.bi .tuple (.cons (.lc (.bin .add (.var 7) (.str N_98)) (.nm 7) (.it (.str N_abcdefghi)) .none) .nil))) (.cons (.asg 8 (.lst (.cons (.var 0) (.cons (.var 0) (.cons (.bi .list (.cons (.var 0) .nil)) (.cons .non (.cons (.str N_ab) (.cons (.bin .add (.bin .add (.sl (.var 0) .none (.some (.var 4))) (.tup (.cons (.var 5) .nil))) (.sl (.var 0) (.some (.var 4)) .none)) (.cons (.var 6) (.cons (.bin .add (.sl (.var 6) .none (.some (.int 1))) (.sl (.var 6) .none (.some (.int 8)))) (.cons (.bin .add (.var 0) (.sl (.var 0) .none (.some (.int 1)))) .nil))))))))))) (.cons (.asg 8 (.bin .add (.var 8) (.lst (.cons (.sl (.var 6) .none (.some (.int 8))) (.cons (.bin .add (.var 0) (.sl (.var 6) .none (.some (.int 8)))) (.cons (.sl (.var 0) (.some (.int 1)) .none) .nil)))))) (.cons (.asg 9 (.bin .mod (.bi .int (.cons (.ix (.var 3) (.int 2)) .nil)) (.bin .add (.bi .len (.cons (.var 1) .nil)) (.int 1)))) (.cons (.asg 10 (.ix (.lst (.cons (.neg (.int 1)) (.cons (.int 1001) (.cons (.bl true) (.cons .non (.cons (.str N_0) (.cons (.bin .pow (.int 10) (.int 30)) (.cons (.tup .nil) (.cons (.int 1000) .nil))))))))) (.bin .mod (.bi .int (.cons (.ix (.var 3) (.int 3)) .nil)) (.int 8)))) (.cons (.asg 11 (.lst (.cons (.var 1) (.cons (.var 1) (.cons (.bi .list (.cons (.var 1) .nil)) (.cons .non (.cons (.sl (.var 1) (.some (.int 1)) .none) (.cons (.bin .add (.var 1) (.tup (.cons (.int 0) .nil))) (.cons (.bin .add (.bin .add (.sl (.var 1) .none (.some (.var 9))) (.tup (.cons (.var 10) .nil))) (.sl (.var 1) (.some (.bin .add (.var 9) (.int 1))) .none)) (.cons (.int 0) .nil)))))))))) (.cons (.asg 12 (.ix (.lst (.cons (.bi .list (.cons (.var 0) .nil)) (.cons (.tup (.cons (.str N_zz98) .nil)) (.cons (.bin .add (.var 0) (.var 0)) (.cons (.rvt (.bi .sorted (.cons (.var 0) .nil))) (.cons (.str N_a) (.cons .non (.cons (.tup (.cons .non .nil)) (.cons (.int 0) (.cons (.tup .nil) .nil)))))))))) (.bin .mod (.bi .int (.cons (.ix (.var 3) (.int 4)) .nil)) (.int 9)))) (.cons (.asg 13 (.bin .mod (.bi .int (.cons (.ix (.var 3) (.int 5)) .nil)) (.bin .add (.bi .len (.cons (.var 2) .nil)) (.int 1)))) (.cons (.asg 14 (.lst (.cons (.var 2) (.cons (.bi .list (.cons (.var 2) .nil)) (.cons .non (.cons (.bin .add (.bin .add (.sl (.var 2) .none (.some (.var 13))) (.tup (.cons (.var 12) .nil))) (.sl (.var 2) (.some (.var 13)) .none)) (.cons (.bin .mul (.tup (.cons (.tup .nil) .nil)) (.int 257)) (.cons (.bin .mul (.tup (.cons (.tup .nil) .nil)) (.int 256)) (.cons (.bin .mul (.tup (.cons (.var 12) .nil)) (.int 257)) .nil))))))))) (.cons (.asg 15 (.bi .int (.cons (.ix (.var 3) (.int 6)) .nil))) (.cons (.ret (.tup (.cons (.ix (.var 8) (.bin .mod (.var 15) (.int 12))) (.cons (.ix (.var 11) (.bin .mod (.bi .int (.cons (.bin .fdiv (.var 15) (.int 12)) .nil)) (.int 8))) (.cons (.ix (.var 14) (.bin .mod (.bi .int (.cons (.bin .fdiv (.var 15) (.int 96)) .nil)) (.int 7))) .nil))))) .nil)))))))))))))
def n33 : List Str := [N_names, N_costs, N_clauses, N_digits, N_at, N_bad, N_nine, N_letter, N_rows, N_spot, N_cost, N_prices, N_other, N_place, N_rows_of_clauses, N_pick]
def d33 : FD := ⟨4, 16, b__law_wrong⟩
def L_law_0 : Ss := (.cons (.asg 11 (.ix (.var 9) (.bin .mod (.bi .int (.cons (.var 8) .nil)) (.int 24)))) (.cons (.asg 12 (.bin .mod (.bi .int (.cons (.bin .fdiv (.var 11) (.int 256)) .nil)) (.int 256))) (.cons (.ife (.cmp .gt (.bin .mod (.bi .int (.cons (.ix (.var 1) (.int 4)) .nil)) (.int 3)) (.int 0)) (.cons (.asg 12 (.bin .add (.ix (.lst (.cons (.bin .mod (.bi .int (.cons (.var 11) .nil)) (.int 256)) (.cons (.bin .add (.int 1) (.bin .mod (.bi .int (.cons (.var 11) .nil)) (.int 3))) (.cons (.bin .add (.bin .mod (.bi .int (.cons (.var 11) .nil)) (.int 256)) (.bin .mod (.bi .int (.cons (.bin .fdiv (.var 11) (.int 256)) .nil)) (.int 256))) .nil)))) (.bin .mod (.bi .int (.cons (.bin .fdiv (.ix (.var 1) (.int 4)) (.int 3)) .nil)) (.int 3))) (.bin .fdiv (.var 8) (.int 24)))) .nil) .nil) (.cons (.app 10 (.call N__law_chosen (.cons (.var 4) (.cons (.var 12) .nil)))) .nil))))
def L_law_1 : Ss := (.cons (.ife (.not (.call N__law_same (.cons (.call N_hits (.cons (.var 14) (.cons (.var 10) .nil))) (.cons (.call N__law_meets (.cons (.var 14) (.cons (.var 10) .nil))) .nil)))) (.cons (.ret (.bl false)) .nil) .nil) .nil)
def L_law_2 : Ss := (.cons (.asg 21 (.call N__law_due (.cons (.var 20) (.cons (.ix (.var 19) (.int 0)) (.cons (.ix (.var 19) (.int 1)) (.cons (.ix (.var 19) (.int 2)) .nil)))))) (.cons (.asg 22 (.call N__law_answer (.cons (.var 20) (.cons (.ix (.var 18) (.int 0)) (.cons (.ix (.var 18) (.int 1)) (.cons (.ix (.var 18) (.int 2)) .nil)))))) (.cons (.ife (.and (.cmp .gt (.bi .len (.cons (.var 21) .nil)) (.int 0)) (.not (.call N__law_same (.cons (.var 22) (.cons (.var 21) .nil))))) (.cons (.ret (.bl false)) .nil) .nil) (.cons (.ife (.and (.cmp .eq (.bi .len (.cons (.var 21) .nil)) (.int 0)) (.not (.call N__law_same (.cons (.sl (.var 22) .none (.some (.int 1))) (.cons (.tup (.cons (.str N_told) .nil)) .nil))))) (.cons (.ret (.bl false)) .nil) .nil) (.cons (.ife (.not (.call N__law_same (.cons (.var 18) (.cons (.var 19) .nil)))) (.cons (.ret (.bl false)) .nil) .nil) .nil)))))
def L_law_3 : Ss := (.cons (.asg 17 (.call N__law_digits (.cons (.call N__law_cell (.cons (.var 0) (.cons (.bin .add (.int 4) (.var 8)) .nil))) (.cons (.int 7) (.cons (.int 5040) (.cons (.bin .add (.int 5) (.var 8)) .nil)))))) (.cons (.asg 18 (.call N__law_wrong (.cons (.var 6) (.cons (.var 7) (.cons (.var 10) (.cons (.var 17) .nil)))))) (.cons (.asg 19 (.call N__law_wrong (.cons (.var 6) (.cons (.var 7) (.cons (.var 10) (.cons (.var 17) .nil)))))) (.cons (.for_ (.nm 20) (.rng1 (.int 2)) L_law_2) .nil))))
/-- law -/
def b_law : Ss := (.cons (.asg 1 (.call N__law_digits (.cons (.call N__law_cell (.cons (.var 0) (.cons (.int 0) .nil))) (.cons (.int 8) (.cons (.int 5040) (.cons (.int 1) .nil)))))) (.cons (.asg 2 (.bin .mod (.bi .int (.cons (.ix (.var 1) (.int 0)) .nil)) (.int 6))) (.cons (.asg 3 (.bin .mod (.bi .int (.cons (.ix (.var 1) (.int 1)) .nil)) (.int 7))) (.cons (.ife (.cmp .eq (.bin .mod (.bi .int (.cons (.ix (.var 1) (.int 2)) .nil)) (.int 8)) (.int 0)) (.cons (.asg 2 (.bin .add (.int 6) (.bin .mod (.bi .int (.cons (.ix (.var 1) (.int 0)) .nil)) (.int 3)))) .nil) (.cons (.ife (.cmp .eq (.bin .mod (.bi .int (.cons (.ix (.var 1) (.int 2)) .nil)) (.int 8)) (.int 1)) (.cons (.asg 3 (.bin .add (.int 60) (.bin .mod (.bi .int (.cons (.ix (.var 1) (.int 1)) .nil)) (.int 197)))) .nil) .nil) .nil)) (.cons (.asg 4 (.bi .sorted (.cons (.call N__law_names (.cons (.call N__law_cell (.cons (.var 0) (.cons (.int 1) .nil))) (.cons (.var 2) .nil))) .nil))) (.cons (.asg 5 (.call N__law_digits (.cons (.call N__law_cell (.cons (.var 0) (.cons (.int 2) .nil))) (.cons (.int 16) (.cons (.int 5040) (.cons (.int 3) .nil)))))) (.cons (.asg 6 (.bi .tuple (.cons (.call N__law_shuffled (.cons (.var 4) (.cons (.var 5) .nil))) .nil))) (.cons (.asg 7 (.bi .tuple (.cons (.lc (.bin .mod (.bi .int (.cons (.ix (.var 5) (.bin .add (.int 8) (.var 8))) .nil)) (.ix (.lst (.cons (.int 4) (.cons (.int 1001) .nil))) (.bin .mod (.bi .int (.cons (.ix (.var 1) (.int 3)) .nil)) (.int 2)))) (.nm 8) (.rng1 (.var 2)) .none) .nil))) (.cons (.asg 9 (.call N__law_digits (.cons (.call N__law_cell (.cons (.var 0) (.cons (.int 3) .nil))) (.cons (.int 24) (.cons (.int 65536) (.cons (.int 4) .nil)))))) (.cons (.asg 10 (.lst .nil)) (.cons (.for_ (.nm 8) (.rng1 (.var 3)) L_law_0) (.cons (.asg 10 (.bi .tuple (.cons (.var 10) .nil))) (.cons (.asg 13 (.call N__law_hearings (.cons (.var 4) .nil))) (.cons (.for_ (.nm 14) (.it (.var 13)) L_law_1) (.cons (.asg 15 (.bi .tuple (.cons (.lc (.var 14) (.nm 14) (.it (.var 13)) (.some (.call N__law_minimal (.cons (.var 14) (.cons (.var 10) .nil))))) .nil))) (.cons (.ife (.not (.call N__law_same (.cons (.call N__law_answer (.cons (.int 0) (.cons (.var 6) (.cons (.var 7) (.cons (.var 10) .nil))))) (.cons (.tup (.cons (.str N_told) (.cons (.var 15) .nil))) .nil)))) (.cons (.ret (.bl false)) .nil) .nil) (.cons (.ife (.not (.call N__law_same (.cons (.call N__law_answer (.cons (.int 0) (.cons (.var 6) (.cons (.var 7) (.cons (.var 15) .nil))))) (.cons (.tup (.cons (.str N_told) (.cons (.call N__law_least (.cons (.var 10) .nil)) .nil))) .nil)))) (.cons (.ret (.bl false)) .nil) .nil) (.cons (.asg 16 (.call N__law_cheapest (.cons (.var 13) (.cons (.var 6) (.cons (.var 7) (.cons (.var 10) .nil)))))) (.cons (.ife (.not (.call N__law_same (.cons (.call N__law_answer (.cons (.int 1) (.cons (.var 6) (.cons (.var 7) (.cons (.var 10) .nil))))) (.cons (.tup (.cons (.str N_told) (.cons (.var 16) .nil))) .nil)))) (.cons (.ret (.bl false)) .nil) .nil) (.cons (.for_ (.nm 8) (.rng1 (.int 4)) L_law_3) (.cons (.ret (.call N__law_same (.cons (.call N__law_answer (.cons (.int 1) (.cons (.var 6) (.cons (.var 7) (.cons (.var 10) .nil))))) (.cons (.tup (.cons (.str N_told) (.cons (.var 16) .nil))) .nil)))) .nil)))))))))))))))))))))
def n34 : List Str := [N_script, N_head, N_many, N_count, N_row, N_digits, N_names, N_costs, N_k, N_cells, N_clauses, N_cell, N_code, N_listed, N_hearing, N_least, N_best, N_turns, N_handed, N_kept, N_which, N_due, N_answer]
def d34 : FD := ⟨1, 23, b_law⟩
def tab : Tb where
  fns := [(N_is_integer, d0), (N_is_number, d1), (N_is_name, d2), (N_is_ascending, d3), (N_check_names, d4), (N_are_numbers, d5), (N_is_hearing, d6), (N_hearing_place, d7), (N_hearings, d8), (N_check_costs, d9), (N_check_clauses, d10), (N_meets, d11), (N_hits, d12), (N_has_all, d13), (N_has_one_of, d14), (N_cost_of, d15), (N_minimal_hitting, d16), (N_cheapest_hitting, d17), (N__law_cell, d18), (N__law_digits, d19), (N__law_names, d20), (N__law_same, d21), (N__law_shuffled, d22), (N__law_chosen, d23), (N__law_meets, d24), (N__law_hearings, d25), (N__law_minimal, d26), (N__law_least, d27), (N__law_cheapest, d28), (N__law_is_name, d29), (N__law_is_clause, d30), (N__law_due, d31), (N__law_answer, d32), (N__law_wrong, d33), (N_law, d34)]
  cons := [(N_LETTERS, .str N_abcdefghijklmnopqrstuvwxyz), (N_DIGITS, .str N_0123456789), (N_MOST_SIGNS, .int 12), (N_MOST_CHOICE, .int 8), (N_MOST_ALARMS, .int 8), (N_MOST_CLAUSES, .int 256), (N_MOST_COST, .int 1000)]
  exs := [(N_AlarmError, [], [N_AlarmError, N_ValueError]), (N_InvalidWeights, [], [N_InvalidWeights, N_AlarmError, N_ValueError]), (N_InvalidName, [N_value], [N_InvalidName, N_AlarmError, N_ValueError]), (N_DuplicateName, [N_name], [N_DuplicateName, N_AlarmError, N_ValueError]), (N_TooMany, [N_bound], [N_TooMany, N_AlarmError, N_ValueError]), (N_InvalidClause, [N_position], [N_InvalidClause, N_AlarmError, N_ValueError])]
  mths := []
  frs := [N_ValueError, N_bool, N_int, N_isinstance, N_len, N_list, N_range, N_reversed, N_sorted, N_str, N_sum, N_super, N_tuple]
  cls := []
  tops := [N_is_integer, N_is_number, N_is_name, N_is_ascending, N_check_names, N_are_numbers, N_is_hearing, N_hearing_place, N_hearings, N_check_costs, N_check_clauses, N_meets, N_hits, N_has_all, N_has_one_of, N_cost_of, N_minimal_hitting, N_cheapest_hitting, N__law_cell, N__law_digits, N__law_names, N__law_same, N__law_shuffled, N__law_chosen, N__law_meets, N__law_hearings, N__law_minimal, N__law_least, N__law_cheapest, N__law_is_name, N__law_is_clause, N__law_due, N__law_answer, N__law_wrong, N_law]
  hots := []
  nfs := [N_bound, N_name, N_position, N_value]
theorem c_is_integer (n : Nat) (x0 : D) : callD tab.g (n + 1) N_is_integer [x0] = endR (exs tab.g (cal tab.g n) b_is_integer [some (.sh, x0)]) := by kernel_rfl
theorem c_is_number (n : Nat) (x0 x1 x2 : D) : callD tab.g (n + 1) N_is_number [x0, x1, x2] = endR (exs tab.g (cal tab.g n) b_is_number [some (.sh, x0), some (.sh, x1), some (.sh, x2)]) := by kernel_rfl
theorem c_is_name (n : Nat) (x0 : D) : callD tab.g (n + 1) N_is_name [x0] = endR (exs tab.g (cal tab.g n) b_is_name [some (.sh, x0), none]) := by kernel_rfl
theorem c_is_ascending (n : Nat) (x0 : D) : callD tab.g (n + 1) N_is_ascending [x0] = endR (exs tab.g (cal tab.g n) b_is_ascending [some (.sh, x0), none]) := by kernel_rfl
theorem c_check_names (n : Nat) (x0 x1 : D) : callD tab.g (n + 1) N_check_names [x0, x1] = endR (exs tab.g (cal tab.g n) b_check_names [some (.sh, x0), some (.sh, x1), none, none]) := by kernel_rfl
theorem c_are_numbers (n : Nat) (x0 x1 x2 : D) : callD tab.g (n + 1) N_are_numbers [x0, x1, x2] = endR (exs tab.g (cal tab.g n) b_are_numbers [some (.sh, x0), some (.sh, x1), some (.sh, x2), none]) := by kernel_rfl
theorem c_is_hearing (n : Nat) (x0 x1 : D) : callD tab.g (n + 1) N_is_hearing [x0, x1] = endR (exs tab.g (cal tab.g n) b_is_hearing [some (.sh, x0), some (.sh, x1), none]) := by kernel_rfl
theorem c_hearing_place (n : Nat) (x0 : D) : callD tab.g (n + 1) N_hearing_place [x0] = endR (exs tab.g (cal tab.g n) b_hearing_place [some (.sh, x0)]) := by kernel_rfl
theorem c_hearings (n : Nat) (x0 : D) : callD tab.g (n + 1) N_hearings [x0] = endR (exs tab.g (cal tab.g n) b_hearings [some (.sh, x0), none, none, none]) := by kernel_rfl
theorem c_check_costs (n : Nat) (x0 x1 : D) : callD tab.g (n + 1) N_check_costs [x0, x1] = endR (exs tab.g (cal tab.g n) b_check_costs [some (.sh, x0), some (.sh, x1)]) := by kernel_rfl
theorem c_check_clauses (n : Nat) (x0 x1 : D) : callD tab.g (n + 1) N_check_clauses [x0, x1] = endR (exs tab.g (cal tab.g n) b_check_clauses [some (.sh, x0), some (.sh, x1), none]) := by kernel_rfl
theorem c_meets (n : Nat) (x0 x1 : D) : callD tab.g (n + 1) N_meets [x0, x1] = endR (exs tab.g (cal tab.g n) b_meets [some (.sh, x0), some (.sh, x1), none]) := by kernel_rfl
theorem c_hits (n : Nat) (x0 x1 : D) : callD tab.g (n + 1) N_hits [x0, x1] = endR (exs tab.g (cal tab.g n) b_hits [some (.sh, x0), some (.sh, x1), none]) := by kernel_rfl
theorem c_has_all (n : Nat) (x0 x1 : D) : callD tab.g (n + 1) N_has_all [x0, x1] = endR (exs tab.g (cal tab.g n) b_has_all [some (.sh, x0), some (.sh, x1), none]) := by kernel_rfl
theorem c_has_one_of (n : Nat) (x0 x1 : D) : callD tab.g (n + 1) N_has_one_of [x0, x1] = endR (exs tab.g (cal tab.g n) b_has_one_of [some (.sh, x0), some (.sh, x1), none]) := by kernel_rfl
theorem c_cost_of (n : Nat) (x0 x1 x2 : D) : callD tab.g (n + 1) N_cost_of [x0, x1, x2] = endR (exs tab.g (cal tab.g n) b_cost_of [some (.sh, x0), some (.sh, x1), some (.sh, x2), none, none]) := by kernel_rfl
theorem c_minimal_hitting (n : Nat) (x0 x1 : D) : callD tab.g (n + 1) N_minimal_hitting [x0, x1] = endR (exs tab.g (cal tab.g n) b_minimal_hitting [some (.sh, x0), some (.sh, x1), none, none]) := by kernel_rfl
theorem c_cheapest_hitting (n : Nat) (x0 x1 x2 : D) : callD tab.g (n + 1) N_cheapest_hitting [x0, x1, x2] = endR (exs tab.g (cal tab.g n) b_cheapest_hitting [some (.sh, x0), some (.sh, x1), some (.sh, x2), none, none, none]) := by kernel_rfl
theorem c__law_cell (n : Nat) (x0 x1 : D) : callD tab.g (n + 1) N__law_cell [x0, x1] = endR (exs tab.g (cal tab.g n) b__law_cell [some (.sh, x0), some (.sh, x1)]) := by kernel_rfl
theorem c__law_digits (n : Nat) (x0 x1 x2 x3 : D) : callD tab.g (n + 1) N__law_digits [x0, x1, x2, x3] = endR (exs tab.g (cal tab.g n) b__law_digits [some (.sh, x0), some (.sh, x1), some (.sh, x2), some (.sh, x3), none, none, none, none, none]) := by kernel_rfl
theorem c__law_names (n : Nat) (x0 x1 : D) : callD tab.g (n + 1) N__law_names [x0, x1] = endR (exs tab.g (cal tab.g n) b__law_names [some (.sh, x0), some (.sh, x1), none, none, none, none, none, none, none, none, none, none, none]) := by kernel_rfl
theorem c__law_same (n : Nat) (x0 x1 : D) : callD tab.g (n + 1) N__law_same [x0, x1] = endR (exs tab.g (cal tab.g n) b__law_same [some (.sh, x0), some (.sh, x1), none]) := by kernel_rfl
theorem c__law_shuffled (n : Nat) (x0 x1 : D) : callD tab.g (n + 1) N__law_shuffled [x0, x1] = endR (exs tab.g (cal tab.g n) b__law_shuffled [some (.sh, x0), some (.sh, x1), none, none, none]) := by kernel_rfl
theorem c__law_chosen (n : Nat) (x0 x1 : D) : callD tab.g (n + 1) N__law_chosen [x0, x1] = endR (exs tab.g (cal tab.g n) b__law_chosen [some (.sh, x0), some (.sh, x1), none, none, none]) := by kernel_rfl
theorem c__law_meets (n : Nat) (x0 x1 : D) : callD tab.g (n + 1) N__law_meets [x0, x1] = endR (exs tab.g (cal tab.g n) b__law_meets [some (.sh, x0), some (.sh, x1), none, none]) := by kernel_rfl
theorem c__law_hearings (n : Nat) (x0 : D) : callD tab.g (n + 1) N__law_hearings [x0] = endR (exs tab.g (cal tab.g n) b__law_hearings [some (.sh, x0), none, none, none, none, none, none]) := by kernel_rfl
theorem c__law_minimal (n : Nat) (x0 x1 : D) : callD tab.g (n + 1) N__law_minimal [x0, x1] = endR (exs tab.g (cal tab.g n) b__law_minimal [some (.sh, x0), some (.sh, x1), none]) := by kernel_rfl
theorem c__law_least (n : Nat) (x0 : D) : callD tab.g (n + 1) N__law_least [x0] = endR (exs tab.g (cal tab.g n) b__law_least [some (.sh, x0), none, none, none, none, none, none, none]) := by kernel_rfl
theorem c__law_cheapest (n : Nat) (x0 x1 x2 x3 : D) : callD tab.g (n + 1) N__law_cheapest [x0, x1, x2, x3] = endR (exs tab.g (cal tab.g n) b__law_cheapest [some (.sh, x0), some (.sh, x1), some (.sh, x2), some (.sh, x3), none, none, none, none]) := by kernel_rfl
theorem c__law_is_name (n : Nat) (x0 : D) : callD tab.g (n + 1) N__law_is_name [x0] = endR (exs tab.g (cal tab.g n) b__law_is_name [some (.sh, x0), none, none]) := by kernel_rfl
theorem c__law_is_clause (n : Nat) (x0 x1 : D) : callD tab.g (n + 1) N__law_is_clause [x0, x1] = endR (exs tab.g (cal tab.g n) b__law_is_clause [some (.sh, x0), some (.sh, x1), none, none]) := by kernel_rfl
theorem c__law_due (n : Nat) (x0 x1 x2 x3 : D) : callD tab.g (n + 1) N__law_due [x0, x1, x2, x3] = endR (exs tab.g (cal tab.g n) b__law_due [some (.sh, x0), some (.sh, x1), some (.sh, x2), some (.sh, x3), none, none, none]) := by kernel_rfl
theorem c__law_answer (n : Nat) (x0 x1 x2 x3 : D) : callD tab.g (n + 1) N__law_answer [x0, x1, x2, x3] = endR (exs tab.g (cal tab.g n) b__law_answer [some (.sh, x0), some (.sh, x1), some (.sh, x2), some (.sh, x3), none, none, none, none]) := by kernel_rfl
theorem c__law_wrong (n : Nat) (x0 x1 x2 x3 : D) : callD tab.g (n + 1) N__law_wrong [x0, x1, x2, x3] = endR (exs tab.g (cal tab.g n) b__law_wrong [some (.sh, x0), some (.sh, x1), some (.sh, x2), some (.sh, x3), none, none, none, none, none, none, none, none, none, none, none, none]) := by kernel_rfl
theorem c_law (n : Nat) (x0 : D) : callD tab.g (n + 1) N_law [x0] = endR (exs tab.g (cal tab.g n) b_law [some (.sh, x0), none, none, none, none, none, none, none, none, none, none, none, none, none, none, none, none, none, none, none, none, none, none]) := by kernel_rfl
@[simp] theorem con_LETTERS : tab.g.con N_LETTERS = some (.str N_abcdefghijklmnopqrstuvwxyz) := by kernel_rfl
@[simp] theorem con_DIGITS : tab.g.con N_DIGITS = some (.str N_0123456789) := by kernel_rfl
@[simp] theorem con_MOST_SIGNS : tab.g.con N_MOST_SIGNS = some (.int 12) := by kernel_rfl
@[simp] theorem con_MOST_CHOICE : tab.g.con N_MOST_CHOICE = some (.int 8) := by kernel_rfl
@[simp] theorem con_MOST_ALARMS : tab.g.con N_MOST_ALARMS = some (.int 8) := by kernel_rfl
@[simp] theorem con_MOST_CLAUSES : tab.g.con N_MOST_CLAUSES = some (.int 256) := by kernel_rfl
@[simp] theorem con_MOST_COST : tab.g.con N_MOST_COST = some (.int 1000) := by kernel_rfl
@[simp] theorem exf_AlarmError : tab.g.exf N_AlarmError = some [] := by kernel_rfl
@[simp] theorem sub_AlarmError_AlarmError : tab.g.sub N_AlarmError N_AlarmError = true := by kernel_rfl
@[simp] theorem sub_AlarmError_InvalidWeights : tab.g.sub N_AlarmError N_InvalidWeights = false := by kernel_rfl
@[simp] theorem sub_AlarmError_InvalidName : tab.g.sub N_AlarmError N_InvalidName = false := by kernel_rfl
@[simp] theorem sub_AlarmError_DuplicateName : tab.g.sub N_AlarmError N_DuplicateName = false := by kernel_rfl
@[simp] theorem sub_AlarmError_TooMany : tab.g.sub N_AlarmError N_TooMany = false := by kernel_rfl
@[simp] theorem sub_AlarmError_InvalidClause : tab.g.sub N_AlarmError N_InvalidClause = false := by kernel_rfl
@[simp] theorem sub_AlarmError_ValueError : tab.g.sub N_AlarmError N_ValueError = true := by kernel_rfl
@[simp] theorem exf_InvalidWeights : tab.g.exf N_InvalidWeights = some [] := by kernel_rfl
@[simp] theorem sub_InvalidWeights_AlarmError : tab.g.sub N_InvalidWeights N_AlarmError = true := by kernel_rfl
@[simp] theorem sub_InvalidWeights_InvalidWeights : tab.g.sub N_InvalidWeights N_InvalidWeights = true := by kernel_rfl
@[simp] theorem sub_InvalidWeights_InvalidName : tab.g.sub N_InvalidWeights N_InvalidName = false := by kernel_rfl
@[simp] theorem sub_InvalidWeights_DuplicateName : tab.g.sub N_InvalidWeights N_DuplicateName = false := by kernel_rfl
@[simp] theorem sub_InvalidWeights_TooMany : tab.g.sub N_InvalidWeights N_TooMany = false := by kernel_rfl
@[simp] theorem sub_InvalidWeights_InvalidClause : tab.g.sub N_InvalidWeights N_InvalidClause = false := by kernel_rfl
@[simp] theorem sub_InvalidWeights_ValueError : tab.g.sub N_InvalidWeights N_ValueError = true := by kernel_rfl
@[simp] theorem exf_InvalidName : tab.g.exf N_InvalidName = some [N_value] := by kernel_rfl
@[simp] theorem sub_InvalidName_AlarmError : tab.g.sub N_InvalidName N_AlarmError = true := by kernel_rfl
@[simp] theorem sub_InvalidName_InvalidWeights : tab.g.sub N_InvalidName N_InvalidWeights = false := by kernel_rfl
@[simp] theorem sub_InvalidName_InvalidName : tab.g.sub N_InvalidName N_InvalidName = true := by kernel_rfl
@[simp] theorem sub_InvalidName_DuplicateName : tab.g.sub N_InvalidName N_DuplicateName = false := by kernel_rfl
@[simp] theorem sub_InvalidName_TooMany : tab.g.sub N_InvalidName N_TooMany = false := by kernel_rfl
@[simp] theorem sub_InvalidName_InvalidClause : tab.g.sub N_InvalidName N_InvalidClause = false := by kernel_rfl
@[simp] theorem sub_InvalidName_ValueError : tab.g.sub N_InvalidName N_ValueError = true := by kernel_rfl
@[simp] theorem exf_DuplicateName : tab.g.exf N_DuplicateName = some [N_name] := by kernel_rfl
@[simp] theorem sub_DuplicateName_AlarmError : tab.g.sub N_DuplicateName N_AlarmError = true := by kernel_rfl
@[simp] theorem sub_DuplicateName_InvalidWeights : tab.g.sub N_DuplicateName N_InvalidWeights = false := by kernel_rfl
@[simp] theorem sub_DuplicateName_InvalidName : tab.g.sub N_DuplicateName N_InvalidName = false := by kernel_rfl
@[simp] theorem sub_DuplicateName_DuplicateName : tab.g.sub N_DuplicateName N_DuplicateName = true := by kernel_rfl
@[simp] theorem sub_DuplicateName_TooMany : tab.g.sub N_DuplicateName N_TooMany = false := by kernel_rfl
@[simp] theorem sub_DuplicateName_InvalidClause : tab.g.sub N_DuplicateName N_InvalidClause = false := by kernel_rfl
@[simp] theorem sub_DuplicateName_ValueError : tab.g.sub N_DuplicateName N_ValueError = true := by kernel_rfl
@[simp] theorem exf_TooMany : tab.g.exf N_TooMany = some [N_bound] := by kernel_rfl
@[simp] theorem sub_TooMany_AlarmError : tab.g.sub N_TooMany N_AlarmError = true := by kernel_rfl
@[simp] theorem sub_TooMany_InvalidWeights : tab.g.sub N_TooMany N_InvalidWeights = false := by kernel_rfl
@[simp] theorem sub_TooMany_InvalidName : tab.g.sub N_TooMany N_InvalidName = false := by kernel_rfl
@[simp] theorem sub_TooMany_DuplicateName : tab.g.sub N_TooMany N_DuplicateName = false := by kernel_rfl
@[simp] theorem sub_TooMany_TooMany : tab.g.sub N_TooMany N_TooMany = true := by kernel_rfl
@[simp] theorem sub_TooMany_InvalidClause : tab.g.sub N_TooMany N_InvalidClause = false := by kernel_rfl
@[simp] theorem sub_TooMany_ValueError : tab.g.sub N_TooMany N_ValueError = true := by kernel_rfl
@[simp] theorem exf_InvalidClause : tab.g.exf N_InvalidClause = some [N_position] := by kernel_rfl
@[simp] theorem sub_InvalidClause_AlarmError : tab.g.sub N_InvalidClause N_AlarmError = true := by kernel_rfl
@[simp] theorem sub_InvalidClause_InvalidWeights : tab.g.sub N_InvalidClause N_InvalidWeights = false := by kernel_rfl
@[simp] theorem sub_InvalidClause_InvalidName : tab.g.sub N_InvalidClause N_InvalidName = false := by kernel_rfl
@[simp] theorem sub_InvalidClause_DuplicateName : tab.g.sub N_InvalidClause N_DuplicateName = false := by kernel_rfl
@[simp] theorem sub_InvalidClause_TooMany : tab.g.sub N_InvalidClause N_TooMany = false := by kernel_rfl
@[simp] theorem sub_InvalidClause_InvalidClause : tab.g.sub N_InvalidClause N_InvalidClause = true := by kernel_rfl
@[simp] theorem sub_InvalidClause_ValueError : tab.g.sub N_InvalidClause N_ValueError = true := by kernel_rfl
end Lw

set_option maxHeartbeats 1000000
namespace Lw
open PySem S2
/-- a value that isinstance may be asked of -/
def okV : D → Bool
  | .dct _ _ => false
  | .ob _ _ _ => false
  | .str s => decide (s.length ≤ 1000000)
  | _ => true
def isInt : D → Bool
  | .int _ => true
  | _ => false
@[simp] theorem okV_non : okV .non = true := (rfl)
@[simp] theorem okV_bl (b : Bool) : okV (.bl b) = true := (rfl)
@[simp] theorem okV_int (b : Int) : okV (.int b) = true := (rfl)
@[simp] theorem okV_str (s : Str) : okV (.str s) = decide (s.length ≤ 1000000) := (rfl)
@[simp] theorem okV_tup (b : List D) : okV (.tup b) = true := (rfl)
@[simp] theorem okV_lst (b : List D) : okV (.lst b) = true := (rfl)
@[simp] theorem okV_scr (b : List Int) : okV (.scr b) = true := (rfl)
@[simp] theorem okV_dct (a b : List D) : okV (.dct a b) = false := (rfl)
@[simp] theorem okV_ob (a : Str) (b : List Str) (c : List D) : okV (.ob a b c) = false := (rfl)
@[simp] theorem isInt_non : isInt .non = false := (rfl)
@[simp] theorem isInt_bl (b : Bool) : isInt (.bl b) = false := (rfl)
@[simp] theorem isInt_int (b : Int) : isInt (.int b) = true := (rfl)
@[simp] theorem isInt_str (b : Str) : isInt (.str b) = false := (rfl)
@[simp] theorem isInt_tup (b : List D) : isInt (.tup b) = false := (rfl)
@[simp] theorem isInt_lst (b : List D) : isInt (.lst b) = false := (rfl)
@[simp] theorem isInt_scr (b : List Int) : isInt (.scr b) = false := (rfl)
def inB (v : D) (a b : Int) : Bool := match v with
  | .int i => decide (a ≤ i) && decide (i ≤ b)
  | _ => false
theorem inB_int (i a b : Int) : inB (.int i) a b = (decide (a ≤ i) && decide (i ≤ b)) := (rfl)
def lets : List Nat := [97, 98, 99, 100, 101, 102, 103, 104, 105, 106, 107, 108, 109, 110, 111, 112, 113, 114, 115, 116, 117, 118, 119, 120, 121, 122]
def digs : List Nat := [48, 49, 50, 51, 52, 53, 54, 55, 56, 57]
theorem N_lets : N_abcdefghijklmnopqrstuvwxyz = sg lets := rfl
theorem N_digs : N_0123456789 = sg digs := rfl
def goodC (c : Nat) : Bool := decide (c ∈ lets) || decide (c ∈ digs)
def nameL : List Nat → Bool
  | [] => false
  | c :: r => decide (r.length + 1 ≤ 12) && ((c :: r).all goodC && decide (c ∈ lets))
def nameB : D → Bool
  | .str s => nameL s.cps.toList
  | _ => false
@[simp] theorem nameB_sg (l : List Nat) : nameB (.str (sg l)) = nameL l := by show nameL (sg l).cps.toList = _; rw [sg_cps]
theorem find_none_all {p : D → Bool} {q : Nat → Bool} {l : List Nat} (h : ∀ c ∈ l, p (.str (sg [c])) = !q c) : (l.map fun c => D.str (sg [c])).find? p = none → l.all q = true := fun e => by
  rw [List.find?_eq_none] at e
  rw [List.all_eq_true]
  intro c hc
  have := e _ (List.mem_map.mpr ⟨c, hc, rfl⟩)
  rw [h c hc] at this
  simpa using this
theorem find_some_all {p : D → Bool} {q : Nat → Bool} {l : List Nat} {x : D} (h : ∀ c ∈ l, p (.str (sg [c])) = !q c) : (l.map fun c => D.str (sg [c])).find? p = some x → l.all q = false := fun e => by
  obtain ⟨c, hc, rfl⟩ := List.mem_map.mp (List.mem_of_find?_eq_some e)
  have := List.find?_some e
  rw [h c hc] at this
  rw [List.all_eq_false]
  exact ⟨c, hc, by simpa using this⟩
def badD : D → Bool
  | .str s => match s.cps.toList with
    | [c] => !goodC c
    | _ => false
  | _ => false
theorem badD_sg (c : Nat) : badD (.str (sg [c])) = !goodC c := by
  show (match (sg [c]).cps.toList with
    | [c] => !goodC c
    | _ => false) = _
  rw [sg_cps]
theorem nsz {l : List Nat} (h : l.length ≤ 12) : l.length ≤ 1000000 := by omega
theorem is_name_ok (n : Nat) (v : D) (h : okV v = true) : callD tab.g (n + 1) N_is_name [v] = .ok (.sh, .bl (nameB v)) := by
  rw [c_is_name, b_is_name]
  cases v with
  | str s =>
    obtain ⟨l, rfl⟩ := str_ex s
    rw [okV_str, sg_len, decide_eq_true_eq] at h
    rw [nameB_sg]
    cases l with
    | nil => simp [len_str (l := []) (by decide), nameL]
    | cons c r =>
      have hl := len_str h
      rw [List.length_cons] at hl
      by_cases h2 : r.length + 1 ≤ 12
      · have h1 : (1 : Int) ≤ (r.length : Int) + 1 := by omega
        have h3 : (r.length : Int) + 1 ≤ 12 := by omega
        obtain ⟨s', hs, e⟩ := forL_find (mk := fun s => [some (.sh, .str (sg (c :: r))), s]) (p := badD) (out := fun _ _ => .ret .sh (.bl false)) (f := fun x env' => exs tab.g (cal tab.g n) L_is_name_0 (List.set env' 1 (some (.sh, x)))) ((c :: r).map fun c => .str (sg [c])) none (fun x hx s => by
            obtain ⟨k, hk, rfl⟩ := List.mem_map.mp hx
            rw [badD_sg]
            simp only [goodC]
            by_cases d1 : k ∈ lets <;> by_cases d2 : k ∈ digs <;> simp [L_is_name_0, N_lets, N_digs, notin_chr, d1, d2]) (fun _ _ => rfl)
        have hi := itD_str (c :: r)
        have g0 : ixD (.str (sg (c :: r))) (.int 0) = .ok (.str (sg [c])) := ix_str h (atI_0 _ _)
        have i0 := in_chr c lets
        rcases e with ⟨x, e1, e2⟩ | ⟨e1, e2⟩
        · have a := find_some_all (q := goodC) (fun c _ => badD_sg c) e1
          simp [hl, h1, h3, hi]
          rw [List.map_cons] at e2
          rw [e2]
          simp [nameL, h2, a]
        · have a := find_none_all (q := goodC) (fun c _ => badD_sg c) e1
          simp [hl, h1, h3, hi]
          rw [List.map_cons] at e2
          rw [e2]
          simp [nameL, h2, a, g0, N_lets, i0]
      · have h3 : ¬ (r.length : Int) + 1 ≤ 12 := by omega
        simp [hl, h3, nameL, h2]
  | _ => first | (simp at h; done) | simp [nameB]
end Lw



set_option maxHeartbeats 1000000
namespace Lw
open PySem S2
inductive NR where
  | fine
  | inv (d : D)
  | many
  | dup (d : D)
def NR.due (b : Int) : NR → D
  | .fine => .tup []
  | .inv d => .tup [.str N_InvalidName, d]
  | .many => .tup [.str N_TooMany, .int b]
  | .dup d => .tup [.str N_DuplicateName, d]
def NR.out (b : Int) : NR → R OD
  | .fine => .ok (.sh, .non)
  | .inv d => .exc (.ob N_InvalidName [N_value] [d])
  | .many => .exc (.ob N_TooMany [N_bound] [.int b])
  | .dup d => .exc (.ob N_DuplicateName [N_name] [d])
def dupAt (l : List D) : D → Bool
  | .int k => (l.take k.toNat).any fun z => PyData.eqv (py z) (py (l[k.toNat]?.getD .non))
  | _ => false
def itemAt (l : List D) : D → D
  | .int k => l[k.toNat]?.getD .non
  | _ => .non
def namesR (v : D) (b : Int) : NR := match v with
  | .tup l => match l.find? (fun x => !nameB x) with
    | some x => .inv x
    | none => if b < l.length then .many else match (upto 0 l.length).find? (dupAt l) with
      | some k => .dup (itemAt l k)
      | none => .fine
  | v => .inv v
/-- what a row of names may be -/
def nv : D → Bool
  | .tup l => decide (l.length ≤ 1000) && l.all okV
  | v => okV v
theorem nv_ok {v : D} (h : nv v = true) : okV v = true := by
  cases v <;> first | exact h | rfl
theorem name_str {d : D} (h : nameB d = true) : ∃ l, d = .str (sg l) ∧ nameL l = true := by
  cases d <;> first | (exact absurd h Bool.false_ne_true) | skip
  rename_i s
  exact ⟨_, by rw [← sg_of], h⟩
theorem names_pl {l : List D} (h : l.find? (fun x => !nameB x) = none) : ∀ x ∈ l, pl 1 x = true := fun x hx => by
  rw [List.find?_eq_none] at h
  have := h x hx
  obtain ⟨k, rfl, _⟩ := name_str (d := x) (by simpa using this)
  rfl
theorem dup_step {l : List D} (hl : l.length ≤ 1000) (hp : ∀ x ∈ l, pl 1 x = true) {k : Nat} (hk : k < l.length) : L2.atI l (k : Int) = some l[k] ∧ cmpD .in_ l[k] (.tup (l.take k)) = .ok (dupAt l (.int k)) := by
  refine ⟨atI_nat hk, ?_⟩
  rw [in_tup (plainB_pl (hp _ (List.getElem_mem hk))) (plainB_pl (pl_tup (by rw [List.length_take]; omega) fun d hd => hp d (List.mem_of_mem_take hd)))]
  simp only [dupAt, Int.toNat_natCast]
  rw [List.getElem?_eq_getElem hk]
  rfl
theorem check_names_ok (n : Nat) (v : D) (b : Int) (h : nv v = true) : callD tab.g (n + 2) N_check_names [v, .int b] = (namesR v b).out b := by
  rw [c_check_names, b_check_names]
  cases v with
  | tup l =>
    have h : (decide (l.length ≤ 1000) && l.all okV) = true := h
    rw [Bool.and_eq_true, decide_eq_true_eq, List.all_eq_true] at h
    obtain ⟨hl, ho⟩ := h
    obtain ⟨s', hs, e⟩ := forL_find (mk := fun s => [some (.sh, .tup l), some (.sh, .int b), s, none]) (p := fun x => !nameB x) (out := fun _ x => .exc [some (.sh, .tup l), some (.sh, .int b), some (.sh, x), none] (.ob N_InvalidName [N_value] [x])) (f := fun x env' => exs tab.g (cal tab.g (n + 1)) L_check_names_0 (List.set env' 2 (some (.sh, x)))) l none (fun x hx s => by
      have := is_name_ok n x (ho x hx)
      cases e : nameB x <;> simp [L_check_names_0, this, e]) (fun _ _ => rfl)
    rcases e with ⟨x, e1, e2⟩ | ⟨e1, e2⟩
    · simp [e2, namesR, e1, NR.out]
    · by_cases hb : b < l.length
      · simp [e2, namesR, e1, hb, NR.out]
      · have hp := names_pl e1
        obtain ⟨s2, _, e⟩ := forL_find (mk := fun s => [some (.sh, .tup l), some (.sh, .int b), s', s]) (p := dupAt l) (out := fun _ x => .exc [some (.sh, .tup l), some (.sh, .int b), s', some (.sh, x)] (.ob N_DuplicateName [N_name] [itemAt l x])) (f := fun x env' => exs tab.g (cal tab.g (n + 1)) L_check_names_1 (List.set env' 3 (some (.sh, x)))) (upto 0 l.length) none (fun x hx s => by
          obtain ⟨k, rfl, hk⟩ := upto_mem hx
          obtain ⟨a1, a2⟩ := dup_step hl hp hk
          have ei : itemAt l (.int k) = l[k] := by simp only [itemAt, Int.toNat_natCast]; rw [List.getElem?_eq_getElem hk]; rfl
          cases e : dupAt l (.int k) <;> rw [e] at a2 <;> rcases hs with rfl | ⟨_, rfl⟩ <;> simp [L_check_names_1, a1, a2, slD_tup, cut_to, ei]) (fun _ _ => rfl)
        have hr := rng_nat (show l.length ≤ 1000000 by omega)
        rcases e with ⟨x, e3, e4⟩ | ⟨e3, e4⟩
        · simp [e2, namesR, e1, hb, NR.out, hr, e3, e4]
        · simp [e2, namesR, e1, hb, NR.out, hr, e3, e4]
  | _ => first | (simp [nv] at h; done) | simp [namesR, NR.out]
end Lw



set_option maxHeartbeats 1000000
namespace Lw
open PySem S2
/-! same(d, d) -/
def Sm (k : Nat) (d : D) : Prop := ∀ n, callD tab.g (n + k) N__law_same [d, d] = .ok (.sh, .bl true)
theorem Sm.up {k : Nat} {d : D} (h : Sm k d) : Sm (k + 1) d := fun n => by
  have := h (n + 1)
  rwa [show n + 1 + k = n + (k + 1) by omega] at this
theorem Sm.to {k m : Nat} {d : D} (h : Sm k d) (e : k ≤ m) : Sm m d := by
  induction m with
  | zero => rwa [show k = 0 by omega] at h
  | succ m ih =>
    rcases Nat.lt_or_ge m k with z | z
    · rwa [show k = m + 1 by omega] at h
    · exact (ih z).up
theorem sm_non : Sm 1 .non := fun n => by rw [c__law_same, b__law_same]; simp [isNonD]
theorem sm_bl (b : Bool) : Sm 1 (.bl b) := fun n => by rw [c__law_same, b__law_same]; simp [isNonD]
theorem sm_int (b : Int) : Sm 1 (.int b) := fun n => by rw [c__law_same, b__law_same]; simp [isNonD]
theorem sm_str (b : Str) : Sm 1 (.str b) := fun n => by rw [c__law_same, b__law_same]; simp [isNonD]
theorem sm_tup (l : List D) (k : Nat) (hl : l.length ≤ 1000000) (h : ∀ x ∈ l, Sm k x) : Sm (k + 1) (.tup l) := fun n => by
  have e : callD tab.g (n + (k + 1)) N__law_same [.tup l, .tup l] = endR (exs tab.g (cal tab.g (n + k)) b__law_same [some (.sh, .tup l), some (.sh, .tup l), none]) := c__law_same (n + k) _ _
  rw [e, b__law_same]
  have hr := rng_nat hl
  simp [hr]
  refine forL_up (Post := fun o => endR ((o.seq _).seq _) = .ok (.sh, .bl true)) (fun k env => ∃ s, env = [some (.sh, .tup l), some (.sh, .tup l), s]) ⟨none, rfl⟩ (fun j env hj ⟨s, e⟩ => ?_) (fun env ⟨s, e⟩ => ?_)
  · subst e
    have a1 := atI_nat (l := l) hj
    have h1 := h l[j] (List.getElem_mem hj) n
    exact .inl ⟨_, .inl (by simp [L__law_same_0, a1, h1]; rfl), _, rfl⟩
  · subst e
    simp
theorem sm_lst (l : List D) (k : Nat) (h : Sm k (.tup l)) : Sm (k + 1) (.lst l) := fun n => by
  have e : callD tab.g (n + (k + 1)) N__law_same [.lst l, .lst l] = endR (exs tab.g (cal tab.g (n + k)) b__law_same [some (.sh, .lst l), some (.sh, .lst l), none]) := c__law_same (n + k) _ _
  rw [e, b__law_same]
  simp [h n]
theorem same_pl : ∀ (j : Nat) {d : D}, pl j d = true → Sm (2 * j + 1) d
  | j, .non, _ => sm_non.to (by omega)
  | j, .bl b, _ => (sm_bl b).to (by omega)
  | j, .int b, _ => (sm_int b).to (by omega)
  | j, .str b, _ => (sm_str b).to (by omega)
  | 0, .tup _, h => by simp [pl] at h
  | 0, .lst _, h => by simp [pl] at h
  | j + 1, .tup l, h => (sm_tup l (2 * j + 1) (tup_pl h).1 fun x hx => same_pl j ((tup_pl h).2 x hx)).to (by omega)
  | j + 1, .lst l, h => (sm_lst l (2 * j + 2) (sm_tup l (2 * j + 1) (lst_pl h).1 fun x hx => same_pl j ((lst_pl h).2 x hx))).to (by omega)
  | j, .dct _ _, h => by cases j <;> (simp [pl] at h; done)
  | j, .scr _, h => by cases j <;> (simp [pl] at h; done)
  | j, .ob _ _ _, h => by cases j <;> (simp [pl] at h; done)
/-! the script -/
theorem cell_ok (n : Nat) (ns : List Int) (k : Int) (hk : 0 ≤ k) : ∃ i, callD tab.g (n + 1) N__law_cell [.scr ns, .int k] = .ok (.sh, .int i) := by
  rw [c__law_cell, b__law_cell]
  by_cases e2 : k < ns.length
  · obtain ⟨x, _, hx⟩ := atI_mem hk e2
    refine ⟨x, ?_⟩
    simp [e2, hx]
  · by_cases e : ns.length = 0
    · refine ⟨k, ?_⟩
      simp [e, hk]
      intro hk2
      omega
    · have h0 : (0 : Int) < ns.length := by omega
      obtain ⟨x, _, hx⟩ := atI_mem (l := ns) (k := 0) (by decide) h0
      refine ⟨x % 1000003 + 31 * k, ?_⟩
      simp [e, e2, hx, mod_ii x 1000003 (by decide), mul_ii 31 k (mulOk_l (by decide) (by decide))]
theorem digits_ok (n : Nat) (c b s : Int) (m : Nat) (hb : 0 < b) (hb2 : b < 1073741824) (hm : m ≤ 1000) : ∃ l : List D, callD tab.g (n + 1) N__law_digits [.int c, .int m, .int b, .int s] = .ok (.o1, .lst l) ∧ l.length = m ∧ IL m b l := by
  rw [c__law_digits, b__law_digits]
  have p1 : binD .pow (.int 10) (.int 18) = .ok (.int 1000000000000000000) := by simp only [binD]; exact if_pos (by decide)
  have hr := rng_nat (show m ≤ 1000000 by omega)
  have next : ∀ (l : List D) (y : Int), (∀ x ∈ l, ∃ v : Int, x = .int v ∧ 0 ≤ v ∧ v < b) → 0 ≤ y → y < b → ∀ x ∈ l ++ [.int y], ∃ v : Int, x = .int v ∧ 0 ≤ v ∧ v < b := fun l y hx h1 h2 x hm => by
    rcases List.mem_append.mp hm with h | h
    · exact hx x h
    · exact ⟨y, List.mem_singleton.mp h, h1, h2⟩
  have nol : ∀ l : List D, (∀ x ∈ l, ∃ v : Int, x = .int v ∧ 0 ≤ v ∧ v < b) → hasLs l = false := fun l h => by
    induction l with
    | nil => rfl
    | cons a r ih =>
      obtain ⟨v, rfl, _⟩ := h a List.mem_cons_self
      rw [hasLs_cons, ih fun x hx => h x (List.mem_cons_of_mem _ hx)]
      rfl
  by_cases hc : 1000000000000000000 ≤ c
  · simp [p1, hc, hr]
    refine forL_up (Post := fun o => ∃ l : List D, endR ((o.seq _).seq _) = .ok (.o1, .lst l) ∧ l.length = m ∧ IL m b l)
      (fun k env => ∃ (rest : Int) (l : List D) (s6 : S2.Slot), env = [some (.sh, .int c), some (.sh, .int m), some (.sh, .int b), some (.sh, .int s), some (.o1, .lst l), some (.sh, .int rest), s6, none, none] ∧ l.length = k ∧ ∀ x ∈ l, ∃ v : Int, x = .int v ∧ 0 ≤ v ∧ v < b)
      ⟨_, [], none, rfl, rfl, by simp⟩ (fun k env hk ⟨rest, l, s6, e, hl, hx⟩ => ?_) (fun env ⟨rest, l, s6, e, hl, hx⟩ => ?_)
    · subst e
      have sz := szL_lt (show l.length ≤ 1000000 by omega)
      exact .inl ⟨_, .inl (by simp [L__law_digits_0, mod_ii _ _ hb, div_ii _ _ hb hb2, sz]; rfl), rest / b, l ++ [.int (rest % b)], some (.sh, .int k), by simp, by simp [hl], next _ _ hx (Int.emod_nonneg _ (by omega)) (Int.emod_lt_of_pos _ hb)⟩
    · subst e
      exact ⟨l, by simp, hl, by rw [IL]; exact ⟨by omega, hx⟩⟩
  · have m0 := mul_ii 7919 s (mulOk_l (by decide) (by decide))
    simp [p1, hc, hr, mod_ii c 1000003 (by decide), m0]
    refine forL_up (Post := fun o => ∃ l : List D, endR (o.seq _) = .ok (.o1, .lst l) ∧ l.length = m ∧ IL m b l)
      (fun k env => ∃ (seed : Int) (l : List D) (s6 s8 : S2.Slot), env = [some (.sh, .int c), some (.sh, .int m), some (.sh, .int b), some (.sh, .int s), some (.o1, .lst l), some (.sh, .int (c - 1000000000000000000)), s6, some (.sh, .int seed), s8] ∧ l.length = k ∧ ∀ x ∈ l, ∃ v : Int, x = .int v ∧ 0 ≤ v ∧ v < b)
      ⟨_, [], none, none, rfl, rfl, by simp⟩ (fun k env hk ⟨seed, l, s6, s8, e, hl, hx⟩ => ?_) (fun env ⟨seed, l, s6, s8, e, hl, hx⟩ => ?_)
    · subst e
      have sz := szL_lt (show l.length ≤ 1000000 by omega)
      have m1 := mul_ii seed 48271 (mulOk_r (by decide) (by decide))
      have m2 := mul_ii 11 (k : Int) (mulOk_l (by decide) (by decide))
      have b1 := modP (seed * 48271 + 11 * k + 7) (show (0 : Int) < 2147483647 by decide)
      have m3 := mul_ii ((seed * 48271 + 11 * k + 7) % 2147483647 / 64) ((seed * 48271 + 11 * k + 7) % 2147483647 / 32768 + 3) (mulOk_l (by omega) (by omega))
      obtain ⟨z, hz⟩ : ∃ z, (seed * 48271 + 11 * (k : Int) + 7) % 2147483647 = z := ⟨_, rfl⟩
      rw [hz] at b1 m3
      exact .inl ⟨[some (.sh, .int c), some (.sh, .int m), some (.sh, .int b), some (.sh, .int s), some (.o1, .lst (l ++ [.int ((z / 64 * (z / 32768 + 3) + k) % 1000000007 / 5 % b)])), some (.sh, .int (c - 1000000000000000000)), some (.sh, .int k), some (.sh, .int z), some (.sh, .int ((z / 64 * (z / 32768 + 3) + k) % 1000000007))],
        .inl (by simp [L__law_digits_1, m1, m2, hz, m3, mod_ii _ 2147483647 (by decide), mod_ii _ 1000000007 (by decide), div_ii _ 64 (by decide) (by decide), div_ii _ 32768 (by decide) (by decide), div_ii _ 5 (by decide) (by decide), mod_ii _ _ hb, sz]), _, _, _, _, rfl, by simp [hl], next _ _ hx (Int.emod_nonneg _ (by omega)) (Int.emod_lt_of_pos _ hb)⟩
    · subst e
      exact ⟨l, by simp, hl, by rw [IL]; exact ⟨by omega, hx⟩⟩
end Lw



set_option maxHeartbeats 1000000
namespace Lw
open PySem S2
theorem Sh.of {s : Str} {m : Nat} (h : s.length ≤ m) : Sh m (.str s) := ⟨s.cps.toList, by rw [← sg_of], by rw [Array.length_toList]; exact h⟩
def shB (m : Nat) : D → Bool
  | .str s => decide (s.length ≤ m)
  | _ => false
theorem shB_ok {m : Nat} {l : List D} (h : l.all (shB m) = true) : ∀ d ∈ l, Sh m d := fun d hd => by
  have := List.all_eq_true.mp h d hd
  cases d <;> first | (exact absurd this Bool.false_ne_true) | skip
  exact Sh.of (of_decide_eq_true this)
def poolD : List D := [.str N_a, .str N_b, .str N_aa, .str N_ab, .str N_a0, .str N_plant, .str N_alarm, .str N_fault, .str N_step, .str N_z, .str N_z9, .str N_abcdefghijkl, .str N_abcdefghijkm, .str N_b2b, .str N_m, .str N_mm]
theorem N_empty : N_x = sg [] := rfl
theorem chr_at {l : List Nat} (hl : l.length ≤ 1000) {x : Int} (h0 : 0 ≤ x) (h1 : x < l.length) : ∃ c ∈ l, ixD (.str (sg l)) (.int x) = .ok (.str (sg [c])) := by
  obtain ⟨c, hc, e⟩ := atI_mem h0 h1
  exact ⟨c, hc, ix_str (by omega) e⟩
theorem nols {l : List D} {m : Nat} (h : ∀ d ∈ l, Sh m d) : hasLs l = false := by
  induction l with
  | nil => rfl
  | cons a r ih =>
    obtain ⟨v, rfl, _⟩ := h a List.mem_cons_self
    rw [hasLs_cons, ih fun x hx => h x (List.mem_cons_of_mem _ hx)]
    simp
theorem nolI {l : List D} {m : Nat} {b : Int} (h : IL m b l) : hasLs l = false := by
  obtain ⟨h0, h⟩ := h
  clear h0
  induction l with
  | nil => rfl
  | cons a r ih =>
    obtain ⟨v, rfl, _⟩ := h a List.mem_cons_self
    rw [hasLs_cons, ih fun x hx => h x (List.mem_cons_of_mem _ hx)]
    rfl
theorem sh_str {m : Nat} {l : List Nat} (h : l.length ≤ m) : Sh m (.str (sg l)) := ⟨l, rfl, h⟩
theorem chr_ix {l : List Nat} (hl : l.length ≤ 1000) {x : Int} (h0 : 0 ≤ x) (h1 : x < l.length) : ∃ c, l[x.toNat]? = some c ∧ c ∈ l ∧ ixD (.str (sg l)) (.int x) = .ok (.str (sg [c])) := by
  obtain ⟨h2, e⟩ := atI_int h0 h1
  exact ⟨l[x.toNat], List.getElem?_eq_getElem h2, List.getElem_mem h2, ix_str (by omega) e⟩
/-- names, no two alike -/
structure Names (l : List D) : Prop where
  nm : ∀ d ∈ l, nameB d = true
  ne : ∀ i j (hi : i < l.length) (hj : j < l.length), i < j → l[i] ≠ l[j]
theorem Names.sh {l : List D} (h : Names l) : ∀ d ∈ l, Sh 20 d := fun d hd => by
  obtain ⟨z, rfl, hz⟩ := name_str (h.nm d hd)
  refine sh_str ?_
  cases z with
  | nil => decide
  | cons c r =>
    simp only [nameL, Bool.and_eq_true, decide_eq_true_eq] at hz
    rw [List.length_cons]
    omega
theorem lets_nodup : lets.Nodup := by decide
theorem lets_ne {a b : Int} {i j : Nat} {c : Nat} (hi : i < 26) (hj : j < 26) (hij : i < j) (h1 : lets[((a + 5 * (i : Int)) % 26).toNat]? = some c) (h2 : lets[((a + 5 * (j : Int)) % 26).toNat]? = some c) : False := by
  have b1 := modP (a + 5 * (i : Int)) (show (0 : Int) < 26 by decide)
  have b2 := modP (a + 5 * (j : Int)) (show (0 : Int) < 26 by decide)
  have l1 : ((a + 5 * (i : Int)) % 26).toNat < lets.length := by have : lets.length = 26 := rfl; omega
  have l2 : ((a + 5 * (j : Int)) % 26).toNat < lets.length := by have : lets.length = 26 := rfl; omega
  rw [List.getElem?_eq_getElem l1] at h1
  rw [List.getElem?_eq_getElem l2] at h2
  have e : lets[((a + 5 * (i : Int)) % 26).toNat] = lets[((a + 5 * (j : Int)) % 26).toNat] := by
    have := Option.some.inj h1
    have := Option.some.inj h2
    omega
  have := (List.getElem_inj lets_nodup).mp e
  omega
theorem goods : ∀ c ∈ lets ++ digs, goodC c = true := by decide
theorem good_let {c : Nat} (h : c ∈ lets) : goodC c = true := goods c (List.mem_append_left _ h)
theorem nameL_of {c : Nat} {r : List Nat} (h1 : r.length ≤ 11) (h2 : c ∈ lets) (h3 : r.all goodC = true) : nameL (c :: r) = true := by
  show (decide (r.length + 1 ≤ 12) && ((c :: r).all goodC && decide (c ∈ lets))) = true
  rw [decide_eq_true (show r.length + 1 ≤ 12 by omega), decide_eq_true h2, List.all_cons, h3, good_let h2]
  rfl
def poolS : List (List Nat) := [[97], [98], [97, 97], [97, 98], [97, 48], [112, 108, 97, 110, 116], [97, 108, 97, 114, 109], [102, 97, 117, 108, 116], [115, 116, 101, 112], [122], [122, 57], [97, 98, 99, 100, 101, 102, 103, 104, 105, 106, 107, 108], [97, 98, 99, 100, 101, 102, 103, 104, 105, 106, 107, 109], [98, 50, 98], [109], [109, 109]]
theorem pool_eq : poolD = poolS.map fun l => .str (sg l) := rfl
theorem pool_nodup : poolS.Nodup := by decide
theorem pool_names : ∀ z ∈ poolS, nameL z = true := by decide
theorem names_pool (v : Int) {l : List D} (hl : l.length ≤ 16) (h : ∀ k (h : k < l.length), ∃ z, poolS[((v + 5 * (k : Int)) % 16).toNat]? = some z ∧ l[k] = .str (sg z)) : Names l := by
  refine ⟨fun d hd => ?_, fun i j hi hj hij e => ?_⟩
  · obtain ⟨k, hk, rfl⟩ := List.getElem_of_mem hd
    obtain ⟨z, hz, e⟩ := h k hk
    rw [e, nameB_sg]
    exact pool_names z (List.mem_of_getElem? hz)
  · obtain ⟨z, hz, e1⟩ := h i hi
    obtain ⟨z', hz', e2⟩ := h j hj
    rw [e1, e2] at e
    obtain rfl : z = z' := by injection e with e; exact sg_inj e
    have b1 := modP (v + 5 * (i : Int)) (show (0 : Int) < 16 by decide)
    have b2 := modP (v + 5 * (j : Int)) (show (0 : Int) < 16 by decide)
    have l1 : ((v + 5 * (i : Int)) % 16).toNat < poolS.length := by have : poolS.length = 16 := rfl; omega
    have l2 : ((v + 5 * (j : Int)) % 16).toNat < poolS.length := by have : poolS.length = 16 := rfl; omega
    rw [List.getElem?_eq_getElem l1] at hz
    rw [List.getElem?_eq_getElem l2] at hz'
    have := (List.getElem_inj pool_nodup).mp ((Option.some.inj hz).trans (Option.some.inj hz').symm)
    omega
/-- each has its own letter at the place p -/
def Keyed (p : Nat) (v : Int) (l : List D) : Prop := ∀ k (h : k < l.length), ∃ z c, l[k] = .str (sg z) ∧ nameL z = true ∧ z[p]? = some c ∧ lets[((v + 5 * (k : Int)) % 26).toNat]? = some c
theorem Keyed.names {p : Nat} {v : Int} {l : List D} (h : Keyed p v l) (hl : l.length ≤ 26) : Names l := by
  refine ⟨fun d hd => ?_, fun i j hi hj hij e => ?_⟩
  · obtain ⟨k, hk, rfl⟩ := List.getElem_of_mem hd
    obtain ⟨z, c, e, hz, _⟩ := h k hk
    rw [e, nameB_sg, hz]
  · obtain ⟨z, c, e1, _, h1, h2⟩ := h i hi
    obtain ⟨z', c', e2, _, h3, h4⟩ := h j hj
    rw [e1, e2] at e
    obtain rfl : z = z' := by injection e with e; exact sg_inj e
    rw [h1] at h3
    cases h3
    exact lets_ne (b := 0) (by omega) (by omega) hij h2 h4
theorem Keyed.app {p : Nat} {v : Int} {l : List D} (h : Keyed p v l) {z : List Nat} {c : Nat} (h1 : nameL z = true) (h2 : z[p]? = some c) (h3 : lets[((v + 5 * (l.length : Int)) % 26).toNat]? = some c) : Keyed p v (l ++ [.str (sg z)]) := fun k hk => by
  by_cases hk2 : k < l.length
  · obtain ⟨z', c', e, r⟩ := h k hk2
    exact ⟨z', c', by rw [List.getElem_append_left hk2]; exact e, r⟩
  · rw [List.length_append, List.length_singleton] at hk
    obtain rfl : k = l.length := by omega
    exact ⟨z, c, by simp, h1, h2, h3⟩
theorem names_ok (n : Nat) (c : Int) (m : Nat) (hm : m ≤ 16) : ∃ l : List D, callD tab.g (n + 2) N__law_names [.int c, .int m] = .ok (.o1, .lst l) ∧ l.length = m ∧ Names l := by
  rw [c__law_names, b__law_names]
  obtain ⟨ds, hds, hlen, il⟩ := digits_ok n c 396 2 32 (by decide) (by decide) (by decide)
  have hds : callD tab.g (n + 1) N__law_digits [.int c, .int 32, .int 396, .int 2] = .ok (.o1, .lst ds) := hds
  have m0 := mul_ii 36 11 (mulOk_l (by decide) (by decide))
  have ha : binD .add (.str (sg lets)) (.str (sg digs)) = .ok (.str (sg (lets ++ digs))) := add_str (by decide)
  have z16 := szL_of (show 16 ≤ 1000000 by decide)
  obtain ⟨v0, a0, g0, _⟩ := il.at 0 (by decide)
  obtain ⟨v1, a1, g1, _⟩ := il.at 1 (by decide)
  obtain ⟨v13, a13, g13, _⟩ := il.at 13 (by decide)
  obtain ⟨v14, a14, g14, _⟩ := il.at 14 (by decide)
  obtain ⟨v15, a15, g15, _⟩ := il.at 15 (by decide)
  simp only [Int.cast_ofNat_Int] at a0 a1 a13 a14 a15
  have nd := nolI il
  have hr := rng_nat (show m ≤ 1000000 by omega)
  by_cases hc : v0 % 3 = 0
  · obtain ⟨ys, e, hl, hp⟩ := lc_rix (g := tab.g) (C := cal tab.g (n + 1)) (i := 6) (o := .sh) (n := m) (P := fun k y => ∃ z, poolS[((v1 + 5 * (k : Int)) % 16).toNat]? = some z ∧ y = .str (sg z)) (a := .var 1) (env := [some (.sh, .int c), some (.sh, .int m), some (.sh, .str (sg lets)), some (.sh, .str (sg (lets ++ digs))), some (.o1, .lst poolD), some (.o1, .lst ds), none, none, none, none, none, none, none])
      (elt := .ix (.var 4) (.bin .mod (.bi .int (.cons (.bin .add (.ix (.var 5) (.int 1)) (.bin .mul (.int 5) (.var 6))) .nil)) (.int 16))) (by simp) (by omega) fun k hk => by
        have m1 := mul_ii 5 (k : Int) (mulOk_l (by decide) (by decide))
        have b := modP (v1 + 5 * (k : Int)) (show (0 : Int) < 16 by decide)
        have hb : ((v1 + 5 * (k : Int)) % 16).toNat < poolS.length := by have : poolS.length = 16 := rfl; omega
        have ey : L2.atI poolD ((v1 + 5 * (k : Int)) % 16) = some (.str (sg poolS[((v1 + 5 * (k : Int)) % 16).toNat])) := by
          have q := atI_nat (l := poolD) (k := ((v1 + 5 * (k : Int)) % 16).toNat) (by rw [pool_eq, List.length_map]; exact hb)
          rw [Int.toNat_of_nonneg b.1] at q
          rw [q]
          simp only [pool_eq, List.getElem_map]
        exact ⟨_, by simp [a1, m1, mod_ii _ 16 (by decide), ey], _, List.getElem?_eq_getElem hb, rfl⟩
    refine ⟨ys, ?_, hl, names_pool v1 (by omega) hp⟩
    unfold poolD at e
    simp [-ev_lc, hds, m0, N_lets, N_digs, ha, z16, a0, hc, mod_ii _ 3 (by decide), nd, e]
  · obtain ⟨rs, e, hl, hp⟩ := lc_rex (g := tab.g) (C := cal tab.g (n + 1)) (i := 8) (o := .sh) (n := 11) (P := fun _ y => ShP 1 goodC y) (a := .int 11) (env := [some (.sh, .int c), some (.sh, .int m), some (.sh, .str (sg lets)), some (.sh, .str (sg (lets ++ digs))), some (.o1, .lst poolD), some (.o1, .lst ds), none, none, none, none, none, none, none])
      (elt := .ix (.var 3) (.bin .mod (.bi .int (.cons (.ix (.var 5) (.bin .add (.int 2) (.var 8))) .nil)) (.int 36))) (by simp) (by decide) fun k hk => by
        obtain ⟨v, av, gv, _⟩ := il.at (2 + k) (by omega)
        have av : L2.atI ds (2 + (k : Int)) = some (.int v) := by rw [← av]; congr 1
        have b := modP v (show (0 : Int) < 36 by decide)
        obtain ⟨y, hy, ey⟩ := chr_at (l := lets ++ digs) (by decide) b.1 b.2
        exact ⟨.str (sg [y]), by simp [av, mod_ii _ 36 (by decide), ey], [y], rfl, Nat.le_refl 1, by rw [List.all_cons, goods y hy]; rfl⟩
    have hrs : ∀ d ∈ rs, ShP 1 goodC d := fun d hd => let ⟨_, _, h⟩ := hp d hd; h
    have b13 := modP v13 (show (0 : Int) < 26 by decide)
    obtain ⟨c13, m13, e13⟩ := chr_at (l := lets) (by decide) b13.1 b13.2
    have jn : ∀ x : Int, 0 ≤ x → ∃ l, bmD .join (.str (sg [])) [.lst (cut rs none (some x))] = .ok (.str (sg l)) ∧ l.length ≤ 11 ∧ l.length ≤ x.toNat ∧ l.all goodC = true := fun x hx => by
      obtain ⟨t, rfl⟩ : ∃ t : Nat, x = t := ⟨x.toNat, (Int.toNat_of_nonneg hx).symm⟩
      rw [cut_to]
      have hc : (rs.take t).length ≤ t ∧ (rs.take t).length ≤ 11 := by rw [List.length_take, hl]; omega
      obtain ⟨l, e, h, g⟩ := join_shP (d := .lst (rs.take t)) rfl (m := 1) (fun d hd => hrs d (List.mem_of_mem_take hd)) (by omega)
      exact ⟨l, e, by omega, by omega, g⟩
    have b14 := modP v14 (show (0 : Int) < 11 by decide)
    obtain ⟨js, ej, _, hj, gj⟩ := jn _ b14.1
    have hj : js.length ≤ 10 := by omega
    have ad : binD .add (.str (sg [c13])) (.str (sg js)) = .ok (.str (sg (c13 :: js))) := add_str (by rw [List.length_singleton]; omega)
    have hls : biD .len [.str (sg (c13 :: js))] = .ok (.int ((js.length : Int) + 1)) := by
      rw [len_str (by rw [List.length_cons]; omega), List.length_cons]; rfl
    have hpos : (0 : Int) < (js.length : Int) + 1 + 1 := by omega
    have nr : hasLs rs = false := nols (m := 1) fun d hd => let ⟨l, a, b, _⟩ := hrs d hd; ⟨l, a, b⟩
    unfold poolD at e
    simp [-ev_lc, hds, m0, N_lets, N_digs, ha, z16, a0, hc, mod_ii _ 3 (by decide), nd, e, a13, mod_ii _ 26 (by decide), e13, a14, mod_ii _ 11 (by decide), slD_lst, N_empty, ej, ad, nr, a15, hls, mod_ii _ _ hpos, hr]
    obtain ⟨t, ht⟩ : ∃ t : Nat, v15 % ((js.length : Int) + 1 + 1) = t := ⟨(v15 % ((js.length : Int) + 1 + 1)).toNat, (Int.toNat_of_nonneg (modP v15 hpos).1).symm⟩
    have htl : t ≤ js.length + 1 := by have := (modP v15 hpos).2; omega
    rw [ht]
    refine forL_up (Post := fun o => ∃ l : List D, endR (o.seq _) = .ok (.o1, .lst l) ∧ l.length = m ∧ Names l)
      (fun k env => ∃ (l : List D) (s6 s12 : S2.Slot), env = [some (.sh, .int c), some (.sh, .int m), some (.sh, .str (sg lets)), some (.sh, .str (sg (lets ++ digs))), some (.o1, .lst poolD), some (.o1, .lst ds), s6, some (.o1, .lst rs), none, some (.sh, .str (sg (c13 :: js))), some (.sh, .int t), some (.o1, .lst l), s12] ∧ l.length = k ∧ Keyed (if v0 % 3 = 1 then t else 0) v1 l)
      ⟨[], none, none, rfl, rfl, fun k hk => absurd hk (by simp)⟩ (fun k env hk ⟨l, s6, s12, e, hl, hx⟩ => ?_) (fun env ⟨l, s6, s12, e, hl, hx⟩ => ?_)
    · subst e
      have sz := szL_lt (show l.length ≤ 1000000 by omega)
      have m1 := mul_ii 5 (k : Int) (mulOk_l (by decide) (by decide))
      have b := modP (v1 + 5 * (k : Int)) (show (0 : Int) < 26 by decide)
      obtain ⟨c1, k1, mc1, e1⟩ := chr_ix (l := lets) (by decide) b.1 b.2
      have nlx := nols (hx.names (by omega)).sh
      have k1 : lets[((v1 + 5 * (l.length : Int)) % 26).toNat]? = some c1 := by rw [hl]; exact k1
      by_cases h3 : v0 % 3 = 1
      · rw [if_pos h3] at hx ⊢
        have hsl : ∀ lo hi, slD (.str (sg (c13 :: js))) lo hi = .ok (.str (sg (cut (c13 :: js) lo hi))) := fun lo hi => sl_str (by rw [List.length_cons]; omega)
        have h1 : ((c13 :: js).take t).length = t := by rw [List.length_take, List.length_cons]; omega
        have h2 : ((c13 :: js).drop t).length = js.length + 1 - t := by rw [List.length_drop, List.length_cons]
        have d1 : binD .add (.str (sg ((c13 :: js).take t))) (.str (sg [c1])) = .ok (.str (sg ((c13 :: js).take t ++ [c1]))) := add_str (by rw [List.length_singleton]; omega)
        have d2 : binD .add (.str (sg ((c13 :: js).take t ++ [c1]))) (.str (sg ((c13 :: js).drop t))) = .ok (.str (sg ((c13 :: js).take t ++ [c1] ++ (c13 :: js).drop t))) := add_str (by rw [List.length_append, List.length_singleton]; omega)
        have hs1 : slD (.str (sg (c13 :: js))) none (some (t : Int)) = .ok (.str (sg ((c13 :: js).take t))) := by rw [hsl, cut_to]
        have hs2 : slD (.str (sg (c13 :: js))) (some (t : Int)) none = .ok (.str (sg ((c13 :: js).drop t))) := by rw [hsl, cut_from]
        refine .inl ⟨_, .inl (by simp only [L__law_names_0]; simp [-List.take_append_drop, a1, m1, mod_ii _ 26 (by decide), e1, a0, mod_ii _ 3 (by decide), h3, hs1, hs2, d1, d2, sz]; rfl), l ++ [.str (sg ((c13 :: js).take t ++ [c1] ++ (c13 :: js).drop t))], some (.sh, .int k), some (.sh, .str (sg [c1])), by simp, by simp [hl], hx.app (c := c1) ?_ ?_ k1⟩
        · have gs : (c13 :: js).all goodC = true := by rw [List.all_cons, good_let m13, gj]; rfl
          have g1 : ((c13 :: js).take t).all goodC = true := List.all_eq_true.mpr fun x hx => List.all_eq_true.mp gs x (List.mem_of_mem_take hx)
          have g2 : ((c13 :: js).drop t).all goodC = true := List.all_eq_true.mpr fun x hx => List.all_eq_true.mp gs x (List.mem_of_mem_drop hx)
          cases t with
          | zero =>
            show nameL (c1 :: (c13 :: js)) = true
            exact nameL_of (by rw [List.length_cons]; omega) mc1 gs
          | succ t =>
            show nameL (c13 :: (js.take t ++ [c1] ++ js.drop t)) = true
            refine nameL_of ?_ m13 ?_
            · rw [List.length_append, List.length_append, List.length_singleton, List.length_take, List.length_drop]; omega
            · have g1 : (js.take t).all goodC = true := List.all_eq_true.mpr fun x hx => List.all_eq_true.mp gj x (List.mem_of_mem_take hx)
              rw [List.all_append, List.all_append, g1, show (js.drop t).all goodC = true from g2, List.all_cons, good_let mc1]
              rfl
        · rw [List.append_assoc, List.getElem?_append_right (by omega), h1, Nat.sub_self]
          rfl
      · rw [if_neg h3] at hx ⊢
        obtain ⟨v, av, gv, _⟩ := il.at (16 + k) (by omega)
        have av : L2.atI ds (16 + (k : Int)) = some (.int v) := by rw [← av]; congr 1
        have b := modP v (show (0 : Int) < 12 by decide)
        obtain ⟨j2, e2, hj2, _, g2⟩ := jn _ b.1
        have d1 : binD .add (.str (sg [c1])) (.str (sg j2)) = .ok (.str (sg (c1 :: j2))) := add_str (by rw [List.length_singleton]; omega)
        exact .inl ⟨_, .inl (by simp only [L__law_names_0]; simp [a1, m1, mod_ii _ 26 (by decide), e1, a0, mod_ii _ 3 (by decide), h3, av, mod_ii _ 12 (by decide), slD_lst, N_empty, e2, d1, sz]; rfl), l ++ [.str (sg (c1 :: j2))], some (.sh, .int k), some (.sh, .str (sg [c1])), by simp, by simp [hl], hx.app (c := c1) (nameL_of hj2 mc1 g2) rfl k1⟩
    · subst e
      exact ⟨l, by simp, hl, hx.names (by omega)⟩
/-- right names are told so -/
theorem Names.fine {l : List D} (h : Names l) (b : Int) (hb : (l.length : Int) ≤ b) : namesR (.tup l) b = .fine := by
  have e1 : l.find? (fun x => !nameB x) = none := List.find?_eq_none.mpr fun x hx => by rw [h.nm x hx]; exact Bool.false_ne_true
  have e2 : (upto 0 l.length).find? (dupAt l) = none := List.find?_eq_none.mpr fun x hx => by
    obtain ⟨k, rfl, hk⟩ := upto_mem hx
    simp only [dupAt, Int.toNat_natCast]
    rw [List.getElem?_eq_getElem hk]
    intro q
    rw [List.any_eq_true] at q
    obtain ⟨z, hz, q⟩ := q
    obtain ⟨i, hi, rfl⟩ := List.getElem_of_mem hz
    rw [List.length_take] at hi
    rw [List.getElem_take] at q
    obtain ⟨a, ea, _⟩ := name_str (h.nm _ (List.getElem_mem (show i < l.length by omega)))
    obtain ⟨b, eb, _⟩ := name_str (h.nm _ (List.getElem_mem hk))
    have ne := h.ne i k (by omega) hk (by omega)
    rw [ea, eb] at ne
    rw [ea, Option.getD_some, eb, py_str, py_str] at q
    exact ne (by rw [show sg a = sg b by simpa [PyData.eqv] using q])
  simp only [namesR, e1, e2]
  rw [if_neg (by omega)]
end Lw



set_option maxHeartbeats 4000000
namespace Lw
open PySem S2
/-- a row put into another order -/
theorem shuffled_ok (n : Nat) (row : D) (l ds : List D) (hrow : seqOf row = some l) (hlen : biD .len [row] = .ok (.int l.length)) (hl : l.length ≤ 1000) (hd : l.length ≤ ds.length) (hds : ∀ d ∈ ds, ∃ v : Int, d = .int v ∧ 0 ≤ v ∧ v < 5040) :
    ∃ m : List D, callD tab.g (n + 1) N__law_shuffled [row, .lst ds] = .ok (.o1, .lst m) ∧ m.length = l.length ∧ ∀ x ∈ m, x ∈ l := by
  rw [c__law_shuffled, b__law_shuffled]
  have e1 : biD .list [row] = .ok (.lst l) := by
    show (match seqOf row with | some l => R.ok (D.lst l) | none => .no) = _
    rw [hrow]
  have hr := rng_nat (show l.length ≤ 1000000 by omega)
  simp [e1, hlen, hr]
  refine forL_up (Post := fun o => ∃ m : List D, endR (o.seq _) = .ok (.o1, .lst m) ∧ m.length = l.length ∧ ∀ x ∈ m, x ∈ l)
    (fun k env => ∃ (r m : List D) (s4 : S2.Slot), env = [some (.sh, row), some (.sh, .lst ds), some (.o1, .lst r), some (.o1, .lst m), s4] ∧ m.length = k ∧ r.length + k = l.length ∧ (∀ x ∈ m, x ∈ l) ∧ ∀ x ∈ r, x ∈ l)
    ⟨l, [], none, rfl, rfl, by simp, by simp, fun x hx => hx⟩ (fun k env hk ⟨r, m, s4, e, hm, hrk, h1, h2⟩ => ?_) (fun env ⟨r, m, s4, e, hm, hrk, h1, h2⟩ => ?_)
  · subst e
    obtain ⟨v, ev, v0, v1⟩ := hds ds[k] (List.getElem_mem (by omega))
    have a1 : L2.atI ds (k : Int) = some (.int v) := by rw [atI_nat (by omega), ev]
    have hp : (0 : Int) < (r.length : Int) := by omega
    have b := modP v hp
    have ix : L2.ixN r.length (v % (r.length : Int)) = some (v % (r.length : Int)).toNat := ixN_int b.1 b.2
    have hlt : (v % (r.length : Int)).toNat < r.length := by omega
    have sz := szL_lt (show m.length ≤ 1000000 by omega)
    have ab : absLe (v % (r.length : Int)) 1000000000 = true := absLe_of (by omega) (by omega)
    refine .inl ⟨[some (.sh, row), some (.sh, .lst ds), some (.o1, .lst (r.eraseIdx (v % (r.length : Int)).toNat)), some (.o1, .lst (m ++ [r[(v % (r.length : Int)).toNat]])), some (.sh, .int k)], .inl ?_, _, _, _, rfl, by simp [hm], ?_, fun x hx => ?_, fun x hx => h2 x (List.mem_of_mem_eraseIdx hx)⟩
    · simp [L__law_shuffled_0, a1, mod_ii _ _ hp, popA, ix, List.getElem?_eq_getElem hlt, sz, ab]
    · rw [List.length_eraseIdx_of_lt hlt]; omega
    · rcases List.mem_append.mp hx with h | h
      · exact h1 x h
      · rw [List.mem_singleton.mp h]; exact h2 _ (List.getElem_mem hlt)
  · subst e
    exact ⟨m, by simp, by omega, h1⟩
end Lw



set_option maxHeartbeats 2000000
namespace Lw
open PySem S2
def tk (d : D) : List (Int ⊕ List Nat) := W.keyToks (py d)
theorem leD_tk (a b : D) : leD a b = !PyProof.Rows.lexLt PyProof.Rows.itemOrd (tk b) (tk a) := rfl
theorem leD_trans (a b c : D) (h1 : leD a b = true) (h2 : leD b c = true) : leD a c = true := by
  rw [leD_tk] at h1 h2 ⊢
  cases e : PyProof.Rows.lexLt PyProof.Rows.itemOrd (tk c) (tk a) with
  | false => rfl
  | true =>
    rcases PyProof.Rows.lex_negTrans (O := PyProof.Rows.itemOrd) (tk c) (tk b) (tk a) e with h | h
    · rw [h] at h2; cases h2
    · rw [h] at h1; cases h1
theorem leD_total (a b : D) : (leD a b || leD b a) = true := by
  rw [leD_tk, leD_tk]
  cases e : PyProof.Rows.lexLt PyProof.Rows.itemOrd (tk b) (tk a) with
  | false => rfl
  | true =>
    cases e2 : PyProof.Rows.lexLt PyProof.Rows.itemOrd (tk a) (tk b) with
    | false => rfl
    | true =>
      have := PyProof.Rows.lex_trans (O := PyProof.Rows.itemOrd) _ _ _ e e2
      rw [PyProof.Rows.lex_irrefl] at this
      cases this
theorem leD_tok {a b : D} (h1 : leD a b = true) (h2 : leD b a = true) : tk a = tk b := by
  rw [leD_tk] at h1 h2
  exact PyProof.Rows.lex_total (O := PyProof.Rows.itemOrd) _ _ (by simpa using h2) (by simpa using h1)
theorem sorted_one : ∀ (l m : List D), l.Pairwise (fun a b => leD a b = true) → m.Pairwise (fun a b => leD a b = true) → l.Perm m → (∀ a ∈ l, ∀ b ∈ l, tk a = tk b → a = b) → l = m
  | [], m, _, _, p, _ => (List.Perm.nil_eq p)
  | a :: l, m, h1, h2, p, inj => by
    cases m with
    | nil => exact absurd p.length_eq (by simp)
    | cons b m =>
      have ha : a ∈ b :: m := p.mem_iff.mp List.mem_cons_self
      have hb : b ∈ a :: l := p.mem_iff.mpr List.mem_cons_self
      have le1 : leD a b = true := by
        rcases List.mem_cons.mp hb with e | h
        · rw [e]; have := leD_total a a; simpa using this
        · exact List.rel_of_pairwise_cons h1 h
      have le2 : leD b a = true := by
        rcases List.mem_cons.mp ha with e | h
        · rw [e]; have := leD_total b b; simpa using this
        · exact List.rel_of_pairwise_cons h2 h
      obtain rfl : a = b := inj a List.mem_cons_self b hb (leD_tok le1 le2)
      rw [sorted_one l m (List.Pairwise.of_cons h1) (List.Pairwise.of_cons h2) p.cons_inv fun x hx y hy => inj x (List.mem_cons_of_mem _ hx) y (List.mem_cons_of_mem _ hy)]
theorem tk_str (s : Str) : tk (.str s) = [.inr s.cps.toList] := by unfold tk; rw [py_str, W.keyToks]
theorem str_tk {s t : Str} (h : s.cps.toList = t.cps.toList) : s = t := W.str_of_cps h
theorem inj_strs {l : List D} (h : ∀ d ∈ l, ∃ z, d = D.str z) : ∀ a ∈ l, ∀ b ∈ l, tk a = tk b → a = b := fun a ha b hb e => by
  obtain ⟨x, rfl⟩ := h a ha
  obtain ⟨y, rfl⟩ := h b hb
  rw [tk_str, tk_str] at e
  injection e with e
  injection e with e
  rw [str_tk e]
theorem toks_strs : ∀ (r t : List D), (∀ d ∈ r, ∃ z, d = D.str z) → (∀ d ∈ t, ∃ z, d = D.str z) → ∀ x y, W.keyToksAll (pys r) ++ x = W.keyToksAll (pys t) ++ y → r = t
  | [], [], _, _, _, _, _ => rfl
  | [], b :: t, _, _, x, y, e => by
    rw [pys_nil, pys_cons, W.keyToksAll, W.keyToksAll] at e
    injection e with e
    injection e with e
    cases e
  | a :: r, [], _, _, x, y, e => by
    rw [pys_nil, pys_cons, W.keyToksAll, W.keyToksAll] at e
    injection e with e
    injection e with e
    cases e
  | a :: r, b :: t, h1, h2, x, y, e => by
    obtain ⟨p, rfl⟩ := h1 a List.mem_cons_self
    obtain ⟨q, rfl⟩ := h2 b List.mem_cons_self
    rw [pys_cons, pys_cons, W.keyToksAll, W.keyToksAll, py_str, py_str, W.keyToks, W.keyToks] at e
    injection e with _ e
    injection e with e1 e
    injection e1 with e1
    rw [str_tk e1, toks_strs r t (fun d hd => h1 d (List.mem_cons_of_mem _ hd)) (fun d hd => h2 d (List.mem_cons_of_mem _ hd)) x y e]
theorem nodup_iff (l : List D) : (upto 0 l.length).find? (dupAt l) = none ↔ ∀ i j (hi : i < l.length) (hj : j < l.length), i < j → PyData.eqv (py l[i]) (py l[j]) = false := by
  rw [List.find?_eq_none]
  constructor
  · intro q i j hi hj hij
    have := q (.int j) (by rw [upto_zero]; exact List.mem_map.mpr ⟨j, List.mem_range'_1.mpr ⟨Nat.zero_le _, by omega⟩, rfl⟩)
    simp only [dupAt, Int.toNat_natCast] at this
    rw [List.getElem?_eq_getElem hj, Option.getD_some] at this
    rw [Bool.not_eq_true, List.any_eq_false] at this
    have h := this l[i] (List.mem_take_iff_getElem.mpr ⟨i, by omega, rfl⟩)
    simpa using h
  · intro q x hx
    obtain ⟨k, rfl, hk⟩ := upto_mem hx
    simp only [dupAt, Int.toNat_natCast]
    rw [List.getElem?_eq_getElem hk, Option.getD_some, Bool.not_eq_true, List.any_eq_false]
    intro z hz
    obtain ⟨i, hi, rfl⟩ := List.mem_take_iff_getElem.mp hz
    rw [q i k (by omega) hk (by omega)]
    exact Bool.false_ne_true
theorem nodup_rev {l : List D} (h : (upto 0 l.length).find? (dupAt l) = none) : (upto 0 l.reverse.length).find? (dupAt l.reverse) = none := by
  rw [nodup_iff] at h ⊢
  intro i j hi hj hij
  rw [List.length_reverse] at hi hj
  rw [List.getElem_reverse, List.getElem_reverse, W.eqv_comm]
  exact h _ _ (by omega) (by omega) (by omega)
end Lw



set_option maxHeartbeats 1000000
namespace Lw
open PySem S2
def RowOk (l : List D) : Prop := l.length ≤ 1000 ∧ (∀ a ∈ l, plainB a = true ∧ isNonD a = false ∧ ∀ b ∈ l, W.alike (py a) (py b) = true) ∧ ((∀ a ∈ l, ∃ x r, a = .tup (x :: r)) ∨ (∀ a ∈ l, (∃ i, a = .int i) ∨ ∃ s, a = .str s)) ∧ ∀ a ∈ l, hasL a = false
theorem RowOk.of {l m : List D} (h : RowOk l) (hm : m.length ≤ 1000) (s : ∀ x ∈ m, x ∈ l) : RowOk m :=
  ⟨hm, fun a ha => let ⟨p, q, r⟩ := h.2.1 a (s a ha); ⟨p, q, fun b hb => r b (s b hb)⟩, h.2.2.1.imp (fun z a ha => z a (s a ha)) fun z a ha => z a (s a ha), fun a ha => h.2.2.2 a (s a ha)⟩
theorem row_lt {l : List D} (h : RowOk l) {a b : D} (ha : a ∈ l) (hb : b ∈ l) : cmpD .lt a b = .ok (W.dataLt (py a) (py b)) ∧ cmpD .le b a = .ok (!W.dataLt (py a) (py b)) := by
  obtain ⟨p1, q1, r1⟩ := h.2.1 a ha
  obtain ⟨p2, q2, r2⟩ := h.2.1 b hb
  refine ⟨?_, ?_⟩
  · simp only [cmpD, ltD, r1 b hb, p1, p2, q1]
    rfl
  · simp only [cmpD, nltD, r2 a ha, p1, p2, q2]
    rfl
def notUp (l : List D) : D → Bool
  | .int k => !W.dataLt (py (l[(k - 1).toNat]?.getD .non)) (py (l[k.toNat]?.getD .non))
  | _ => false
theorem up1_mem {n : Nat} {x : D} (h : x ∈ upto 1 n) : ∃ k : Nat, x = .int (1 + (k : Int)) ∧ k < n := by
  unfold upto at h
  obtain ⟨k, hk, rfl⟩ := List.mem_map.mp h
  exact ⟨k, rfl, List.mem_range.mp hk⟩
theorem up_step {l : List D} (h : RowOk l) {k : Nat} (hk : k < l.length - 1) : L2.atI l (k : Int) = some (l[k]'(by omega)) ∧ L2.atI l (1 + (k : Int)) = some (l[k + 1]'(by omega)) ∧ notUp l (.int (1 + (k : Int))) = !W.dataLt (py (l[k]'(by omega))) (py (l[k + 1]'(by omega))) := by
  have h1 : k < l.length := by omega
  have h2 : k + 1 < l.length := by omega
  refine ⟨atI_nat h1, ?_, ?_⟩
  · rw [show (1 : Int) + k = ((k + 1 : Nat) : Int) by omega]
    exact atI_nat h2
  · simp only [notUp]
    rw [show ((1 : Int) + k - 1).toNat = k by omega, show ((1 : Int) + k).toNat = k + 1 by omega, List.getElem?_eq_getElem h1, List.getElem?_eq_getElem h2]
    rfl
def asc (l : List D) : Bool := ((upto 1 (l.length - 1)).find? (notUp l)).isNone
theorem rng1_len {l : List D} (h : l.length ≤ 1000) : rngD 1 (l.length : Int) = .ok (upto 1 (l.length - 1)) := by
  have e1 : small62 (l.length : Int) = true := absLe_of (by omega) (by omega)
  have e2 : small62 1 = true := by decide
  unfold rngD
  rw [e1, e2, show ((l.length : Int) - 1).toNat = l.length - 1 by omega]
  rfl
theorem ascending_ok (n : Nat) (l : List D) (h : RowOk l) : callD tab.g (n + 1) N_is_ascending [.tup l] = .ok (.sh, .bl (asc l)) := by
  rw [c_is_ascending, b_is_ascending]
  have hr := rng1_len h.1
  obtain ⟨s', _, e⟩ := forL_find (mk := fun s => [some (.sh, .tup l), s]) (p := notUp l) (out := fun _ _ => .ret .sh (.bl false)) (f := fun x env' => exs tab.g (cal tab.g n) L_is_ascending_0 (List.set env' 1 (some (.sh, x)))) (upto 1 (l.length - 1)) none (fun x hx s => by
    obtain ⟨k, rfl, hk⟩ := up1_mem hx
    obtain ⟨a1, a2, a3⟩ := up_step h hk
    have c := (row_lt h (List.getElem_mem (show k < l.length by omega)) (List.getElem_mem (show k + 1 < l.length by omega))).1
    rw [a3]
    cases e : W.dataLt (py (l[k]'(by omega))) (py (l[k + 1]'(by omega))) <;> rw [e] at c <;> simp [L_is_ascending_0, show (1 : Int) + k - 1 = k by omega, a1, a2, c]) (fun _ _ => rfl)
  rcases e with ⟨x, e1, e2⟩ | ⟨e1, e2⟩
  · simp [hr, e2, asc, e1]
  · simp [hr, e2, asc, e1]
theorem sorted_ok {l : List D} (h : RowOk l) : biD .sorted [.lst l] = .ok (.lst (l.mergeSort leD)) := by
  have so : sortOk l = true := by
    unfold sortOk
    rw [Bool.and_eq_true, Bool.and_eq_true]
    refine ⟨⟨decide_eq_true (szL_of (by have := h.1; omega)), List.all_eq_true.mpr fun a ha => ?_⟩, ?_⟩
    · rw [Bool.and_eq_true]
      exact ⟨(h.2.1 a ha).1, List.all_eq_true.mpr fun b hb => (h.2.1 a ha).2.2 b hb⟩
    · rw [Bool.or_eq_true]
      rcases h.2.2.1 with z | z
      · refine .inl (List.all_eq_true.mpr fun a ha => ?_)
        obtain ⟨x, r, rfl⟩ := z a ha
        rfl
      · refine .inr (List.all_eq_true.mpr fun a ha => ?_)
        rcases z a ha with ⟨i, rfl⟩ | ⟨s, rfl⟩ <;> rfl
  show (if sortOk l then R.ok (D.lst (l.mergeSort leD)) else .no) = _
  rw [so]
  rfl
theorem revL_lst (l : List D) : biD .revL [.lst l] = .ok (.lst l.reverse) := rfl
theorem noLs {l : List D} (h : ∀ d ∈ l, hasL d = false) : hasLs l = false := by
  induction l with
  | nil => rfl
  | cons a r ih => rw [hasLs_cons, h a List.mem_cons_self, ih fun x hx => h x (List.mem_cons_of_mem _ hx)]; rfl
theorem hasLs_app (a b : List D) : hasLs (a ++ b) = (hasLs a || hasLs b) := by
  induction a with
  | nil => rfl
  | cons x r ih => rw [List.cons_append, hasLs_cons, hasLs_cons, ih, Bool.or_assoc]
theorem row_int {l : List D} (hl : l.length ≤ 1000) (h : ∀ d ∈ l, ∃ i : Int, d = .int i) : RowOk l := ⟨hl, fun a ha => by
  obtain ⟨i, rfl⟩ := h a ha
  exact ⟨rfl, rfl, fun b hb => by obtain ⟨j, rfl⟩ := h b hb; rfl⟩, .inr fun a ha => .inl (h a ha), fun a ha => by obtain ⟨i, rfl⟩ := h a ha; simp⟩
theorem row_str {l : List D} (hl : l.length ≤ 1000) (h : ∀ d ∈ l, ∃ i : Str, d = .str i) : RowOk l := ⟨hl, fun a ha => by
  obtain ⟨i, rfl⟩ := h a ha
  exact ⟨rfl, rfl, fun b hb => by obtain ⟨j, rfl⟩ := h b hb; rfl⟩, .inr fun a ha => .inr (h a ha), fun a ha => by obtain ⟨i, rfl⟩ := h a ha; simp⟩
/-! ascending rows, item by item -/
def chainB : List D → Bool
  | a :: b :: r => W.dataLt (py a) (py b) && chainB (b :: r)
  | _ => true
theorem chain_iff : ∀ l : List D, chainB l = true ↔ ∀ k (h : k + 1 < l.length), W.dataLt (py (l[k]'(by omega))) (py l[k + 1]) = true
  | [] => ⟨fun _ k h => absurd h (by simp), fun _ => rfl⟩
  | [a] => ⟨fun _ k h => absurd h (by simp), fun _ => rfl⟩
  | a :: b :: r => by
    have ih := chain_iff (b :: r)
    show (W.dataLt (py a) (py b) && chainB (b :: r)) = true ↔ _
    rw [Bool.and_eq_true, ih]
    constructor
    · intro ⟨h1, h2⟩ k hk
      cases k with
      | zero => exact h1
      | succ k => exact h2 k (by rw [List.length_cons] at hk; omega)
    · intro h
      exact ⟨h 0 (by simp), fun k hk => h (k + 1) (by rw [List.length_cons]; omega)⟩
theorem asc_chain {l : List D} (h : RowOk l) : asc l = chainB l := by
  rw [Bool.eq_iff_iff, chain_iff]
  unfold asc
  rw [Option.isNone_iff_eq_none, List.find?_eq_none]
  constructor
  · intro q k hk
    have := q (.int (1 + (k : Int))) (by unfold upto; exact List.mem_map.mpr ⟨k, List.mem_range.mpr (by omega), rfl⟩)
    rw [(up_step h (k := k) (by omega)).2.2] at this
    simpa using this
  · intro q x hx
    obtain ⟨k, rfl, hk⟩ := up1_mem hx
    rw [(up_step h hk).2.2, q k (by omega)]
    decide
end Lw



set_option maxHeartbeats 2000000
namespace Lw
open PySem S2
/-! rings -/
def isStrB : D → Bool
  | .str _ => true
  | _ => false
def inL (al : List D) (x : D) : Bool := al.any fun z => PyData.eqv (py z) (py x)
/-- a str of the row al -/
def okR (al : List D) (x : D) : Bool := isStrB x && inL al x
def ringsB (al : List D) : D → Bool
  | .tup r => r.all (okR al) && chainB r
  | _ => false
/-- what a row of rings may be -/
def rv : D → Bool
  | .tup l => decide (l.length ≤ 1000) && l.all okV
  | v => okV v
theorem rv_tup {l : List D} (h : rv (.tup l) = true) : l.length ≤ 1000 ∧ ∀ d ∈ l, okV d = true := by
  have h : (decide (l.length ≤ 1000) && l.all okV) = true := h
  rw [Bool.and_eq_true, decide_eq_true_eq, List.all_eq_true] at h
  exact h
theorem rv_ok {v : D} (h : rv v = true) : okV v = true := by
  cases v <;> first | exact h | rfl
theorem str_all {l : List D} {al : List D} (h : l.all (okR al) = true) : ∀ d ∈ l, ∃ s, d = .str s := fun d hd => by
  have := List.all_eq_true.mp h d hd
  unfold okR at this
  rw [Bool.and_eq_true] at this
  cases d <;> first | (exact absurd this.1 Bool.false_ne_true) | exact ⟨_, rfl⟩
theorem all_find {p q : D → Bool} {l : List D} (h : ∀ x ∈ l, p x = !q x) : l.find? p = none → l.all q = true := fun e => by
  rw [List.find?_eq_none] at e
  rw [List.all_eq_true]
  intro x hx
  have := e x hx
  rw [h x hx] at this
  simpa using this
theorem any_find {p q : D → Bool} {l : List D} {x : D} (h : ∀ x ∈ l, p x = !q x) : l.find? p = some x → l.all q = false := fun e => by
  have hx := List.mem_of_find?_eq_some e
  have := List.find?_some e
  rw [h x hx] at this
  rw [List.all_eq_false]
  exact ⟨x, hx, by simpa using this⟩
theorem in_al {al : List D} (ha : ∀ x ∈ al, pl 1 x = true) (hl : al.length ≤ 1000) (s : Str) : cmpD .in_ (.str s) (.tup al) = .ok (inL al (.str s)) ∧ cmpD .notin (.str s) (.tup al) = .ok (!inL al (.str s)) := by
  have e := in_tup (a := .str s) (l := al) (plainB_pl (j := 1) rfl) (plainB_pl (pl_tup (by omega) ha))
  refine ⟨e, ?_⟩
  have e2 : cmpD .notin (.str s) (.tup al) = (inD (.str s) (.tup al)).bind fun c => .ok (!c) := rfl
  rw [e2, show inD (.str s) (.tup al) = .ok (inL al (.str s)) from e]
  rfl
theorem is_hearing_ok (n : Nat) (al : List D) (ha : ∀ x ∈ al, pl 1 x = true) (hl : al.length ≤ 1000) (v : D) (hv : rv v = true) : callD tab.g (n + 2) N_is_hearing [.tup al, v] = .ok (.sh, .bl (ringsB al v)) := by
  rw [c_is_hearing, b_is_hearing]
  cases v with
  | tup r =>
    obtain ⟨hr, ho⟩ := rv_tup hv
    obtain ⟨s', hs, e⟩ := forL_find (mk := fun s => [some (.sh, .tup al), some (.sh, .tup r), s]) (p := fun x => !okR al x) (out := fun _ x => .ret .sh (.bl false)) (f := fun x env' => exs tab.g (cal tab.g (n + 1)) L_is_hearing_0 (List.set env' 2 (some (.sh, x)))) r none (fun x hx s => by
      have hx2 := ho x hx
      cases x with
      | str z =>
        have q := (in_al ha hl z).2
        cases e : inL al (.str z) <;> rw [e] at q <;> simp [L_is_hearing_0, okR, isStrB, e, q]
      | dct _ _ => simp at hx2
      | ob _ _ _ => simp at hx2
      | _ => simp [L_is_hearing_0, okR, isStrB]) (fun _ _ => rfl)
    rcases e with ⟨x, e1, e2⟩ | ⟨e1, e2⟩
    · have a := any_find (q := okR al) (fun _ _ => rfl) e1
      simp [e2, ringsB, a]
    · have a := all_find (q := okR al) (fun _ _ => rfl) e1
      have ro : RowOk r := row_str hr (str_all a)
      have as := ascending_ok n r ro
      rw [asc_chain ro] at as
      simp [e2, ringsB, a, as]
  | dct _ _ => simp [rv] at hv
  | ob _ _ _ => simp [rv] at hv
  | _ => simp [ringsB]
/-! steps -/
def stepB (size : Int) (al fs : List D) : D → Bool
  | .tup [a, b, c, d] => inB a 0 (size - 1) && (inB b 0 (size - 1) && (isStrB c && ((match c with | .str s => s == N_x | _ => false) || inL fs c) && ringsB al d))
  | _ => false
/-- what a step may be -/
def sv : D → Bool
  | .tup [a, b, c, d] => okV a && (okV b && (okV c && rv d))
  | v => okV v
theorem sv_ok {v : D} (h : sv v = true) : okV v = true := by
  unfold sv at h
  split at h
  · rfl
  · exact h
theorem eqx (s : Str) : cmpD .ne (.str s) (.str N_x) = .ok (!(s == N_x)) := by
  rw [ne_of, eq_ss]
  show R.ok (!decide (s = N_x)) = _
  congr 1
end Lw



set_option maxHeartbeats 2000000
namespace Lw
open PySem S2
def srt (l : List D) : List D := l.mergeSort leD
theorem srt_len (l : List D) : (srt l).length = l.length := List.length_mergeSort l
theorem srt_mem {l : List D} {x : D} (h : x ∈ srt l) : x ∈ l := List.mem_mergeSort.mp h
theorem srt_perm {l m : List D} (p : l.Perm m) (inj : ∀ a ∈ l, ∀ b ∈ l, tk a = tk b → a = b) : srt l = srt m := by
  refine sorted_one _ _ (List.pairwise_mergeSort leD_trans leD_total l) (List.pairwise_mergeSort leD_trans leD_total m) ?_ fun a ha b hb => inj a (srt_mem ha) b (srt_mem hb)
  exact (List.mergeSort_perm l leD).trans (p.trans (List.mergeSort_perm m leD).symm)
/-- a row put into another order -/
theorem shuf_ok (n : Nat) (row : D) (l ds : List D) (hrow : seqOf row = some l) (hlen : biD .len [row] = .ok (.int l.length)) (hl : l.length ≤ 1000) (hd : l.length ≤ ds.length) (hds : ∀ d ∈ ds, ∃ v : Int, d = .int v ∧ 0 ≤ v ∧ v < 5040) :
    ∃ m : List D, callD tab.g (n + 1) N__law_shuffled [row, .lst ds] = .ok (.o1, .lst m) ∧ m.Perm l := by
  rw [c__law_shuffled, b__law_shuffled]
  have e1 : biD .list [row] = .ok (.lst l) := by
    show (match seqOf row with | some l => R.ok (D.lst l) | none => .no) = _
    rw [hrow]
  have hr := rng_nat (show l.length ≤ 1000000 by omega)
  simp [e1, hlen, hr]
  refine forL_up (Post := fun o => ∃ m : List D, endR (o.seq _) = .ok (.o1, .lst m) ∧ m.Perm l)
    (fun k env => ∃ (r m : List D) (s4 : S2.Slot), env = [some (.sh, row), some (.sh, .lst ds), some (.o1, .lst r), some (.o1, .lst m), s4] ∧ m.length = k ∧ r.length + k = l.length ∧ (m ++ r).Perm l)
    ⟨l, [], none, rfl, rfl, by simp, List.Perm.refl _⟩ (fun k env hk ⟨r, m, s4, e, hm, hrk, h1⟩ => ?_) (fun env ⟨r, m, s4, e, hm, hrk, h1⟩ => ?_)
  · subst e
    obtain ⟨v, ev, v0, v1⟩ := hds ds[k] (List.getElem_mem (by omega))
    have a1 : L2.atI ds (k : Int) = some (.int v) := by rw [atI_nat (by omega), ev]
    have hp : (0 : Int) < (r.length : Int) := by omega
    have b := modP v hp
    have ix : L2.ixN r.length (v % (r.length : Int)) = some (v % (r.length : Int)).toNat := ixN_int b.1 b.2
    have hlt : (v % (r.length : Int)).toNat < r.length := by omega
    have sz := szL_lt (show m.length ≤ 1000000 by omega)
    have ab : absLe (v % (r.length : Int)) 1000000000 = true := absLe_of (by omega) (by omega)
    refine .inl ⟨[some (.sh, row), some (.sh, .lst ds), some (.o1, .lst (r.eraseIdx (v % (r.length : Int)).toNat)), some (.o1, .lst (m ++ [r[(v % (r.length : Int)).toNat]])), some (.sh, .int k)], .inl ?_, _, _, _, rfl, by simp [hm], ?_, ?_⟩
    · simp [L__law_shuffled_0, a1, mod_ii _ _ hp, popA, ix, List.getElem?_eq_getElem hlt, sz, ab]
    · rw [List.length_eraseIdx_of_lt hlt]; omega
    · rw [List.append_assoc]
      exact ((perm_pick hlt).append_left m).trans h1
  · subst e
    refine ⟨m, by simp, ?_⟩
    have : r = [] := List.length_eq_zero_iff.mp (by omega)
    rwa [this, List.append_nil] at h1
/-! chosen rows -/
def chosenL : List D → Nat → List D
  | [], _ => []
  | a :: r, c => (if c % 2 = 1 then [a] else []) ++ chosenL r (c / 2)
theorem chosenL_sub : ∀ (r : List D) (c : Nat), (chosenL r c).Sublist r
  | [], _ => .slnil
  | a :: r, c => by
    unfold chosenL
    split
    · exact (chosenL_sub r (c / 2)).cons₂ a
    · exact (chosenL_sub r (c / 2)).cons a
theorem chosenL_app : ∀ (r t : List D) (c : Nat), chosenL (r ++ t) c = chosenL r c ++ chosenL t (c / 2 ^ r.length)
  | [], t, c => by simp [chosenL]
  | a :: r, t, c => by
    rw [List.cons_append, chosenL, chosenL, chosenL_app r t (c / 2), List.append_assoc, List.length_cons, Nat.div_div_eq_div_mul, Nat.pow_succ, Nat.mul_comm 2]
theorem chosenL_hi : ∀ (r : List D) (c : Nat), chosenL r (2 ^ r.length + c) = chosenL r c
  | [], _ => rfl
  | a :: r, c => by
    unfold chosenL
    rw [List.length_cons]
    have h1 : (2 ^ (r.length + 1) + c) % 2 = c % 2 := by rw [Nat.pow_succ]; omega
    have h2 : (2 ^ (r.length + 1) + c) / 2 = 2 ^ r.length + c / 2 := by rw [Nat.pow_succ]; omega
    rw [h1, h2, chosenL_hi r]
/-- all rows, as they are found -/
def pw (r : List D) : List (List D) := r.foldl (fun F a => F ++ F.map (· ++ [a])) [[]]
theorem pw_snoc (r : List D) (a : D) : pw (r ++ [a]) = pw r ++ (pw r).map (· ++ [a]) := by unfold pw; rw [List.foldl_append]; rfl
theorem pw_len (r : List D) : (pw r).length = 2 ^ r.length := by
  refine snoc_ind (P := fun r => (pw r).length = 2 ^ r.length) rfl (fun r a ih => ?_) r
  · show (pw (r ++ [a])).length = _
    rw [pw_snoc, List.length_append, List.length_map, ih, List.length_append, List.length_singleton, Nat.pow_succ]
    omega
theorem pw_chosen (r : List D) : pw r = (List.range (2 ^ r.length)).map (chosenL r) := by
  refine snoc_ind (P := fun r => pw r = (List.range (2 ^ r.length)).map (chosenL r)) rfl (fun r a ih => ?_) r
  · show pw (r ++ [a]) = _
    rw [pw_snoc, ih, List.length_append, List.length_singleton, Nat.pow_succ, Nat.mul_two, List.range_add, List.map_append, List.map_map, List.map_map]
    congr 1
    · refine List.map_congr_left fun c hc => ?_
      rw [List.mem_range] at hc
      rw [chosenL_app, Nat.div_eq_of_lt hc]
      simp [chosenL]
    · refine List.map_congr_left fun c hc => ?_
      rw [List.mem_range] at hc
      have h1 : (2 ^ r.length + c) / 2 ^ r.length = 1 := by
        rw [Nat.add_div_left _ (Nat.pow_pos (by decide)), Nat.div_eq_of_lt hc]
      simp only [Function.comp]
      rw [chosenL_app, h1, chosenL_hi]
      simp [chosenL]
theorem pw_sub {r h : List D} (hh : h ∈ pw r) : h.Sublist r := by
  rw [pw_chosen] at hh
  obtain ⟨c, _, rfl⟩ := List.mem_map.mp hh
  exact chosenL_sub r c
theorem chosen_fold : ∀ (l : List D) (c : Nat) (m : List D), l.foldl (fun (a : Nat × List D) x => (a.1 / 2, if a.1 % 2 = 1 then a.2 ++ [x] else a.2)) (c, m) = (c / 2 ^ l.length, m ++ chosenL l c)
  | [], c, m => by simp [chosenL]
  | x :: l, c, m => by
    rw [List.foldl_cons, chosen_fold l, chosenL, List.length_cons, Nat.div_div_eq_div_mul, Nat.pow_succ, Nat.mul_comm 2]
    split <;> simp
theorem chosenL_len (r : List D) (c : Nat) : (chosenL r c).length ≤ r.length := (chosenL_sub r c).length_le
theorem chosen_ok (n : Nat) (row : List D) (hr : ∀ d ∈ row, ∃ s, d = .str s) (hl : row.length ≤ 1000) (tp : D) (ht : tp = .tup row ∨ tp = .lst row) (c : Nat) : callD tab.g (n + 1) N__law_chosen [tp, .int c] = .ok (.sh, .tup (chosenL row c)) := by
  rw [c__law_chosen, b__law_chosen]
  obtain ⟨s', _, e⟩ := forL_fold (mk := fun s (a : Nat × List D) => [some (.sh, tp), some (.sh, .int c), some (.sh, .int a.1), some (.o1, .lst a.2), s]) (step := fun (a : Nat × List D) x => (a.1 / 2, if a.1 % 2 = 1 then a.2 ++ [x] else a.2))
    (f := fun x env' => exs tab.g (cal tab.g n) L__law_chosen_0 (List.set env' 4 (some (.sh, x)))) row none (c, []) (fun p x r ep s => by
      obtain ⟨z, rfl⟩ := hr x (by rw [ep]; simp)
      rw [chosen_fold]
      have h1 := chosenL_len p c
      have h2 : p.length ≤ 1000 := by rw [ep] at hl; simp at hl; omega
      have sz := szL_lt (show (chosenL p c).length ≤ 1000000 by omega)
      generalize c / 2 ^ p.length = k
      by_cases hk : k % 2 = 1
      · have e1 : (k : Int) % 2 = 1 := by omega
        simp [L__law_chosen_0, e1, hk, sz]
      · have e1 : ¬ (k : Int) % 2 = 1 := by omega
        simp [L__law_chosen_0, e1, hk, sz])
  rw [chosen_fold] at e
  have hit : itD tp = some row := by rcases ht with rfl | rfl <;> rfl
  simp only [List.nil_append] at e
  simp [hit, e]
end Lw


set_option maxHeartbeats 2000000
namespace Lw
open PySem S2
def Strs (l : List D) : Prop := ∀ d ∈ l, ∃ s, d = D.str s
theorem alike_strs : ∀ (r t : List D), Strs r → Strs t → W.alikeAll (pys r) (pys t) = true
  | [], t, _, _ => by rw [pys_nil, W.alikeAll]
  | a :: r, [], _, _ => by rw [pys_nil, pys_cons, W.alikeAll]
  | a :: r, b :: t, h1, h2 => by
    obtain ⟨x, rfl⟩ := h1 a List.mem_cons_self
    obtain ⟨y, rfl⟩ := h2 b List.mem_cons_self
    rw [pys_cons, pys_cons, W.alikeAll, py_str, py_str, alike_strs r t (fun d hd => h1 d (List.mem_cons_of_mem _ hd)) fun d hd => h2 d (List.mem_cons_of_mem _ hd)]
    rfl
theorem pl_strs {l : List D} (hl : l.length ≤ 1000000) (h : Strs l) : pl 1 (.tup l) = true := pl_tup hl fun d hd => by obtain ⟨s, rfl⟩ := h d hd; rfl
theorem noL_strs {l : List D} (h : Strs l) : hasLs l = false := noLs fun d hd => by obtain ⟨s, rfl⟩ := h d hd; simp
theorem Strs.sub {l m : List D} (h : Strs l) (s : ∀ x ∈ m, x ∈ l) : Strs m := fun d hd => h d (s d hd)
/-- the key of a hearing -/
def keyD (h : List D) : D := .tup [.int h.length, .tup h]
theorem place_ok (n : Nat) (h : List D) : callD tab.g (n + 1) N_hearing_place [.tup h] = .ok (.sh, keyD h) := by
  rw [c_hearing_place, b_hearing_place]
  simp [szL_of (show 2 ≤ 1000000 by decide), keyD]
def hsort (F : List (List D)) : List (List D) := F.mergeSort fun a b => leD (keyD a) (keyD b)
def RowsOk (F : List (List D)) : Prop := F.length ≤ 1000 ∧ ∀ h ∈ F, Strs h ∧ h.length ≤ 1000
theorem keys_row {F : List (List D)} (h : RowsOk F) : RowOk (F.map keyD) := by
  refine ⟨by rw [List.length_map]; exact h.1, fun a ha => ?_, .inl fun a ha => ?_, fun a ha => ?_⟩
  · obtain ⟨x, hx, rfl⟩ := List.mem_map.mp ha
    obtain ⟨h1, h2⟩ := h.2 x hx
    refine ⟨plainB_pl (j := 2) (pl_tup (by simp) fun d hd => ?_), rfl, fun b hb => ?_⟩
    · simp at hd
      rcases hd with rfl | rfl
      · rfl
      · exact pl_strs (by omega) h1
    · obtain ⟨y, hy, rfl⟩ := List.mem_map.mp hb
      have := alike_strs x y h1 (h.2 y hy).1
      simp [keyD, W.alike, W.alikeAll, this]
  · obtain ⟨x, hx, rfl⟩ := List.mem_map.mp ha
    exact ⟨_, _, rfl⟩
  · obtain ⟨x, hx, rfl⟩ := List.mem_map.mp ha
    have := noL_strs (h.2 x hx).1
    simp [keyD, this]
theorem sortOk_row {l : List D} (h : RowOk l) : sortOk l = true := by
  have e : sortD l = .ok (.lst (l.mergeSort leD)) := sorted_ok h
  unfold sortD at e
  split at e
  · assumption
  · cases e
theorem srt_keys (F : List (List D)) : (F.map keyD).mergeSort leD = (hsort F).map keyD := by
  unfold hsort
  exact (List.map_mergeSort (r := fun a b => leD (keyD a) (keyD b)) (s := leD) (f := keyD) (l := F) fun _ _ _ _ => rfl).symm
theorem keyed_rows (F : List (List D)) : keyed (F.map D.tup) (F.map keyD) = (hsort F).map D.tup := by
  unfold keyed hsort
  have e : (F.map D.tup).zip (F.map keyD) = F.map fun h => (D.tup h, keyD h) := by
    induction F with
    | nil => rfl
    | cons a F ih => rw [List.map_cons, List.map_cons, List.zip_cons_cons, ih]; rfl
  rw [e]
  have z := List.map_mergeSort (r := fun a b => leD (keyD a) (keyD b)) (s := fun p q : D × D => leD p.2 q.2) (f := fun h => (D.tup h, keyD h)) (l := F) fun _ _ _ _ => rfl
  rw [← z, List.map_map]
  rfl
theorem hsort_mem {F : List (List D)} {h : List D} : h ∈ hsort F ↔ h ∈ F := List.mem_mergeSort
theorem keysR_rows (n : Nat) : ∀ F : List (List D), keysR (callD tab.g (n + 1)) N_hearing_place (F.map D.tup) = .ok (F.map keyD)
  | [] => rfl
  | h :: F => by
    rw [List.map_cons, keysR, place_ok, keysR_rows n F]
    rfl
theorem pw_rows {r : List D} (h : Strs r) (hl : r.length ≤ 8) : RowsOk (pw r) := by
  refine ⟨?_, fun x hx => ?_⟩
  · rw [pw_len]
    calc 2 ^ r.length ≤ 2 ^ 8 := Nat.pow_le_pow_right (by decide) hl
      _ ≤ 1000 := by decide
  · have s := pw_sub hx
    exact ⟨h.sub fun y hy => s.subset hy, Nat.le_trans s.length_le (by omega)⟩
theorem noL_rows {F : List (List D)} (h : ∀ x ∈ F, Strs x) : hasLs (F.map D.tup) = false := noLs fun d hd => by
  obtain ⟨x, hx, rfl⟩ := List.mem_map.mp hd
  simp [noL_strs (h x hx)]
theorem lc_ap {C : Cal} {F : List (List D)} {x : D} {s0 s3 : S2.Slot} (hF : F.length ≤ 1000) (h : ∀ y ∈ F, y.length ≤ 1000) : ev tab.g C (.lc (.bin .add (.var 3) (.tup (.cons (.var 2) .nil))) (.nm 3) (.it (.var 1)) .none) [s0, some (.o1, .lst (F.map D.tup)), some (.sh, x), s3] = .ok (.o1, .lst (F.map fun y => D.tup (y ++ [x]))) := by
  refine lc_all F D.tup (fun y => D.tup (y ++ [x])) (o := (.sh, .lst (F.map D.tup))) (by simp) (by omega) fun y hy => ⟨[s0, some (.o1, .lst (F.map D.tup)), some (.sh, x), some (.sh, .tup y)], rfl, ?_⟩
  have z := h y hy
  simp [szL_of (show 1 ≤ 1000000 by decide), add_tup (a := y) (b := [x]) (by simp; omega)]
theorem pw_step (F : List (List D)) (x : D) : (F.map D.tup) ++ F.map (fun y => D.tup (y ++ [x])) = (F ++ F.map (· ++ [x])).map D.tup := by
  rw [List.map_append, List.map_map]; rfl
theorem hearings_ok (n : Nat) (nm : List D) (hN : namesR (.tup nm) 8 = .fine) (hs : Strs nm) (hl : nm.length ≤ 8) (hv : nv (.tup nm) = true) : callD tab.g (n + 3) N_hearings [.tup nm] = .ok (.sh, .tup ((hsort (pw (srt nm))).map D.tup)) := by
  rw [c_hearings, b_hearings]
  have cn := check_names_ok n (.tup nm) 8 hv
  rw [hN] at cn
  have so : biD .sorted [.tup nm] = .ok (.lst (srt nm)) := sorted_ok (row_str (by omega) hs)
  have z1 := szL_of (show 1 ≤ 1000000 by decide)
  have sl : (srt nm).length ≤ 8 := by rw [srt_len]; exact hl
  have ss : Strs (srt nm) := hs.sub fun x hx => srt_mem hx
  obtain ⟨s', _, e⟩ := forL_fold (mk := fun s (F : List (List D)) => [some (.sh, .tup nm), some (.o1, .lst (F.map D.tup)), s, none]) (step := fun F a => F ++ F.map (· ++ [a])) (f := fun x env' => exs tab.g (cal tab.g (n + 2)) L_hearings_0 (List.set env' 2 (some (.sh, x)))) (srt nm) none [[]] (fun p x r ep s => by
    have pl : p.length ≤ 8 := by rw [ep] at sl; simp at sl; omega
    have ps : Strs p := ss.sub fun y hy => by rw [ep]; exact List.mem_append_left _ hy
    obtain ⟨r1, r2⟩ := pw_rows ps pl
    obtain ⟨z, rfl⟩ := ss x (by rw [ep]; simp)
    show exs tab.g (cal tab.g (n + 2)) L_hearings_0 [some (.sh, .tup nm), some (.o1, .lst ((pw p).map D.tup)), some (.sh, .str z), none] = .nx [some (.sh, .tup nm), some (.o1, .lst ((pw p ++ (pw p).map (· ++ [.str z])).map D.tup)), some (.sh, .str z), none]
    rw [← pw_step]
    have le := lc_ap (C := cal tab.g (n + 2)) (F := pw p) (x := .str z) (s0 := some (.sh, .tup nm)) (s3 := none) r1 fun y hy => (r2 y hy).2
    have h1 : hasLs ((pw p).map D.tup) = false := noL_rows fun y hy => (r2 y hy).1
    have h2 : hasLs ((pw p).map fun y => D.tup (y ++ [.str z])) = false := noLs fun d hd => by
      obtain ⟨y, hy, rfl⟩ := List.mem_map.mp hd
      have := noL_strs (r2 y hy).1
      simp [hasLs_app, this]
    have ad := add_lst (a := (pw p).map D.tup) (b := (pw p).map fun y => D.tup (y ++ [.str z])) (by simp; omega)
    simp [-ev_lc, L_hearings_0, le, ad, hasLs_app, h1, h2])
  obtain ⟨r1, r2⟩ := pw_rows ss sl
  have hp : (srt nm).foldl (fun F a => F ++ F.map (· ++ [a])) [[]] = pw (srt nm) := rfl
  rw [hp] at e
  have kr : keysR (cal tab.g (n + 2)).call N_hearing_place ((pw (srt nm)).map D.tup) = .ok ((pw (srt nm)).map keyD) := keysR_rows (n + 1) (pw (srt nm))
  have sk := sortOk_row (keys_row (pw_rows ss sl))
  have nl := noL_strs ss
  have e0 : ([[]] : List (List D)).map D.tup = [.tup []] := rfl
  rw [e0] at e
  simp [cn, NR.out, so, z1, e, nl, listOwn, kr, sk, keyed_rows]
theorem range_codes (r : List D) : upto 0 (2 ^ r.length) = (List.range (2 ^ r.length)).map fun c : Nat => D.int c := by
  unfold upto
  exact List.map_congr_left fun a _ => by simp
end Lw


set_option maxHeartbeats 2000000
namespace Lw
open PySem S2
/-! clauses and hearings: what the small defs tell -/
def memB (h : List D) (x : D) : Bool := h.any fun z => PyData.eqv (py z) (py x)
theorem mem_in {x : D} {h : List D} (hx : ∃ s, x = D.str s) (hh : Strs h) (hl : h.length ≤ 1000) : cmpD .in_ x (.tup h) = .ok (memB h x) ∧ cmpD .notin x (.tup h) = .ok (!memB h x) := by
  obtain ⟨s, rfl⟩ := hx
  have e : cmpD .in_ (.str s) (.tup h) = .ok (memB h (.str s)) := in_tup (plainB_pl (j := 1) rfl) (plainB_pl (pl_strs (by omega) hh))
  refine ⟨e, ?_⟩
  show ((inD (.str s) (.tup h)).bind fun c => .ok (!c)) = _
  rw [show inD (.str s) (.tup h) = .ok (memB h (.str s)) from e]
  rfl
theorem eqv_str {s t : Str} (h : PyData.eqv (py (.str s)) (py (.str t)) = true) : s = t := by rw [py_str, py_str] at h; simpa [PyData.eqv] using h
theorem memB_iff {x : D} {h : List D} (hx : ∃ s, x = D.str s) (hh : Strs h) : memB h x = true ↔ x ∈ h := by
  obtain ⟨s, rfl⟩ := hx
  unfold memB
  rw [List.any_eq_true]
  constructor
  · rintro ⟨z, hz, e⟩
    obtain ⟨t, rfl⟩ := hh z hz
    rw [← eqv_str e]; exact hz
  · exact fun h => ⟨_, h, by rw [py_str]; simp [PyData.eqv]⟩
def meetsB (h c : List D) : Bool := c.any (memB h)
def hitsB (h : List D) (cs : List (List D)) : Bool := cs.all (meetsB h)
def hasAll (h p : List D) : Bool := p.all (memB h)
def hasOne (h : List D) (ps : List (List D)) : Bool := ps.any (hasAll h)
theorem any_none {p q : D → Bool} {l : List D} (e : l.find? p = none) : l.any p = false := by
  rw [List.find?_eq_none] at e
  rw [List.any_eq_false]
  exact fun x hx => e x hx
theorem any_some {p : D → Bool} {l : List D} {x : D} (e : l.find? p = some x) : l.any p = true := by
  rw [List.any_eq_true]
  exact ⟨x, List.mem_of_find?_eq_some e, List.find?_some e⟩
theorem meets_ok (n : Nat) (h c : List D) (hh : Strs h) (hc : Strs c) (lh : h.length ≤ 1000) : callD tab.g (n + 1) N_meets [.tup h, .tup c] = .ok (.sh, .bl (meetsB h c)) := by
  rw [c_meets, b_meets]
  obtain ⟨s', _, e⟩ := forL_find (mk := fun s => [some (.sh, .tup h), some (.sh, .tup c), s]) (p := memB h) (out := fun _ _ => .ret .sh (.bl true)) (f := fun x env' => exs tab.g (cal tab.g n) L_meets_0 (List.set env' 2 (some (.sh, x)))) c none (fun x hx s => by
    have := (mem_in (hc x hx) hh lh).1
    cases e : memB h x <;> rw [e] at this <;> simp [L_meets_0, this]) (fun _ _ => rfl)
  rcases e with ⟨x, e1, e2⟩ | ⟨e1, e2⟩
  · have a : meetsB h c = true := any_some e1
    simp [e2, a]
  · have a : meetsB h c = false := by
      unfold meetsB; rw [List.find?_eq_none] at e1; rw [List.any_eq_false]; exact e1
    simp [e2, a]
theorem has_all_ok (n : Nat) (h c : List D) (hh : Strs h) (hc : Strs c) (lh : h.length ≤ 1000) : callD tab.g (n + 1) N_has_all [.tup h, .tup c] = .ok (.sh, .bl (hasAll h c)) := by
  rw [c_has_all, b_has_all]
  obtain ⟨s', _, e⟩ := forL_find (mk := fun s => [some (.sh, .tup h), some (.sh, .tup c), s]) (p := fun x => !memB h x) (out := fun _ _ => .ret .sh (.bl false)) (f := fun x env' => exs tab.g (cal tab.g n) L_has_all_0 (List.set env' 2 (some (.sh, x)))) c none (fun x hx s => by
    have := (mem_in (hc x hx) hh lh).2
    cases e : memB h x <;> rw [e] at this <;> simp [L_has_all_0, this]) (fun _ _ => rfl)
  rcases e with ⟨x, e1, e2⟩ | ⟨e1, e2⟩
  · have a := any_find (q := memB h) (fun _ _ => rfl) e1
    simp [e2, hasAll, a]
  · have a := all_find (q := memB h) (fun _ _ => rfl) e1
    simp [e2, hasAll, a]
/-- rows of texts -/
def Rws (F : List (List D)) : Prop := ∀ h ∈ F, Strs h ∧ h.length ≤ 1000
theorem find_map {p : D → Bool} {q : List D → Bool} (e : ∀ c, p (.tup c) = q c) : ∀ F : List (List D), (F.map D.tup).find? p = (F.find? q).map D.tup
  | [] => rfl
  | c :: F => by
    rw [List.map_cons, List.find?_cons, List.find?_cons, e]
    cases q c with
    | true => rfl
    | false => exact find_map e F
def tupL : D → List D
  | .tup l => l
  | _ => []
theorem hits_ok (n : Nat) (h : List D) (cs : List (List D)) (hh : Strs h) (lh : h.length ≤ 1000) (hc : Rws cs) : callD tab.g (n + 2) N_hits [.tup h, .tup (cs.map D.tup)] = .ok (.sh, .bl (hitsB h cs)) := by
  rw [c_hits, b_hits]
  obtain ⟨s', _, e⟩ := forL_find (mk := fun s => [some (.sh, .tup h), some (.sh, .tup (cs.map D.tup)), s]) (p := fun x => !meetsB h (tupL x)) (out := fun _ _ => .ret .sh (.bl false)) (f := fun x env' => exs tab.g (cal tab.g (n + 1)) L_hits_0 (List.set env' 2 (some (.sh, x)))) (cs.map D.tup) none (fun x hx s => by
    obtain ⟨c, hm, rfl⟩ := List.mem_map.mp hx
    have := meets_ok n h c hh (hc c hm).1 lh
    show _ = if (!meetsB h c) = true then _ else _
    cases e : meetsB h c <;> rw [e] at this <;> simp [L_hits_0, this]) (fun _ _ => rfl)
  rw [find_map (q := fun c => !meetsB h c) (fun _ => rfl)] at e
  rcases e with ⟨x, e1, e2⟩ | ⟨e1, e2⟩
  · have a : hitsB h cs = false := by
      cases q : cs.find? (fun c => !meetsB h c) with
      | none => rw [q] at e1; cases e1
      | some c =>
        unfold hitsB
        rw [List.all_eq_false]
        exact ⟨c, List.mem_of_find?_eq_some q, by have := List.find?_some q; simpa using this⟩
    simp [e2, a]
  · have a : hitsB h cs = true := by
      cases q : cs.find? (fun c => !meetsB h c) with
      | some c => rw [q] at e1; cases e1
      | none =>
        rw [List.find?_eq_none] at q
        unfold hitsB
        rw [List.all_eq_true]
        exact fun c hc => by have := q c hc; simpa using this
    simp [e2, a]
theorem has_one_ok (n : Nat) (h : List D) (cs : List (List D)) (hh : Strs h) (lh : h.length ≤ 1000) (hc : Rws cs) : callD tab.g (n + 2) N_has_one_of [.tup h, .lst (cs.map D.tup)] = .ok (.sh, .bl (hasOne h cs)) := by
  rw [c_has_one_of, b_has_one_of]
  obtain ⟨s', _, e⟩ := forL_find (mk := fun s => [some (.sh, .tup h), some (.sh, .lst (cs.map D.tup)), s]) (p := fun x => hasAll h (tupL x)) (out := fun _ _ => .ret .sh (.bl true)) (f := fun x env' => exs tab.g (cal tab.g (n + 1)) L_has_one_of_0 (List.set env' 2 (some (.sh, x)))) (cs.map D.tup) none (fun x hx s => by
    obtain ⟨c, hm, rfl⟩ := List.mem_map.mp hx
    have := has_all_ok n h c hh (hc c hm).1 lh
    show _ = if hasAll h c = true then _ else _
    cases e : hasAll h c <;> rw [e] at this <;> simp [L_has_one_of_0, this]) (fun _ _ => rfl)
  rw [find_map (q := fun c => hasAll h c) (fun _ => rfl)] at e
  rcases e with ⟨x, e1, e2⟩ | ⟨e1, e2⟩
  · have a : hasOne h cs = true := by
      cases q : cs.find? (fun c => hasAll h c) with
      | none => rw [q] at e1; cases e1
      | some c =>
        unfold hasOne
        rw [List.any_eq_true]
        exact ⟨c, List.mem_of_find?_eq_some q, by have := List.find?_some q; simpa using this⟩
    simp [e2, a]
  · have a : hasOne h cs = false := by
      cases q : cs.find? (fun c => hasAll h c) with
      | some c => rw [q] at e1; cases e1
      | none =>
        rw [List.find?_eq_none] at q
        unfold hasOne
        rw [List.any_eq_false]
        exact fun c hc => by have := q c hc; simpa using this
    simp [e2, a]
theorem cs_noL {cs : List (List D)} (h : Rws cs) : hasLs (cs.map D.tup) = false := noL_rows fun x hx => (h x hx).1
theorem law_meets_ok (n : Nat) (h : List D) (cs : List (List D)) (tp : D) (ht : itD tp = some (cs.map D.tup)) (hh : Strs h) (lh : h.length ≤ 1000) (hc : Rws cs) : callD tab.g (n + 1) N__law_meets [.tup h, tp] = .ok (.sh, .bl (hitsB h cs)) := by
  rw [c__law_meets, b__law_meets]
  obtain ⟨s', _, e⟩ := forL_find (mk := fun s => [some (.sh, .tup h), some (.sh, tp), s, none]) (p := fun x => !meetsB h (tupL x)) (out := fun _ _ => .ret .sh (.bl false)) (f := fun x env' => exs tab.g (cal tab.g n) L__law_meets_0 (List.set env' 2 (some (.sh, x)))) (cs.map D.tup) none (fun x hx s => by
    obtain ⟨c, hm, rfl⟩ := List.mem_map.mp hx
    obtain ⟨c1, c2⟩ := hc c hm
    have lc : ev tab.g (cal tab.g n) (.lc (.var 3) (.nm 3) (.it (.var 2)) (.some (.cmp .in_ (.var 3) (.var 0)))) [some (.sh, .tup h), some (.sh, tp), some (.sh, .tup c), none] = .ok (.o1, .lst (c.filter (memB h))) := by
      have := lc_filter (g := tab.g) (C := cal tab.g n) (elt := .var 3) (c := .cmp .in_ (.var 3) (.var 0)) (tg := .nm 3) (it := .it (.var 2)) (env := [some (.sh, .tup h), some (.sh, tp), some (.sh, .tup c), none]) c id id (memB h) (o := (.sh, .tup c)) (by simp [itD]) (by omega) fun x hx => ⟨[some (.sh, .tup h), some (.sh, tp), some (.sh, .tup c), some (.sh, x)], rfl, by
        have := (mem_in (c1 x hx) hh lh).1
        simp [this], fun _ => by simp⟩
      rw [List.map_id] at this
      exact this
    have eq : ((c.filter (memB h)).length = 0) ↔ meetsB h c = false := by
      rw [List.length_eq_zero_iff, List.filter_eq_nil_iff]
      unfold meetsB
      rw [List.any_eq_false]
    show _ = if (!meetsB h c) = true then _ else _
    cases q : meetsB h c with
    | false =>
      rw [eq.mpr q |> List.length_eq_zero_iff.mp] at lc
      simp [-ev_lc, L__law_meets_0, lc]
    | true =>
      have ne : ¬ (c.filter (memB h)).length = 0 := fun z => by rw [eq.mp z] at q; cases q
      have e2 : cmpD .eq (.int ((c.filter (memB h)).length : Int)) (.int 0) = .ok false := by
        have q : ¬ ((c.filter (memB h)).length : Int) = 0 := by omega
        rw [eq_ii, decide_eq_false q]
      simp only [List.length_eq_zero_iff] at ne
      generalize c.filter (memB h) = L at *
      simp [-ev_lc, L__law_meets_0, lc, e2]) (fun _ _ => rfl)
  rw [find_map (q := fun c => !meetsB h c) (fun _ => rfl)] at e
  rcases e with ⟨x, e1, e2⟩ | ⟨e1, e2⟩
  · have a : hitsB h cs = false := by
      cases q : cs.find? (fun c => !meetsB h c) with
      | none => rw [q] at e1; cases e1
      | some c =>
        unfold hitsB
        rw [List.all_eq_false]
        exact ⟨c, List.mem_of_find?_eq_some q, by have := List.find?_some q; simpa using this⟩
    simp [ht, e2, a]
  · have a : hitsB h cs = true := by
      cases q : cs.find? (fun c => !meetsB h c) with
      | some c => rw [q] at e1; cases e1
      | none =>
        rw [List.find?_eq_none] at q
        unfold hitsB
        rw [List.all_eq_true]
        exact fun c hc => by have := q c hc; simpa using this
    simp [ht, e2, a]
end Lw

set_option maxHeartbeats 2000000
namespace Lw
open PySem S2
/-! sublists of a row without doubles -/
theorem sub_filter {α : Type} {row h : List α} (nd : row.Nodup) (s : h.Sublist row) (p : α → Bool) (hp : ∀ x ∈ row, p x = true ↔ x ∈ h) : h = row.filter p := by
  induction s with
  | slnil => rfl
  | @cons l1 l2 a s ih =>
    rw [List.nodup_cons] at nd
    have na : a ∉ l1 := fun z => nd.1 (s.subset z)
    have pa : p a = false := by
      cases e : p a with
      | false => rfl
      | true => exact absurd ((hp a List.mem_cons_self).mp e) na
    rw [List.filter_cons_of_neg (by rw [pa]; exact Bool.false_ne_true)]
    exact ih nd.2 fun x hx => hp x (List.mem_cons_of_mem _ hx)
  | @cons_cons l1 l2 a s ih =>
    rw [List.nodup_cons] at nd
    have pa : p a = true := (hp a List.mem_cons_self).mpr List.mem_cons_self
    rw [List.filter_cons_of_pos pa]
    congr 1
    refine ih nd.2 fun x hx => ?_
    rw [hp x (List.mem_cons_of_mem _ hx), List.mem_cons]
    constructor
    · rintro (rfl | z)
      · exact absurd hx nd.1
      · exact z
    · exact .inr
open Classical in
theorem sub_of_subset {α : Type} {row h m : List α} (nd : row.Nodup) (sh : h.Sublist row) (sm : m.Sublist row) (hs : ∀ x ∈ m, x ∈ h) : m.Sublist h := by
  have e1 := sub_filter nd sh (fun x => decide (x ∈ h)) fun x _ => by simp
  have e2 := sub_filter nd sm (fun x => decide (x ∈ m)) fun x _ => by simp
  have nh : h.Nodup := nd.sublist sh
  have e3 : m = h.filter fun x => decide (x ∈ m) := by
    conv => lhs; rw [e2]
    conv => rhs; rw [e1]
    rw [List.filter_filter]
    refine List.filter_congr fun x _ => ?_
    by_cases z : x ∈ m
    · simp [z, hs x z]
    · simp [z]
  rw [e3]
  exact List.filter_sublist
theorem sub_eq {α : Type} {row h m : List α} (nd : row.Nodup) (sh : h.Sublist row) (sm : m.Sublist row) (h1 : ∀ x ∈ m, x ∈ h) (h2 : ∀ x ∈ h, x ∈ m) : m = h :=
  (sub_of_subset nd sh sm h1).eq_of_length (Nat.le_antisymm (sub_of_subset nd sh sm h1).length_le (sub_of_subset nd sm sh h2).length_le)
/-- one item less -/
def del (h : List D) (k : Nat) : List D := h.take k ++ h.drop (k + 1)
theorem del_sub (h : List D) (k : Nat) : (del h k).Sublist h := by
  unfold del
  conv => rhs; rw [← List.take_append_drop k h]
  refine List.Sublist.append (List.Sublist.refl _) ?_
  rw [← List.drop_drop]
  exact List.drop_sublist 1 _
theorem del_len {h : List D} {k : Nat} (hk : k < h.length) : (del h k).length + 1 = h.length := by
  unfold del
  rw [List.length_append, List.length_take, List.length_drop]
  omega
theorem del_mem {h : List D} {k : Nat} (hk : k < h.length) {x : D} (hx : x ∈ h) (ne : x ≠ h[k]) : x ∈ del h k := by
  rw [← List.take_append_drop k h] at hx
  unfold del
  rcases List.mem_append.mp hx with z | z
  · exact List.mem_append_left _ z
  · rw [List.drop_eq_getElem_cons hk] at z
    rcases List.mem_cons.mp z with z | z
    · exact absurd z ne
    · exact List.mem_append_right _ z
/-! hitting -/
theorem meets_iff {h c : List D} (hh : Strs h) (hc : Strs c) : meetsB h c = true ↔ ∃ x ∈ c, x ∈ h := by
  unfold meetsB
  rw [List.any_eq_true]
  exact ⟨fun ⟨x, h1, h2⟩ => ⟨x, h1, (memB_iff (hc x h1) hh).mp h2⟩, fun ⟨x, h1, h2⟩ => ⟨x, h1, (memB_iff (hc x h1) hh).mpr h2⟩⟩
theorem hits_iff {h : List D} {cs : List (List D)} (hh : Strs h) (hc : ∀ c ∈ cs, Strs c) : hitsB h cs = true ↔ ∀ c ∈ cs, ∃ x ∈ c, x ∈ h := by
  unfold hitsB
  rw [List.all_eq_true]
  exact ⟨fun q c z => (meets_iff hh (hc c z)).mp (q c z), fun q c z => (meets_iff hh (hc c z)).mpr (q c z)⟩
theorem hasAll_iff {h p : List D} (hh : Strs h) (hp : Strs p) : hasAll h p = true ↔ ∀ x ∈ p, x ∈ h := by
  unfold hasAll
  rw [List.all_eq_true]
  exact ⟨fun q x z => (memB_iff (hp x z) hh).mp (q x z), fun q x z => (memB_iff (hp x z) hh).mpr (q x z)⟩
theorem hits_mono {h m : List D} {cs : List (List D)} (hh : Strs h) (hm : Strs m) (hc : ∀ c ∈ cs, Strs c) (s : ∀ x ∈ m, x ∈ h) (q : hitsB m cs = true) : hitsB h cs = true := by
  rw [hits_iff hh hc]
  rw [hits_iff hm hc] at q
  intro c z
  obtain ⟨x, h1, h2⟩ := q c z
  exact ⟨x, h1, s x h2⟩
def minB (cs : List (List D)) (h : List D) : Bool := hitsB h cs && (List.range h.length).all fun k => !hitsB (del h k) cs
theorem minB_iff {cs : List (List D)} {h : List D} : minB cs h = true ↔ hitsB h cs = true ∧ ∀ k, k < h.length → hitsB (del h k) cs = false := by
  unfold minB
  rw [Bool.and_eq_true, List.all_eq_true]
  exact ⟨fun ⟨a, b⟩ => ⟨a, fun k hk => by have := b k (List.mem_range.mpr hk); simpa using this⟩, fun ⟨a, b⟩ => ⟨a, fun k hk => by rw [b k (List.mem_range.mp hk)]; rfl⟩⟩
/-- in what hits there is a least one that hits -/
theorem least_in {cs : List (List D)} : ∀ (n : Nat) (h : List D), h.length ≤ n → hitsB h cs = true → ∃ m, m.Sublist h ∧ minB cs m = true
  | 0, h, hl, q => ⟨h, List.Sublist.refl _, minB_iff.mpr ⟨q, fun k hk => absurd hk (by omega)⟩⟩
  | n + 1, h, hl, q => by
    by_cases e : ∃ k, k < h.length ∧ hitsB (del h k) cs = true
    · obtain ⟨k, hk, e⟩ := e
      obtain ⟨m, s, r⟩ := least_in n (del h k) (by have := del_len hk; omega) e
      exact ⟨m, s.trans (del_sub h k), r⟩
    · refine ⟨h, List.Sublist.refl _, minB_iff.mpr ⟨q, fun k hk => ?_⟩⟩
      cases z : hitsB (del h k) cs with
      | false => rfl
      | true => exact absurd ⟨k, hk, z⟩ e
/-- all sublists of a row, fewer items first, each once -/
structure Listed (row : List D) (Ls : List (List D)) : Prop where
  nd : row.Nodup
  st : Strs row
  mem : ∀ h, h ∈ Ls ↔ h.Sublist row
  once : Ls.Nodup
  ord : Ls.Pairwise fun a b => a.length ≤ b.length
theorem Listed.strs {row : List D} {Ls : List (List D)} (L : Listed row Ls) {h : List D} (s : h.Sublist row) : Strs h := L.st.sub fun x hx => s.subset hx
/-- there is an item that the other one has not -/
theorem extra {row h m : List D} (nd : row.Nodup) (sh : h.Sublist row) (sm : m.Sublist row) (hs : ∀ x ∈ m, x ∈ h) (ne : m ≠ h) : ∃ k, ∃ hk : k < h.length, h[k] ∉ m := by
  refine Classical.byContradiction fun q => ne (sub_eq nd sh sm hs fun x hx => ?_)
  refine Classical.byContradiction fun z => q ?_
  obtain ⟨k, hk, e⟩ := List.getElem_of_mem hx
  exact ⟨k, hk, by rw [e]; exact z⟩
def stepM (cs : List (List D)) (F : List (List D)) (h : List D) : List (List D) := if (hitsB h cs && !hasOne h F) = true then F ++ [h] else F
theorem one_step {row : List D} {Ls : List (List D)} (L : Listed row Ls) {cs : List (List D)} (hc : ∀ c ∈ cs, Strs c) {pre suf : List (List D)} {h : List D} (e : Ls = pre ++ h :: suf) : (hitsB h cs && !hasOne h (pre.filter (minB cs))) = minB cs h := by
  have sh : h.Sublist row := (L.mem h).mp (by rw [e]; simp)
  have hh := L.strs sh
  have hpre : ∀ m ∈ pre, m.Sublist row := fun m hm => (L.mem m).mp (by rw [e]; exact List.mem_append_left _ hm)
  have nin : h ∉ pre := fun z => by
    have := L.once
    rw [e, List.nodup_append] at this
    exact this.2.2 h z h List.mem_cons_self rfl
  have earlier : ∀ m, m.Sublist row → m.length < h.length → m ∈ pre := fun m sm lm => by
    have := (L.mem m).mpr sm
    rw [e] at this
    rcases List.mem_append.mp this with z | z
    · exact z
    · have o := L.ord
      rw [e, List.pairwise_append] at o
      rcases List.mem_cons.mp z with z | z
      · rw [z] at lm; omega
      · have := List.rel_of_pairwise_cons o.2.1 z
        omega
  cases q : hitsB h cs with
  | false =>
    rw [Bool.false_and]
    cases z : minB cs h with
    | false => rfl
    | true => rw [(minB_iff.mp z).1] at q; cases q
  | true =>
    rw [Bool.true_and]
    cases z : minB cs h with
    | true =>
      rw [Bool.not_eq_true']
      unfold hasOne
      rw [List.any_eq_false]
      intro m hm
      rw [List.mem_filter] at hm
      intro ha
      have sm := hpre m hm.1
      have hs := (hasAll_iff hh (L.strs sm)).mp ha
      have ne : m ≠ h := fun x => nin (by rw [← x]; exact hm.1)
      obtain ⟨k, hk, nk⟩ := extra L.nd sh sm hs ne
      have h1 := (minB_iff.mp z).2 k hk
      have h2 : hitsB (del h k) cs = true := hits_mono (L.strs ((del_sub h k).trans sh)) (L.strs sm) hc (fun x hx => del_mem hk (hs x hx) (fun y => nk (by rw [← y]; exact hx))) (minB_iff.mp hm.2).1
      rw [h1] at h2; cases h2
    | false =>
      have : hasOne h (pre.filter (minB cs)) = true := by
        have ex : ∃ k, k < h.length ∧ hitsB (del h k) cs = true := by
          refine Classical.byContradiction fun nx => ?_
          have : minB cs h = true := minB_iff.mpr ⟨q, fun k hk => by
            cases y : hitsB (del h k) cs with
            | false => rfl
            | true => exact absurd ⟨k, hk, y⟩ nx⟩
          rw [z] at this; cases this
        obtain ⟨k, hk, hy⟩ := ex
        obtain ⟨m, sm, mm⟩ := least_in _ _ (Nat.le_refl _) hy
        have sm2 := sm.trans (del_sub h k)
        unfold hasOne
        rw [List.any_eq_true]
        refine ⟨m, List.mem_filter.mpr ⟨earlier m (sm2.trans sh) ?_, mm⟩, (hasAll_iff hh (L.strs (sm2.trans sh))).mpr fun x hx => sm2.subset hx⟩
        have := sm.length_le
        have := del_len hk
        omega
      rw [this]; rfl
/-- THE SEARCH: all that hit minimally -/
theorem fold_min {row : List D} {Ls : List (List D)} (L : Listed row Ls) {cs : List (List D)} (hc : ∀ c ∈ cs, Strs c) : Ls.foldl (stepM cs) [] = Ls.filter (minB cs) := by
  have key : ∀ (suf pre : List (List D)), Ls = pre ++ suf → suf.foldl (stepM cs) (pre.filter (minB cs)) = Ls.filter (minB cs) := fun suf => by
    induction suf with
    | nil => intro pre e; rw [e, List.append_nil]; rfl
    | cons h suf ih =>
      intro pre e
      have one := one_step L hc e
      have e2 : Ls = (pre ++ [h]) ++ suf := by rw [e, List.append_assoc]; rfl
      rw [List.foldl_cons, ← ih _ e2]
      congr 1
      unfold stepM
      rw [one, List.filter_append]
      cases z : minB cs h with
      | true => rw [if_pos rfl, List.filter_cons_of_pos z]; rfl
      | false => rw [if_neg Bool.false_ne_true, List.filter_cons_of_neg (by rw [z]; exact Bool.false_ne_true)]; simp
  exact key Ls [] rfl
theorem fold_pre {row : List D} {Ls : List (List D)} (L : Listed row Ls) {cs : List (List D)} (hc : ∀ c ∈ cs, Strs c) : ∀ (p s : List (List D)), Ls = p ++ s → p.foldl (stepM cs) [] = p.filter (minB cs) := fun p => by
  refine snoc_ind (P := fun p => ∀ s, Ls = p ++ s → p.foldl (stepM cs) [] = p.filter (minB cs)) (fun s _ => rfl) (fun p h ih s e => ?_) p
  have e1 : Ls = p ++ h :: s := by rw [e, List.append_assoc]; rfl
  rw [List.foldl_append, ih (h :: s) e1, List.filter_append]
  show stepM cs (p.filter (minB cs)) h = _
  unfold stepM
  rw [one_step L hc e1]
  cases z : minB cs h with
  | true => rw [if_pos rfl, List.filter_cons_of_pos z]; rfl
  | false => rw [if_neg Bool.false_ne_true, List.filter_cons_of_neg (by rw [z]; exact Bool.false_ne_true)]; simp
end Lw

set_option maxHeartbeats 2000000
namespace Lw
open PySem S2
/-! the duality -/
/-- a clause of which no other one is a smaller part -/
def smaller (c o : List D) : Bool := decide (o.length < c.length) && o.all (memB c)
def leastB (cs : List (List D)) (c : List D) : Bool := cs.all fun o => !smaller c o
theorem smaller_iff {c o : List D} (hc : Strs c) (ho : Strs o) : smaller c o = true ↔ o.length < c.length ∧ ∀ x ∈ o, x ∈ c := by
  unfold smaller
  rw [Bool.and_eq_true, decide_eq_true_eq]
  exact and_congr Iff.rfl (hasAll_iff hc ho)
open Classical in
/-- a row hits the least hitting ones exactly if a clause lies in it -/
theorem hits_dual {row : List D} {Ls : List (List D)} (L : Listed row Ls) {cs : List (List D)} (hc : ∀ c ∈ cs, c.Sublist row) {s : List D} (ss : s.Sublist row) :
    hitsB s (Ls.filter (minB cs)) = true ↔ ∃ c ∈ cs, ∀ x ∈ c, x ∈ s := by
  have st : ∀ c ∈ cs, Strs c := fun c z => L.strs (hc c z)
  have stL : ∀ t ∈ Ls.filter (minB cs), Strs t := fun t z => L.strs ((L.mem t).mp (List.mem_filter.mp z).1)
  rw [hits_iff (L.strs ss) stL]
  constructor
  · intro q
    refine Classical.byContradiction fun nx => ?_
    -- what is not in s hits every clause
    have su : (row.filter fun x => decide (x ∉ s)).Sublist row := List.filter_sublist
    have hu : hitsB (row.filter fun x => decide (x ∉ s)) cs = true := (hits_iff (L.strs su) st).mpr fun c z => by
      refine Classical.byContradiction fun ny => nx ⟨c, z, fun x hx => ?_⟩
      refine Classical.byContradiction fun nz => ny ⟨x, hx, List.mem_filter.mpr ⟨(hc c z).subset hx, by simpa using nz⟩⟩
    obtain ⟨t, ts, tm⟩ := least_in _ _ (Nat.le_refl _) hu
    obtain ⟨x, hx, hs⟩ := q t (List.mem_filter.mpr ⟨(L.mem t).mpr (ts.trans su), tm⟩)
    have := (List.mem_filter.mp (ts.subset hx)).2
    simp only [decide_eq_true_eq] at this
    exact this hs
  · rintro ⟨c, z, hs⟩ t ht
    rw [List.mem_filter] at ht
    have h1 := (minB_iff.mp ht.2).1
    obtain ⟨x, h2, h3⟩ := (hits_iff (L.strs ((L.mem t).mp ht.1)) st).mp h1 c z
    exact ⟨x, h3, hs x h2⟩
theorem min_dual {row : List D} {Ls : List (List D)} (L : Listed row Ls) {cs : List (List D)} (hc : ∀ c ∈ cs, c.Sublist row) {c : List D} (sc : c.Sublist row) :
    minB (Ls.filter (minB cs)) c = true ↔ c ∈ cs ∧ leastB cs c = true := by
  rw [minB_iff, hits_dual L hc sc]
  have hk : ∀ k, hitsB (del c k) (Ls.filter (minB cs)) = true ↔ ∃ c' ∈ cs, ∀ x ∈ c', x ∈ del c k := fun k => hits_dual L hc ((del_sub c k).trans sc)
  have ncs : c.Nodup := L.nd.sublist sc
  constructor
  · rintro ⟨⟨c', z, hs⟩, q⟩
    have key : ∀ o ∈ cs, (∀ x ∈ o, x ∈ c) → o = c := fun o ho hx => by
      refine Classical.byContradiction fun ne => ?_
      obtain ⟨k, hk1, nk⟩ := extra L.nd sc (hc o ho) hx ne
      have := q k hk1
      have h2 := (hk k).mpr ⟨o, ho, fun x hm => del_mem hk1 (hx x hm) fun y => nk (by rw [← y]; exact hm)⟩
      rw [this] at h2; cases h2
    refine ⟨by rw [← key c' z hs]; exact z, ?_⟩
    unfold leastB
    rw [List.all_eq_true]
    intro o ho
    rw [Bool.not_eq_true']
    cases e : smaller c o with
    | false => rfl
    | true =>
      obtain ⟨h1, h2⟩ := (smaller_iff (L.strs sc) (L.strs (hc o ho))).mp e
      have := key o ho h2
      rw [this] at h1; omega
  · rintro ⟨z, q⟩
    refine ⟨⟨c, z, fun x hx => hx⟩, fun k hk1 => ?_⟩
    cases e : hitsB (del c k) (Ls.filter (minB cs)) with
    | false => rfl
    | true =>
      obtain ⟨o, ho, hx⟩ := (hk k).mp e
      unfold leastB at q
      rw [List.all_eq_true] at q
      have h1 := q o ho
      have so : o.Sublist (del c k) := sub_of_subset L.nd ((del_sub c k).trans sc) (hc o ho) hx
      have h2 : smaller c o = true := (smaller_iff (L.strs sc) (L.strs (hc o ho))).mpr ⟨by have := so.length_le; have := del_len hk1; omega, fun x hm => (del_sub c k).subset (hx x hm)⟩
      rw [h2] at h1; cases h1
/-! the order of hearings -/
theorem tk_key (h : List D) : ∃ t, tk (keyD h) = .inl 1 :: .inl (h.length : Int) :: .inl 1 :: (W.keyToksAll (pys h) ++ t) := by
  refine ⟨W.keyToksAll [], ?_⟩
  unfold keyD tk
  simp [py_tup, W.keyToks, pys_cons, pys_nil, W.keyToksAll]
theorem key_inj {a b : List D} (ha : Strs a) (hb : Strs b) (e : tk (keyD a) = tk (keyD b)) : a = b := by
  obtain ⟨t, ea⟩ := tk_key a
  obtain ⟨u, eb⟩ := tk_key b
  rw [ea, eb] at e
  injection e with _ e
  injection e with _ e
  injection e with _ e
  exact toks_strs a b ha hb t u e
theorem key_len {a b : List D} (h : leD (keyD a) (keyD b) = true) : a.length ≤ b.length := by
  rw [leD_tk] at h
  obtain ⟨t, ea⟩ := tk_key a
  obtain ⟨u, eb⟩ := tk_key b
  rw [ea, eb] at h
  refine Classical.byContradiction fun n => ?_
  have lt : PyProof.Rows.lexLt PyProof.Rows.itemOrd (.inl 1 :: .inl (b.length : Int) :: .inl 1 :: (W.keyToksAll (pys b) ++ u)) (.inl 1 :: .inl (a.length : Int) :: .inl 1 :: (W.keyToksAll (pys a) ++ t)) = true := by
    rw [PyProof.Rows.lex_self]
    rw [PyProof.Rows.lex_diff (by intro z; injection z with z; omega)]
    show decide ((b.length : Int) < a.length) = true
    exact decide_eq_true (by omega)
  rw [lt] at h
  cases h
theorem pw_mem {row h : List D} : h ∈ pw row ↔ h.Sublist row := by
  refine ⟨pw_sub, ?_⟩
  refine snoc_ind (P := fun row => ∀ h : List D, h.Sublist row → h ∈ pw row) (fun h s => by cases s; exact List.mem_singleton.mpr rfl) (fun r a ih h s => ?_) row h
  rw [pw_snoc]
  obtain ⟨h1, h2, rfl, s1, s2⟩ := List.sublist_append_iff.mp s
  cases s2 with
  | cons _ s2 => cases s2; rw [List.append_nil]; exact List.mem_append_left _ (ih _ s1)
  | cons_cons _ s2 => cases s2; exact List.mem_append_right _ (List.mem_map.mpr ⟨h1, ih _ s1, rfl⟩)
theorem pw_nodup {row : List D} (nd : row.Nodup) : (pw row).Nodup := by
  refine snoc_ind (P := fun row => row.Nodup → (pw row).Nodup) (fun _ => by unfold pw; simp) (fun r a ih nd => ?_) row nd
  rw [pw_snoc]
  have nd' := nd
  rw [List.nodup_append] at nd
  refine List.nodup_append.mpr ⟨ih nd.1, ?_, fun x hx y hy e => ?_⟩
  · have := ih nd.1
    rw [List.nodup_iff_pairwise_ne] at this ⊢
    rw [List.pairwise_map]
    exact this.imp fun {x y} ne e => ne (List.append_cancel_right e)
  · obtain ⟨z, hz, rfl⟩ := List.mem_map.mp hy
    have := (pw_sub hx).subset (a := a) (by rw [e]; simp)
    exact nd.2.2 a this a (by simp) rfl
theorem listed_all {row : List D} (nd : row.Nodup) (st : Strs row) : Listed row (hsort (pw row)) where
  nd := nd
  st := st
  mem := fun h => by rw [hsort_mem]; exact pw_mem
  once := (List.mergeSort_perm (pw row) _).nodup_iff.mpr (pw_nodup nd)
  ord := by
    have : (hsort (pw row)).Pairwise fun a b => leD (keyD a) (keyD b) = true := List.pairwise_mergeSort (fun a b c => leD_trans (keyD a) (keyD b) (keyD c)) (fun a b => leD_total (keyD a) (keyD b)) (pw row)
    exact this.imp key_len
/-- rows in their order, told by what is in them -/
theorem hsort_one {row : List D} (nd : row.Nodup) (st : Strs row) {X : List (List D)} {p : List D → Bool} (hx : X.Nodup) (hm : ∀ c, c ∈ X ↔ c.Sublist row ∧ p c = true) : hsort X = (hsort (pw row)).filter p := by
  have L := listed_all nd st
  have srt1 : ∀ F : List (List D), (hsort F).Pairwise fun a b => leD (keyD a) (keyD b) = true := fun F => List.pairwise_mergeSort (fun a b c => leD_trans (keyD a) (keyD b) (keyD c)) (fun a b => leD_total (keyD a) (keyD b)) F
  have perm : (hsort X).Perm ((hsort (pw row)).filter p) := by
    refine (List.perm_ext_iff_of_nodup ((List.mergeSort_perm X _).nodup_iff.mpr hx) (L.once.filter _)).mpr fun c => ?_
    show c ∈ hsort X ↔ _
    rw [List.mem_filter, L.mem, hsort_mem]
    exact hm c
  have e := sorted_one ((hsort X).map keyD) (((hsort (pw row)).filter p).map keyD) (List.pairwise_map.mpr (srt1 X)) (List.pairwise_map.mpr ((srt1 _).filter _)) (perm.map _) fun a ha b hb e => by
    obtain ⟨x, hx1, rfl⟩ := List.mem_map.mp ha
    obtain ⟨y, hy1, rfl⟩ := List.mem_map.mp hb
    rw [hsort_mem, hm] at hx1 hy1
    rw [key_inj (L.strs hx1.1) (L.strs hy1.1) e]
  have inj : ∀ (l m : List (List D)), l.map keyD = m.map keyD → l = m := fun l => by
    induction l with
    | nil => intro m h; cases m <;> first | rfl | cases h
    | cons a l ih =>
      intro m h
      cases m with
      | nil => cases h
      | cons b m =>
        rw [List.map_cons, List.map_cons] at h
        injection h with h1 h2
        have : a = b := by unfold keyD at h1; injection h1 with h1; injection h1 with _ h1; injection h1 with h1; injection h1
        rw [this, ih m h2]
  exact inj _ _ e
end Lw

set_option maxHeartbeats 4000000
namespace Lw
open PySem S2
/-! the law's rows -/
theorem law_hearings_ok (n : Nat) (row : List D) (hs : Strs row) (hl : row.length ≤ 8) : callD tab.g (n + 2) N__law_hearings [.lst row] = .ok (.o1, .lst ((hsort (pw row)).map D.tup)) := by
  rw [c__law_hearings, b__law_hearings]
  have z2 := szL_of (show 2 ≤ 1000000 by decide)
  have nl := noL_strs hs
  obtain ⟨s', hs', e⟩ := forL_fold (mk := fun s (k : Int) => [some (.sh, .lst row), some (.o1, .lst []), some (.sh, .int k), s, none, none, none]) (step := fun k _ => k * 2) (f := fun x env' => exs tab.g (cal tab.g (n + 1)) L__law_hearings_0 (List.set env' 3 (some (.sh, x)))) row none 1 (fun p x r ep s => by
    have m : mulOk (p.foldl (fun k _ => k * 2) (1 : Int)) 2 = true := mulOk_r (by decide) (by decide)
    simp [L__law_hearings_0, mul_ii _ _ m])
  have fz : frzS [(1, false)] 3 s' = s' := by rcases hs' with rfl | ⟨_, rfl⟩ <;> rfl
  have ek : ∀ (l : List D) (k : Int), l.foldl (fun k _ => k * 2) k = k * ((2 ^ l.length : Nat) : Int) := fun l => by
    induction l with
    | nil => intro k; simp
    | cons a l ih => intro k; rw [List.foldl_cons, ih, List.length_cons, Nat.pow_succ, Nat.mul_comm _ 2, Int.mul_assoc]; simp
  rw [ek, Int.one_mul] at e
  have pb : 2 ^ row.length ≤ 256 := by
    calc 2 ^ row.length ≤ 2 ^ 8 := Nat.pow_le_pow_right (by decide) hl
      _ ≤ 256 := by decide
  have r0 := rng_nat (show 2 ^ row.length ≤ 1000000 by omega)
  obtain ⟨r1, r2⟩ := pw_rows hs hl
  have hit : ∀ c, itD (.lst c) = some c := fun _ => rfl
  refine st (env' := [some (.sh, .lst row), some (.o1, .lst []), none, none, none, none, none]) (by simp) ?_
  refine st (env' := [some (.sh, .lst row), some (.o1, .lst []), some (.sh, .int 1), none, none, none, none]) (by simp) ?_
  refine st (env' := [some (.sh, .lst row), some (.o1, .lst []), some (.sh, .int ((2 ^ row.length : Nat) : Int)), s', none, none, none]) (by
    rw [for_nm (o := (.sh, .lst row)) (l := row) (by simp [hit])]
    simp [nl]
    simpa using e) ?_
  generalize hN : 2 ^ row.length = N at *
  have lp : ∃ s4 s5, forL (fun x env' => exs tab.g (cal tab.g (n + 1)) L__law_hearings_1 (List.set env' 4 (some (.sh, x)))) (upto 0 N) [some (.sh, .lst row), some (.o1, .lst []), some (.sh, .int (N : Int)), s', none, none, none] =
      .nx [some (.sh, .lst row), some (.o1, .lst (((List.range N).map (chosenL row)).map keyD)), some (.sh, .int (N : Int)), s', s4, s5, none] := by
    refine forL_up (Post := fun out => ∃ s4 s5, out = .nx [some (.sh, .lst row), some (.o1, .lst (((List.range N).map (chosenL row)).map keyD)), some (.sh, .int (N : Int)), s', s4, s5, none])
      (fun k env => ∃ s4 s5, env = [some (.sh, .lst row), some (.o1, .lst (((List.range k).map (chosenL row)).map keyD)), some (.sh, .int (N : Int)), s', s4, s5, none])
      ⟨none, none, rfl⟩ (fun k env hk ⟨s4, s5, e⟩ => ?_) (fun env ⟨s4, s5, e⟩ => ⟨s4, s5, by rw [e]⟩)
    subst e
    have ch := chosen_ok n row hs (by omega) (.lst row) (.inr rfl) k
    have cs : Strs (chosenL row k) := hs.sub fun y hy => (chosenL_sub row k).subset hy
    have nc := noL_strs cs
    have sz := szL_lt (show k ≤ 1000000 by omega)
    have hasr : hasLs (((List.range k).map (chosenL row)).map keyD) = false := noLs fun d hd => by
      obtain ⟨y, hy, rfl⟩ := List.mem_map.mp hd
      obtain ⟨c, _, rfl⟩ := List.mem_map.mp hy
      have : Strs (chosenL row c) := hs.sub fun y hy => (chosenL_sub row c).subset hy
      simp [keyD, noL_strs this]
    refine .inl ⟨[some (.sh, .lst row), some (.o1, .lst (((List.range (k + 1)).map (chosenL row)).map keyD)), some (.sh, .int (N : Int)), s', some (.sh, .int k), some (.sh, .tup (chosenL row k)), none], .inl ?_, _, _, rfl⟩
    rw [List.range_succ, List.map_append, List.map_append]
    generalize hM : ((List.range k).map (chosenL row)).map keyD = M at hasr
    have lM : M.length = k := by rw [← hM]; simp
    have sz2 : M.length < szL := by rw [lM]; exact sz
    simp [L__law_hearings_1, ch, nc, z2, sz2, keyD, fz]
  obtain ⟨s4, s5, lp⟩ := lp
  have pc : (List.range N).map (chosenL row) = pw row := by rw [pw_chosen, hN]
  rw [pc] at lp
  refine st (env' := [some (.sh, .lst row), some (.o1, .lst ((pw row).map keyD)), some (.sh, .int (N : Int)), s', s4, s5, none]) ?_ ?_
  · rw [for_nm (o := (.sh, .non)) (l := upto 0 N) (by simp [r0])]
    simpa using lp
  have so : biD .sorted [.lst ((pw row).map keyD)] = .ok (.lst ((hsort (pw row)).map keyD)) := by
    rw [← srt_keys]; exact sorted_ok (keys_row ⟨r1, r2⟩)
  have hl2 : (hsort (pw row)).length ≤ 1000 := by
    have : (hsort (pw row)).length = (pw row).length := List.length_mergeSort _
    omega
  have lc : ev tab.g (cal tab.g (n + 1)) (.lc (.ix (.var 6) (.int 1)) (.nm 6) (.it (.bi .sorted (.cons (.var 1) .nil))) .none) [some (.sh, .lst row), some (.o1, .lst ((pw row).map keyD)), some (.sh, .int (N : Int)), s', s4, s5, none] = .ok (.o1, .lst ((hsort (pw row)).map D.tup)) := by
    refine lc_all (hsort (pw row)) keyD D.tup (o := (.o1, .lst ((hsort (pw row)).map keyD))) (by simp [so, hit]) (by omega) fun y hy => ⟨_, rfl, ?_⟩
    have a1 : L2.atI [D.int y.length, D.tup y] 1 = some (.tup y) := rfl
    simp [keyD, a1]
  simp [-ev_lc, lc]
theorem cut_del (h : List D) (k : Nat) : cut h none (some (k : Int)) = h.take k ∧ cut h (some ((k : Int) + 1)) none = h.drop (k + 1) := ⟨cut_to h k, cut_from h (k + 1)⟩
theorem strs_del {h : List D} (hh : Strs h) (k : Nat) : Strs (del h k) := hh.sub fun x hx => (del_sub h k).subset hx
theorem law_minimal_ok (n : Nat) (h : List D) (cs : List (List D)) (hh : Strs h) (lh : h.length ≤ 1000) (hc : Rws cs) : callD tab.g (n + 2) N__law_minimal [.tup h, .tup (cs.map D.tup)] = .ok (.sh, .bl (minB cs h)) := by
  rw [c__law_minimal, b__law_minimal]
  have h0 := law_meets_ok n h cs (.tup (cs.map D.tup)) rfl hh lh hc
  obtain ⟨s', _, e⟩ := forL_find (mk := fun s => [some (.sh, .tup h), some (.sh, .tup (cs.map D.tup)), s]) (p := fun x => match x with | .int k => hitsB (del h k.toNat) cs | _ => false) (out := fun _ _ => .ret .sh (.bl false)) (f := fun x env' => exs tab.g (cal tab.g (n + 1)) L__law_minimal_0 (List.set env' 2 (some (.sh, x)))) (upto 0 h.length) none (fun x hx s => by
    obtain ⟨k, rfl, hk⟩ := upto_mem hx
    obtain ⟨c1, c2⟩ := cut_del h k
    have ad := add_tup (a := h.take k) (b := h.drop (k + 1)) (by simp; omega)
    have m := law_meets_ok n (del h k) cs (.tup (cs.map D.tup)) rfl (strs_del hh k) (by have := (del_sub h k).length_le; omega) hc
    show _ = if hitsB (del h (k : Int).toNat) cs = true then _ else _
    rw [Int.toNat_natCast]
    unfold del at m ⊢
    cases q : hitsB (h.take k ++ h.drop (k + 1)) cs <;> rw [q] at m <;> simp [L__law_minimal_0, slD_tup, c1, c2, ad, m]) (fun _ _ => rfl)
  have hr := rng_nat (show h.length ≤ 1000000 by omega)
  cases q : hitsB h cs with
  | false => rw [q] at h0; simp [h0, minB, q]
  | true =>
    rw [q] at h0
    rcases e with ⟨x, e1, e2⟩ | ⟨e1, e2⟩
    · have a : minB cs h = false := by
        cases z : minB cs h with
        | false => rfl
        | true =>
          have hx := List.mem_of_find?_eq_some e1
          obtain ⟨k, rfl, hk⟩ := upto_mem hx
          have h1 := List.find?_some e1
          have h1 : hitsB (del h (k : Int).toNat) cs = true := h1
          rw [Int.toNat_natCast, (minB_iff.mp z).2 k hk] at h1
          cases h1
      simp [h0, hr, e2, a]
    · have a : minB cs h = true := minB_iff.mpr ⟨q, fun k hk => by
        rw [List.find?_eq_none] at e1
        have := e1 (.int k) (by unfold upto; exact List.mem_map.mpr ⟨k, List.mem_range.mpr hk, by simp⟩)
        have h1 : ¬ hitsB (del h (k : Int).toNat) cs = true := this
        rw [Int.toNat_natCast] at h1
        simpa using h1⟩
      simp [h0, hr, e2, a]
/-! costs -/
def costI (nm : List D) (ws : List Int) (h : List D) (n : Nat) : Int := (((List.range n).filter fun k => memB h (nm[k]?.getD .non)).map fun k => ws[k]?.getD 0).sum
theorem costI_succ (nm : List D) (ws : List Int) (h : List D) (n : Nat) : costI nm ws h (n + 1) = costI nm ws h n + if memB h (nm[n]?.getD .non) = true then ws[n]?.getD 0 else 0 := by
  unfold costI
  rw [List.range_succ, List.filter_append, List.map_append, List.sum_append]
  congr 1
  by_cases e : memB h (nm[n]?.getD .non) = true
  · rw [if_pos e]; simp [List.filter_cons, e]
  · rw [if_neg e]; simp [List.filter_cons, e]
theorem cost_of_ok (n : Nat) (nm : List D) (ws : List Int) (h : List D) (hn : Strs nm) (ln : nm.length ≤ 1000) (lw : ws.length = nm.length) (hh : Strs h) (lh : h.length ≤ 1000) : callD tab.g (n + 1) N_cost_of [.tup nm, .tup (ws.map .int), .tup h] = .ok (.sh, .int (costI nm ws h nm.length)) := by
  rw [c_cost_of, b_cost_of]
  have hr := rng_nat (show nm.length ≤ 1000000 by omega)
  have lp : ∃ s4, forL (fun x env' => exs tab.g (cal tab.g n) L_cost_of_0 (List.set env' 4 (some (.sh, x)))) (upto 0 nm.length) [some (.sh, .tup nm), some (.sh, .tup (ws.map .int)), some (.sh, .tup h), some (.sh, .int 0), none] = .nx [some (.sh, .tup nm), some (.sh, .tup (ws.map .int)), some (.sh, .tup h), some (.sh, .int (costI nm ws h nm.length)), s4] := by
    refine forL_up (Post := fun out => ∃ s4, out = .nx [some (.sh, .tup nm), some (.sh, .tup (ws.map .int)), some (.sh, .tup h), some (.sh, .int (costI nm ws h nm.length)), s4])
      (fun k env => ∃ s4, env = [some (.sh, .tup nm), some (.sh, .tup (ws.map .int)), some (.sh, .tup h), some (.sh, .int (costI nm ws h k)), s4]) ⟨none, rfl⟩ (fun k env hk ⟨s4, e⟩ => ?_) (fun env ⟨s4, e⟩ => ⟨s4, by rw [e]⟩)
    subst e
    have a1 : L2.atI nm (k : Int) = some nm[k] := atI_nat hk
    have hk2 : k < ws.length := by omega
    have a2 : L2.atI (ws.map D.int) (k : Int) = some (.int ws[k]) := by rw [atI_nat (by simpa using hk2)]; simp
    have m := (mem_in (hn nm[k] (List.getElem_mem hk)) hh lh).1
    have cs := costI_succ nm ws h k
    rw [List.getElem?_eq_getElem hk, List.getElem?_eq_getElem hk2, Option.getD_some, Option.getD_some] at cs
    refine .inl ⟨[some (.sh, .tup nm), some (.sh, .tup (ws.map .int)), some (.sh, .tup h), some (.sh, .int (costI nm ws h (k + 1))), some (.sh, .int k)], .inl ?_, _, rfl⟩
    rw [cs]
    cases e : memB h nm[k] <;> rw [e] at m <;> simp [L_cost_of_0, a1, a2, m]
  obtain ⟨s4, lp⟩ := lp
  simp [hr, lp]
/-- the cheapest so far -/
def bestD : Option (Int × List D) → D
  | none => .non
  | some b => .tup [.int b.1, .tup b.2]
def stepC (nm : List D) (ws : List Int) (cs : List (List D)) (b : Option (Int × List D)) (h : List D) : Option (Int × List D) :=
  if hitsB h cs = true then (match b with
    | none => some (costI nm ws h nm.length, h)
    | some q => if costI nm ws h nm.length < q.1 then some (costI nm ws h nm.length, h) else b) else b
def slotC (nm : List D) (ws : List Int) (cs : List (List D)) (s : S2.Slot) (h : List D) : S2.Slot := if hitsB h cs = true then some (.sh, .int (costI nm ws h nm.length)) else s
theorem foldl_map {α β γ : Type} (f : γ → β → γ) (g : α → β) : ∀ (l : List α) (a : γ), (l.map g).foldl f a = l.foldl (fun a x => f a (g x)) a
  | [], _ => rfl
  | x :: l, a => by rw [List.map_cons, List.foldl_cons, List.foldl_cons, foldl_map f g l]
theorem cheap_loop (n : Nat) (nm : List D) (ws : List Int) (cs Ls : List (List D)) (hn : Strs nm) (ln : nm.length ≤ 1000) (lw : ws.length = nm.length) (hc : Rws cs) (hL : Rws Ls) : ∃ s4 s5, forL (fun x env' => exs tab.g (cal tab.g (n + 2)) L_cheapest_hitting_0 (List.set env' 4 (some (.sh, x)))) (Ls.map D.tup) [some (.sh, .tup nm), some (.sh, .tup (ws.map .int)), some (.sh, .tup (cs.map D.tup)), some (.sh, .non), none, none] =
    .nx [some (.sh, .tup nm), some (.sh, .tup (ws.map .int)), some (.sh, .tup (cs.map D.tup)), some (.sh, bestD (Ls.foldl (stepC nm ws cs) none)), s4, s5] := by
  obtain ⟨s', _, e⟩ := forL_fold (mk := fun s (b : Option (Int × List D) × S2.Slot) => [some (.sh, .tup nm), some (.sh, .tup (ws.map .int)), some (.sh, .tup (cs.map D.tup)), some (.sh, bestD b.1), s, b.2]) (step := fun b x => (stepC nm ws cs b.1 (tupL x), slotC nm ws cs b.2 (tupL x))) (f := fun x env' => exs tab.g (cal tab.g (n + 2)) L_cheapest_hitting_0 (List.set env' 4 (some (.sh, x)))) (Ls.map D.tup) none (none, none) (fun p x r ep s => by
    obtain ⟨h, hm, rfl⟩ := List.mem_map.mp (show x ∈ Ls.map D.tup by rw [ep]; simp)
    obtain ⟨h1, h2⟩ := hL h hm
    generalize p.foldl _ _ = b
    obtain ⟨b, sc⟩ := b
    show _ = Out.nx [some (.sh, .tup nm), some (.sh, .tup (ws.map .int)), some (.sh, .tup (cs.map D.tup)), some (.sh, bestD (stepC nm ws cs b h)), some (.sh, .tup h), slotC nm ws cs sc h]
    have ht := hits_ok n h cs h1 h2 hc
    have co := cost_of_ok (n + 1) nm ws h hn ln lw h1 h2
    have nh := noL_strs h1
    have z2 := szL_of (show 2 ≤ 1000000 by decide)
    unfold stepC slotC
    cases e : hitsB h cs with
    | false => rw [e] at ht; simp [L_cheapest_hitting_0, ht]
    | true =>
      rw [e] at ht
      generalize costI nm ws h nm.length = c at co
      cases b with
      | none => simp [L_cheapest_hitting_0, ht, co, bestD, z2, nh, isNonD]
      | some q =>
        have i0 : L2.atI [D.int q.1, D.tup q.2] 0 = some (.int q.1) := rfl
        by_cases lt : c < q.1 <;> simp [L_cheapest_hitting_0, ht, co, bestD, z2, nh, isNonD, i0, lt])
  have ef : ∀ (l : List (List D)) (b : Option (Int × List D)) (sc : S2.Slot), ((l.map D.tup).foldl (fun (b : Option (Int × List D) × S2.Slot) x => (stepC nm ws cs b.1 (tupL x), slotC nm ws cs b.2 (tupL x))) (b, sc)).1 = l.foldl (stepC nm ws cs) b := fun l => by
    induction l with
    | nil => intro b sc; rfl
    | cons a l ih => intro b sc; rw [List.map_cons, List.foldl_cons, List.foldl_cons]; exact ih _ _
  exact ⟨_, _, by rw [← ef Ls none none]; exact e⟩
theorem law_cheap_loop (n : Nat) (nm : List D) (ws : List Int) (cs Ls : List (List D)) (hn : Strs nm) (ln : nm.length ≤ 1000) (lw : ws.length = nm.length) (hc : Rws cs) (hL : Rws Ls) : callD tab.g (n + 2) N__law_cheapest [.lst (Ls.map D.tup), .tup nm, .tup (ws.map .int), .tup (cs.map D.tup)] = .ok (.sh, bestD (Ls.foldl (stepC nm ws cs) none)) := by
  rw [c__law_cheapest, b__law_cheapest]
  have hr := rng_nat (show nm.length ≤ 1000000 by omega)
  obtain ⟨s', _, e⟩ := forL_fold (mk := fun s (b : Option (Int × List D) × S2.Slot) => [some (.sh, .lst (Ls.map D.tup)), some (.sh, .tup nm), some (.sh, .tup (ws.map .int)), some (.sh, .tup (cs.map D.tup)), some (.sh, bestD b.1), s, b.2, none]) (step := fun b x => (stepC nm ws cs b.1 (tupL x), slotC nm ws cs b.2 (tupL x))) (f := fun x env' => exs tab.g (cal tab.g (n + 1)) L__law_cheapest_0 (List.set env' 5 (some (.sh, x)))) (Ls.map D.tup) none (none, none) (fun p x r ep s => by
    obtain ⟨h, hm, rfl⟩ := List.mem_map.mp (show x ∈ Ls.map D.tup by rw [ep]; simp)
    obtain ⟨h1, h2⟩ := hL h hm
    generalize p.foldl _ _ = b
    obtain ⟨b, sc⟩ := b
    show _ = Out.nx [some (.sh, .lst (Ls.map D.tup)), some (.sh, .tup nm), some (.sh, .tup (ws.map .int)), some (.sh, .tup (cs.map D.tup)), some (.sh, bestD (stepC nm ws cs b h)), some (.sh, .tup h), slotC nm ws cs sc h, none]
    have ht := law_meets_ok n h cs (.tup (cs.map D.tup)) rfl h1 h2 hc
    have nh := noL_strs h1
    have z2 := szL_of (show 2 ≤ 1000000 by decide)
    have lc : ev tab.g (cal tab.g (n + 1)) (.lc (.ix (.var 2) (.var 7)) (.nm 7) (.rng1 (.bi .len (.cons (.var 1) .nil))) (.some (.cmp .in_ (.ix (.var 1) (.var 7)) (.var 5)))) [some (.sh, .lst (Ls.map D.tup)), some (.sh, .tup nm), some (.sh, .tup (ws.map .int)), some (.sh, .tup (cs.map D.tup)), some (.sh, bestD b), some (.sh, .tup h), sc, none] = .ok (.o1, .lst ((((List.range nm.length).filter fun k => memB h (nm[k]?.getD .non)).map fun k => ws[k]?.getD 0).map .int)) := by
      rw [List.map_map]
      refine lc_filter (α := Nat) (List.range nm.length) (fun k : Nat => .int k) (fun k => .int (ws[k]?.getD 0)) (fun k => memB h (nm[k]?.getD .non)) (o := (.sh, .non)) (by
        simp [hr]
        unfold upto
        exact List.map_congr_left fun a _ => by simp) (by rw [List.length_range]; omega) fun k hk => ⟨_, rfl, ?_, fun _ => ?_⟩
      · rw [List.mem_range] at hk
        have a1 : L2.atI nm (k : Int) = some nm[k] := atI_nat hk
        have m := (mem_in (hn nm[k] (List.getElem_mem hk)) h1 h2).1
        rw [List.getElem?_eq_getElem hk, Option.getD_some]
        simp [a1, m]
      · rw [List.mem_range] at hk
        have hk2 : k < ws.length := by omega
        have a2 : L2.atI (ws.map D.int) (k : Int) = some (.int ws[k]) := by rw [atI_nat (by simpa using hk2)]; simp
        rw [List.getElem?_eq_getElem hk2, Option.getD_some]
        simp [a2]
    have sm : ∀ l : List Int, biD .sum [.lst (l.map .int)] = .ok (.int l.sum) := fun l => by
      have : ∀ l : List Int, intsOf (l.map .int) = some l := fun l => by
        induction l with
        | nil => rfl
        | cons a l ih => rw [List.map_cons, intsOf, ih]; rfl
      show (match intsOf (l.map .int) with | some is => R.ok (D.int is.sum) | none => .no) = _
      rw [this]
    have co := sm (((List.range nm.length).filter fun k => memB h (nm[k]?.getD .non)).map fun k => ws[k]?.getD 0)
    have ec : (((List.range nm.length).filter fun k => memB h (nm[k]?.getD .non)).map fun k => ws[k]?.getD 0).sum = costI nm ws h nm.length := rfl
    rw [ec] at co
    generalize ((((List.range nm.length).filter fun k => memB h (nm[k]?.getD .non)).map fun k => ws[k]?.getD 0).map D.int) = CL at lc co
    unfold stepC slotC
    cases e : hitsB h cs with
    | false => rw [e] at ht; simp [L__law_cheapest_0, ht]
    | true =>
      rw [e] at ht
      generalize costI nm ws h nm.length = c at co
      cases b with
      | none =>
        have lc : ev tab.g (cal tab.g (n + 1)) (.lc (.ix (.var 2) (.var 7)) (.nm 7) (.rng1 (.bi .len (.cons (.var 1) .nil))) (.some (.cmp .in_ (.ix (.var 1) (.var 7)) (.var 5)))) [some (.sh, .lst (Ls.map D.tup)), some (.sh, .tup nm), some (.sh, .tup (ws.map .int)), some (.sh, .tup (cs.map D.tup)), some (.sh, .non), some (.sh, .tup h), sc, none] = .ok (.o1, .lst CL) := lc
        simp [-ev_lc, L__law_cheapest_0, ht, lc, co, bestD, z2, nh, isNonD]
      | some q =>
        have i0 : L2.atI [D.int q.1, D.tup q.2] 0 = some (.int q.1) := rfl
        have lc : ev tab.g (cal tab.g (n + 1)) (.lc (.ix (.var 2) (.var 7)) (.nm 7) (.rng1 (.bi .len (.cons (.var 1) .nil))) (.some (.cmp .in_ (.ix (.var 1) (.var 7)) (.var 5)))) [some (.sh, .lst (Ls.map D.tup)), some (.sh, .tup nm), some (.sh, .tup (ws.map .int)), some (.sh, .tup (cs.map D.tup)), some (.sh, .tup [.int q.1, .tup q.2]), some (.sh, .tup h), sc, none] = .ok (.o1, .lst CL) := lc
        by_cases lt : c < q.1 <;> simp [-ev_lc, L__law_cheapest_0, ht, lc, co, bestD, z2, nh, isNonD, i0, lt])
  have ef : ∀ (l : List (List D)) (b : Option (Int × List D)) (sc : S2.Slot), ((l.map D.tup).foldl (fun (b : Option (Int × List D) × S2.Slot) x => (stepC nm ws cs b.1 (tupL x), slotC nm ws cs b.2 (tupL x))) (b, sc)).1 = l.foldl (stepC nm ws cs) b := fun l => by
    induction l with
    | nil => intro b sc; rfl
    | cons a l ih => intro b sc; rw [List.map_cons, List.foldl_cons, List.foldl_cons]; exact ih _ _
  have nL := noL_rows fun x hx => (hL x hx).1
  have e : forL (fun x env' => exs tab.g (cal tab.g (n + 1)) L__law_cheapest_0 (List.set env' 5 (some (.sh, x)))) (Ls.map D.tup) [some (.sh, .lst (Ls.map D.tup)), some (.sh, .tup nm), some (.sh, .tup (ws.map .int)), some (.sh, .tup (cs.map D.tup)), some (.sh, .non), none, none, none] = _ := e
  rw [← ef Ls none none]
  have it1 : itD (.lst (Ls.map D.tup)) = some (Ls.map D.tup) := rfl
  generalize (Ls.map D.tup).foldl _ (none, none) = R at e
  simp [it1, nL, e]
end Lw

set_option maxHeartbeats 4000000
namespace Lw
open PySem S2
theorem eqv_rows : ∀ {a b : List D}, Strs a → Strs b → (PyData.eqvAll (pys a) (pys b) = true ↔ a = b)
  | [], [], _, _ => by rw [pys_nil, PyData.eqvAll]; simp
  | [], y :: b, _, _ => by rw [pys_nil, pys_cons, PyData.eqvAll]; simp
  | x :: a, [], _, _ => by rw [pys_nil, pys_cons, PyData.eqvAll]; simp
  | x :: a, y :: b, ha, hb => by
    obtain ⟨s, rfl⟩ := ha x List.mem_cons_self
    obtain ⟨t, rfl⟩ := hb y List.mem_cons_self
    have ih := eqv_rows (a := a) (b := b) (fun d hd => ha d (List.mem_cons_of_mem _ hd)) fun d hd => hb d (List.mem_cons_of_mem _ hd)
    rw [pys_cons, pys_cons, PyData.eqvAll, Bool.and_eq_true, ih]
    constructor
    · rintro ⟨h1, h2⟩
      rw [eqv_str h1, h2]
    · intro h
      injection h with h1 h2
      injection h1 with h1
      subst h1 h2
      exact ⟨by rw [py_str]; simp [PyData.eqv], rfl⟩
def memT (F : List (List D)) (c : List D) : Bool := (F.map D.tup).any fun z => PyData.eqv (py z) (py (.tup c))
theorem memT_iff {F : List (List D)} {c : List D} (hF : Rws F) (hc : Strs c) : memT F c = true ↔ c ∈ F := by
  unfold memT
  rw [List.any_eq_true]
  constructor
  · rintro ⟨z, hz, e⟩
    obtain ⟨y, hy, rfl⟩ := List.mem_map.mp hz
    rw [py_tup, py_tup, PyData.eqv, eqv_rows (hF y hy).1 hc] at e
    rw [← e]; exact hy
  · intro h
    refine ⟨_, List.mem_map.mpr ⟨c, h, rfl⟩, ?_⟩
    rw [py_tup, PyData.eqv, eqv_rows hc hc]
theorem pl_rows {F : List (List D)} (hF : Rws F) (hl : F.length ≤ 1000) : pl 2 (.lst (F.map D.tup)) = true := pl_lst (by simp; omega) fun d hd => by
  obtain ⟨y, hy, rfl⟩ := List.mem_map.mp hd
  exact pl_strs (by have := (hF y hy).2; omega) (hF y hy).1
theorem notin_rows {F : List (List D)} {c : List D} (hF : Rws F) (hl : F.length ≤ 1000) (hc : Strs c) (lc : c.length ≤ 1000) : cmpD .notin (.tup c) (.lst (F.map D.tup)) = .ok (!memT F c) := by
  have e : cmpD .in_ (.tup c) (.lst (F.map D.tup)) = .ok (memT F c) := in_lst (plainB_pl (pl_strs (by omega) hc)) (plainB_pl (pl_rows hF hl))
  show ((inD (.tup c) (.lst (F.map D.tup))).bind fun c => .ok (!c)) = _
  rw [show inD (.tup c) (.lst (F.map D.tup)) = .ok (memT F c) from e]
  rfl
def stepD (F : List (List D)) (c : List D) : List (List D) := if memT F c = true then F else F ++ [c]
theorem dd_ok : ∀ (p : List (List D)) (F : List (List D)), Rws p → Rws F → F.Nodup → Rws (p.foldl stepD F) ∧ (p.foldl stepD F).Nodup ∧ (p.foldl stepD F).length ≤ F.length + p.length ∧ ∀ c, c ∈ p.foldl stepD F ↔ c ∈ F ∨ c ∈ p
  | [], F, _, hF, nd => ⟨hF, nd, by simp, fun c => by simp⟩
  | x :: p, F, hp, hF, nd => by
    have hx := hp x List.mem_cons_self
    have hS : Rws (stepD F x) ∧ (stepD F x).Nodup ∧ (stepD F x).length ≤ F.length + 1 ∧ ∀ c, c ∈ stepD F x ↔ c ∈ F ∨ c = x := by
      unfold stepD
      split
      · rename_i e
        have := (memT_iff hF hx.1).mp e
        exact ⟨hF, nd, by omega, fun c => ⟨.inl, fun z => z.elim id fun z => by rw [z]; exact this⟩⟩
      · rename_i e
        have nm : x ∉ F := fun z => e ((memT_iff hF hx.1).mpr z)
        refine ⟨fun c hc => ?_, ?_, by simp, fun c => by simp⟩
        · rcases List.mem_append.mp hc with z | z
          · exact hF c z
          · rw [List.mem_singleton.mp z]; exact hx
        · rw [List.nodup_append]
          exact ⟨nd, by simp, fun a ha b hb e => by rw [List.mem_singleton.mp hb] at e; rw [e] at ha; exact nm ha⟩
    obtain ⟨h1, h2, h3, h4⟩ := hS
    obtain ⟨r1, r2, r3, r4⟩ := dd_ok p (stepD F x) (fun c hc => hp c (List.mem_cons_of_mem _ hc)) h1 h2
    rw [List.foldl_cons]
    refine ⟨r1, r2, by rw [List.length_cons]; omega, fun c => ?_⟩
    rw [r4, h4, List.mem_cons]
    constructor
    · rintro ((z | z) | z)
      · exact .inl z
      · exact .inr (.inl z)
      · exact .inr (.inr z)
    · rintro (z | z | z)
      · exact .inl (.inl z)
      · exact .inl (.inr z)
      · exact .inr z
theorem law_least_ok (n : Nat) (cs : List (List D)) (hc : Rws cs) (lc : cs.length ≤ 300) : callD tab.g (n + 1) N__law_least [.tup (cs.map D.tup)] = .ok (.sh, .tup ((hsort ((cs.foldl stepD []).filter (leastB (cs.foldl stepD [])))).map D.tup)) := by
  rw [c__law_least, b__law_least]
  have nc := cs_noL hc
  obtain ⟨s', _, e⟩ := forL_fold (mk := fun s (F : List (List D)) => [some (.sh, .tup (cs.map D.tup)), some (.o1, .lst (F.map D.tup)), s, none, none, none, none, none]) (step := fun F x => stepD F (tupL x)) (f := fun x env' => exs tab.g (cal tab.g n) L__law_least_0 (List.set env' 2 (some (.sh, x)))) (cs.map D.tup) none [] (fun p x r ep s => by
    obtain ⟨p', q', e1, rfl, e2⟩ := List.map_eq_append_iff.mp ep
    rw [foldl_map]
    have hp : Rws p' := fun c hm => hc c (by rw [e1]; exact List.mem_append_left _ hm)
    obtain ⟨r1, r2, r3, r4⟩ := dd_ok p' [] hp (fun c hm => by cases hm) (by simp)
    cases q' with
    | nil => cases e2
    | cons c q' =>
      rw [List.map_cons] at e2
      injection e2 with e2 _
      subst e2
      have hcm := hc c (by rw [e1]; simp)
      have lp : p'.length ≤ 300 := by rw [e1] at lc; simp at lc; omega
      show _ = Out.nx [some (.sh, .tup (cs.map D.tup)), some (.o1, .lst ((stepD (p'.foldl stepD []) c).map D.tup)), some (.sh, .tup c), none, none, none, none, none]
      have ef : p'.foldl (fun F x => stepD F (tupL (D.tup x))) [] = p'.foldl stepD [] := rfl
      rw [ef]
      generalize p'.foldl stepD [] = F at r1 r3
      simp at r3
      have ni := notin_rows r1 (by omega) hcm.1 hcm.2
      have sz := szL_lt (show F.length ≤ 1000000 by omega)
      have hL := noL_strs hcm.1
      unfold stepD
      cases q : memT F c <;> rw [q] at ni <;> simp [L__law_least_0, ni, hL, sz])
  rw [foldl_map] at e
  have ef : cs.foldl (fun F x => stepD F (tupL (D.tup x))) [] = cs.foldl stepD [] := rfl
  rw [ef] at e
  obtain ⟨r1, r2, r3, r4⟩ := dd_ok cs [] hc (fun c hm => by cases hm) (by simp)
  generalize cs.foldl stepD [] = O at *
  simp at r3
  refine st (env' := [some (.sh, .tup (cs.map D.tup)), some (.o1, .lst []), none, none, none, none, none, none]) (by simp) ?_
  refine st (env' := [some (.sh, .tup (cs.map D.tup)), some (.o1, .lst (O.map D.tup)), s', none, none, none, none, none]) (by
    rw [for_nm (o := (.sh, .tup (cs.map D.tup))) (l := cs.map D.tup) (by simp [itD])]
    simp [nc]
    simpa using e) ?_
  refine st (env' := [some (.sh, .tup (cs.map D.tup)), some (.o1, .lst (O.map D.tup)), s', some (.o1, .lst []), none, none, none, none]) (by simp) ?_
  have nO := noL_rows fun x hx => (r1 x hx).1
  have z2 := szL_of (show 2 ≤ 1000000 by decide)
  -- the least ones
  obtain ⟨s2, _, e2⟩ := forL_fold (mk := fun s (F : List (List D) × S2.Slot) => [some (.sh, .tup (cs.map D.tup)), some (.sh, .lst (O.map D.tup)), s, some (.o1, .lst (F.1.map keyD)), F.2, none, none, none]) (step := fun F x => (if leastB O (tupL x) = true then F.1 ++ [tupL x] else F.1, some (.o1, .lst ((O.filter (smaller (tupL x))).map D.tup)))) (f := fun x env' => exs tab.g (cal tab.g n) L__law_least_1 (List.set env' 2 (some (.sh, x)))) (O.map D.tup) s' ([], none) (fun p x r ep s => by
    obtain ⟨p', q', e1, rfl, e2⟩ := List.map_eq_append_iff.mp ep
    cases q' with
    | nil => cases e2
    | cons c q' =>
      rw [List.map_cons] at e2
      injection e2 with e2 _
      subst e2
      obtain ⟨c1, c2⟩ := r1 c (by rw [e1]; simp)
      have lp : p'.length ≤ 300 := by rw [e1] at r3; simp at r3; omega
      have ef : ∀ (l : List (List D)) (F : List (List D) × S2.Slot), ((l.map D.tup).foldl (fun (F : List (List D) × S2.Slot) x => (if leastB O (tupL x) = true then F.1 ++ [tupL x] else F.1, some (Own.o1, D.lst ((O.filter (smaller (tupL x))).map D.tup)))) F).1 = l.foldl (fun F x => if leastB O x = true then F ++ [x] else F) F.1 := fun l => by
        induction l with
        | nil => intro F; rfl
        | cons a l ih => intro F; rw [List.map_cons, List.foldl_cons, List.foldl_cons]; exact ih _
      have l1 := fold_len (leastB O) id p' []
      have ef1 := ef p' ([], none)
      generalize (p'.map D.tup).foldl _ _ = F at ef1
      obtain ⟨F, sl⟩ := F
      have ef1 : F = p'.foldl (fun F x => if leastB O x = true then F ++ [x] else F) [] := ef1
      have lF : F.length ≤ 300 := by rw [ef1]; have : (p'.foldl (fun F x => if leastB O x = true then F ++ [x] else F) []).length ≤ ([] : List (List D)).length + p'.length := l1; simp at this; omega
      have mF : ∀ y ∈ F, y ∈ p' := fun y hy => by
        rw [ef1] at hy
        have := fold_filter (leastB O) id p' []
        rw [show (p'.foldl (fun F x => if leastB O x = true then F ++ [x] else F) []) = _ from this] at hy
        simp at hy
        exact hy.1
      have nF : hasLs (F.map keyD) = false := noLs fun d hd => by
        obtain ⟨y, hy, rfl⟩ := List.mem_map.mp hd
        have := (r1 y (by rw [e1]; exact List.mem_append_left _ (mF y hy))).1
        simp [keyD, noL_strs this]
      show _ = Out.nx [some (.sh, .tup (cs.map D.tup)), some (.sh, .lst (O.map D.tup)), some (.sh, .tup c), some (.o1, .lst ((if leastB O c = true then F ++ [c] else F).map keyD)), some (.o1, .lst ((O.filter (smaller c)).map D.tup)), none, none, none]
      have lc1 : ev tab.g (cal tab.g n) (.lc (.var 5) (.nm 5) (.it (.var 1)) (.some (.and (.cmp .lt (.bi .len (.cons (.var 5) .nil)) (.bi .len (.cons (.var 2) .nil))) (.cmp .eq (.bi .len (.cons (.lc (.var 6) (.nm 6) (.it (.var 5)) (.some (.cmp .in_ (.var 6) (.var 2)))) .nil)) (.bi .len (.cons (.var 5) .nil)))))) [some (.sh, .tup (cs.map D.tup)), some (.sh, .lst (O.map D.tup)), some (.sh, .tup c), some (.o1, .lst (F.map keyD)), sl, none, none, none] = .ok (.o1, .lst ((O.filter (smaller c)).map D.tup)) := by
        refine lc_filter O D.tup D.tup (smaller c) (o := (.sh, .lst (O.map D.tup))) (by simp [itD]) (by omega) fun o ho => ⟨[some (.sh, .tup (cs.map D.tup)), some (.sh, .lst (O.map D.tup)), some (.sh, .tup c), some (.o1, .lst (F.map keyD)), sl, some (.sh, .tup o), none, none], rfl, ?_, fun _ => by simp⟩
        obtain ⟨o1, o2⟩ := r1 o ho
        have lc2 : ev tab.g (cal tab.g n) (.lc (.var 6) (.nm 6) (.it (.var 5)) (.some (.cmp .in_ (.var 6) (.var 2)))) [some (.sh, .tup (cs.map D.tup)), some (.sh, .lst (O.map D.tup)), some (.sh, .tup c), some (.o1, .lst (F.map keyD)), sl, some (.sh, .tup o), none, none] = .ok (.o1, .lst (o.filter (memB c))) := by
          have := lc_filter (g := tab.g) (C := cal tab.g n) (elt := .var 6) (c := .cmp .in_ (.var 6) (.var 2)) (tg := .nm 6) (it := .it (.var 5)) (env := [some (.sh, .tup (cs.map D.tup)), some (.sh, .lst (O.map D.tup)), some (.sh, .tup c), some (.o1, .lst (F.map keyD)), sl, some (.sh, .tup o), none, none]) o id id (memB c) (o := (.sh, .tup o)) (by simp [itD]) (by omega) fun x hx => ⟨_, rfl, by
            have := (mem_in (o1 x hx) c1 c2).1
            simp [this], fun _ => by simp⟩
          rw [List.map_id] at this
          exact this
        have eq : ((o.filter (memB c)).length = o.length) ↔ o.all (memB c) = true := by
          rw [List.all_eq_true]
          exact List.length_filter_eq_length_iff
        unfold smaller
        have nl : ∀ k : Nat, biD .len [.lst (List.replicate k D.non)] = .ok (.int k) := fun k => by simp
        generalize o.filter (memB c) = W at lc2 eq
        by_cases h1 : o.length < c.length
        · cases q : o.all (memB c) with
          | true =>
            have := eq.mpr q
            simp [-ev_lc, lc2, h1, this]
          | false =>
            have : ¬ W.length = o.length := fun z => by rw [eq.mp z] at q; cases q
            have this : ¬ (W.length : Int) = (o.length : Int) := by omega
            simp [-ev_lc, lc2, h1]
            omega
        · simp [-ev_lc, lc2, h1]
      have lz : (O.filter (smaller c)).length = 0 ↔ leastB O c = true := by
        rw [List.length_eq_zero_iff, List.filter_eq_nil_iff]
        unfold leastB
        rw [List.all_eq_true]
        exact ⟨fun h o ho => by have := h o ho; simpa using this, fun h o ho => by have := h o ho; simpa using this⟩
      have nf : hasLs ((O.filter (smaller c)).map D.tup) = false := noL_rows fun x hx => (r1 x (List.mem_filter.mp hx).1).1
      have sz := szL_lt (show F.length ≤ 1000000 by omega)
      have ncs := noL_strs c1
      have lm : ((O.filter (smaller c)).map D.tup).length = (O.filter (smaller c)).length := List.length_map ..
      generalize O.filter (smaller c) = Z at *
      cases q : leastB O c with
      | true =>
        have z0 : Z.length = 0 := lz.mpr q
        simp [-ev_lc, L__law_least_1, lc1, nf, z0, z2, sz, ncs, nF, keyD]
      | false =>
        have z0 : ¬ (Z.length : Int) = 0 := by
          have : ¬ Z.length = 0 := fun z => by rw [lz.mp z] at q; cases q
          omega
        simp [-ev_lc, L__law_least_1, lc1, nf, nF]
        intro zz
        exact absurd (by rw [zz]; rfl) z0)
  have ef : ∀ (l : List (List D)) (F : List (List D) × S2.Slot), ((l.map D.tup).foldl (fun (F : List (List D) × S2.Slot) x => (if leastB O (tupL x) = true then F.1 ++ [tupL x] else F.1, some (Own.o1, D.lst ((O.filter (smaller (tupL x))).map D.tup)))) F).1 = l.foldl (fun F x => if leastB O x = true then F ++ [x] else F) F.1 := fun l => by
    induction l with
    | nil => intro F; rfl
    | cons a l ih => intro F; rw [List.map_cons, List.foldl_cons, List.foldl_cons]; exact ih _
  have ef1 := ef O ([], none)
  have ff := fold_filter (leastB O) id O []
  simp only [id, List.map_id', List.nil_append, List.map_id] at ff
  generalize (O.map D.tup).foldl _ _ = FF at e2 ef1
  obtain ⟨F, s4⟩ := FF
  have ef1 : F = O.foldl (fun F x => if leastB O x = true then F ++ [x] else F) [] := ef1
  have eF : F = O.filter (leastB O) := by rw [ef1]; exact ff
  have e2 : forL (fun x env' => exs tab.g (cal tab.g n) L__law_least_1 (List.set env' 2 (some (.sh, x)))) (O.map D.tup) [some (.sh, .tup (cs.map D.tup)), some (.sh, .lst (O.map D.tup)), s', some (.o1, .lst []), none, none, none, none] = .nx [some (.sh, .tup (cs.map D.tup)), some (.sh, .lst (O.map D.tup)), s2, some (.o1, .lst (F.map keyD)), s4, none, none, none] := e2
  rw [← eF]
  have rF : RowsOk F := ⟨by rw [eF]; have := List.length_filter_le (leastB O) O; omega, fun h hh => r1 h (by rw [eF] at hh; exact (List.mem_filter.mp hh).1)⟩
  refine st (env' := [some (.sh, .tup (cs.map D.tup)), some (.sh, .lst (O.map D.tup)), s2, some (.o1, .lst (F.map keyD)), s4, none, none, none]) (by
    rw [for_nm (o := (.sh, .lst (O.map D.tup))) (l := O.map D.tup) (by simp [itD])]
    have fz : frzS [(1, true)] 2 s' = s' := frzS_no rfl rfl
    simp [fz]
    simpa using e2) ?_
  have so : biD .sorted [.lst (F.map keyD)] = .ok (.lst ((hsort F).map keyD)) := by
    rw [← srt_keys]; exact sorted_ok (keys_row rF)
  have hit : ∀ c, itD (.lst c) = some c := fun _ => rfl
  have hl2 : (hsort F).length ≤ 1000 := by
    have : (hsort F).length = F.length := List.length_mergeSort _
    have := rF.1
    omega
  have lc : ev tab.g (cal tab.g n) (.lc (.ix (.var 7) (.int 1)) (.nm 7) (.it (.bi .sorted (.cons (.var 3) .nil))) .none) [some (.sh, .tup (cs.map D.tup)), some (.sh, .lst (O.map D.tup)), s2, some (.o1, .lst (F.map keyD)), s4, none, none, none] = .ok (.o1, .lst ((hsort F).map D.tup)) := by
    refine lc_all (hsort F) keyD D.tup (o := (.o1, .lst ((hsort F).map keyD))) (by simp [so, hit]) (by omega) fun y hy => ⟨_, rfl, ?_⟩
    have a1 : L2.atI [D.int y.length, D.tup y] 1 = some (.tup y) := rfl
    simp [keyD, a1]
  simp [-ev_lc, lc]
/-- the least clauses are the least hitting sets of the least hitting sets -/
theorem least_dual {row : List D} (nd : row.Nodup) (st : Strs row) {cs : List (List D)} (hc : ∀ c ∈ cs, c.Sublist row) (hr : Rws cs) :
    hsort ((cs.foldl stepD []).filter (leastB (cs.foldl stepD []))) = (hsort (pw row)).filter (minB ((hsort (pw row)).filter (minB cs))) := by
  have L := listed_all nd st
  obtain ⟨r1, r2, r3, r4⟩ := dd_ok cs [] hr (fun c hm => by cases hm) (by simp)
  have mem : ∀ c, c ∈ cs.foldl stepD [] ↔ c ∈ cs := fun c => by rw [r4]; simp
  generalize cs.foldl stepD [] = O at *
  have lb : ∀ c, leastB O c = leastB cs c := fun c => by
    unfold leastB
    rw [Bool.eq_iff_iff, List.all_eq_true, List.all_eq_true]
    exact ⟨fun h o ho => h o ((mem o).mpr ho), fun h o ho => h o ((mem o).mp ho)⟩
  refine hsort_one nd st (r2.filter _) fun c => ?_
  rw [List.mem_filter, mem, lb]
  constructor
  · rintro ⟨h1, h2⟩
    exact ⟨hc c h1, (min_dual L hc (hc c h1)).mpr ⟨h1, h2⟩⟩
  · rintro ⟨h1, h2⟩
    exact (min_dual L hc h1).mp h2
end Lw

set_option maxHeartbeats 4000000
namespace Lw
open PySem S2
theorem is_integer_ok (n : Nat) (v : D) (h : okV v = true) : callD tab.g (n + 1) N_is_integer [v] = .ok (.sh, .bl (isInt v)) := by
  rw [c_is_integer, b_is_integer]
  cases v <;> simp at h <;> simp
theorem is_number_ok (n : Nat) (v : D) (a b : Int) (h : okV v = true) : callD tab.g (n + 2) N_is_number [v, .int a, .int b] = .ok (.sh, .bl (inB v a b)) := by
  rw [c_is_number, b_is_number]
  have hi := is_integer_ok n v h
  cases v <;> simp at h <;> simp [hi, inB]
  rename_i i
  by_cases h1 : a ≤ i <;> simp [h1]
theorem law_is_name_ok (n : Nat) (v : D) (h : okV v = true) : callD tab.g (n + 1) N__law_is_name [v] = .ok (.sh, .bl (nameB v)) := by
  rw [c__law_is_name, b__law_is_name]
  have ha : binD .add (.str (sg lets)) (.str (sg digs)) = .ok (.str (sg (lets ++ digs))) := add_str (by decide)
  cases v with
  | str s =>
    obtain ⟨l, rfl⟩ := str_ex s
    rw [okV_str, sg_len, decide_eq_true_eq] at h
    rw [nameB_sg]
    cases l with
    | nil => simp [len_str (l := []) (by decide), nameL]
    | cons c r =>
      have hl := len_str h
      rw [List.length_cons] at hl
      by_cases h2 : r.length + 1 ≤ 12
      · have h1 : ¬ (r.length : Int) + 1 < 1 := by omega
        have h3 : ¬ 12 < (r.length : Int) + 1 := by omega
        obtain ⟨s', hs, e⟩ := forL_find (mk := fun s => [some (.sh, .str (sg (c :: r))), some (.sh, .str (sg lets)), s]) (p := badD) (out := fun _ _ => .ret .sh (.bl false)) (f := fun x env' => exs tab.g (cal tab.g n) L__law_is_name_0 (List.set env' 2 (some (.sh, x)))) ((c :: r).map fun c => .str (sg [c])) none (fun x hx s => by
            obtain ⟨k, hk, rfl⟩ := List.mem_map.mp hx
            rw [badD_sg]
            simp only [goodC]
            by_cases d1 : k ∈ lets <;> by_cases d2 : k ∈ digs <;> simp [L__law_is_name_0, N_lets, N_digs, ha, notin_chr, d1, d2]) (fun _ _ => rfl)
        have hi := itD_str (c :: r)
        have g0 : ixD (.str (sg (c :: r))) (.int 0) = .ok (.str (sg [c])) := ix_str h (atI_0 _ _)
        have i0 := in_chr c lets
        rcases e with ⟨x, e1, e2⟩ | ⟨e1, e2⟩
        · have a := find_some_all (q := goodC) (fun c _ => badD_sg c) e1
          simp [hl, h1, h3, hi, N_lets]
          rw [List.map_cons] at e2
          rw [e2]
          simp [nameL, h2, a]
        · have a := find_none_all (q := goodC) (fun c _ => badD_sg c) e1
          simp [hl, h1, h3, hi, N_lets]
          rw [List.map_cons] at e2
          rw [e2]
          simp [nameL, h2, a, g0, N_lets, i0]
      · have h1 : ¬ (r.length : Int) + 1 < 1 := by omega
        have h3 : 12 < (r.length : Int) + 1 := by omega
        simp [hl, h1, h3, nameL, h2]
  | _ => first | (simp at h; done) | simp [nameB]
/-! faults of what is handed in -/
inductive Flt where
  | nm (r : NR)
  | wt
  | many
  | cl (k : Int)
def Flt.due : Flt → D
  | .nm r => r.due 8
  | .wt => .tup [.str N_InvalidWeights]
  | .many => .tup [.str N_TooMany, .int 256]
  | .cl k => .tup [.str N_InvalidClause, .int k]
def NR.exc : NR → D
  | .fine => .non
  | .inv d => .ob N_InvalidName [N_value] [d]
  | .many => .ob N_TooMany [N_bound] [.int 8]
  | .dup d => .ob N_DuplicateName [N_name] [d]
def Flt.exc : Flt → D
  | .nm r => r.exc
  | .wt => .ob N_InvalidWeights [] []
  | .many => .ob N_TooMany [N_bound] [.int 256]
  | .cl k => .ob N_InvalidClause [N_position] [.int k]
theorem NR.out_exc {r : NR} (h : r ≠ .fine) : r.out 8 = .exc r.exc := by cases r <;> first | exact absurd rfl h | rfl
/-- what a row of clauses may be -/
def cv : D → Bool
  | .tup l => decide (l.length ≤ 1000) && l.all rv
  | v => okV v
theorem cv_tup {l : List D} (h : cv (.tup l) = true) : l.length ≤ 1000 ∧ ∀ d ∈ l, rv d = true := by
  have h : (decide (l.length ≤ 1000) && l.all rv) = true := h
  rw [Bool.and_eq_true, decide_eq_true_eq, List.all_eq_true] at h
  exact h
def clP (al l : List D) (k : D) : Bool := !ringsB al (itemAt l k)
def clF (al : List D) : D → Option Flt
  | .tup l => if 256 < l.length then some .many else match (upto 0 l.length).find? (clP al l) with
    | some (.int k) => some (.cl k)
    | _ => none
  | _ => some (.cl (-1))
def costsB (m : Nat) : D → Bool
  | .tup l => l.all (fun x => inB x 0 1000) && decide (l.length = m)
  | _ => false
def outR (f : Option Flt) : R OD := match f with
  | none => .ok (.sh, .non)
  | some f => .exc f.exc
theorem item_at {l : List D} {k : Nat} (hk : k < l.length) : itemAt l (.int k) = l[k] := by simp only [itemAt, Int.toNat_natCast]; rw [List.getElem?_eq_getElem hk]; rfl
theorem check_clauses_ok (n : Nat) (al : List D) (ha : Strs al) (hl : al.length ≤ 1000) (w : D) (hw : cv w = true) : callD tab.g (n + 3) N_check_clauses [.tup al, w] = outR (clF al w) := by
  rw [c_check_clauses, b_check_clauses]
  cases w with
  | tup l =>
    obtain ⟨h1, h2⟩ := cv_tup hw
    by_cases hb : 256 < l.length
    · have hb' : (256 : Int) < (l.length : Int) := by omega
      simp [hb, hb', clF, outR, Flt.exc]
    · have hb' : ¬ (256 : Int) < (l.length : Int) := by omega
      have hr := rng_nat (show l.length ≤ 1000000 by omega)
      obtain ⟨s', _, e⟩ := forL_find (mk := fun s => [some (.sh, .tup al), some (.sh, .tup l), s]) (p := clP al l) (out := fun _ x => .exc [some (.sh, .tup al), some (.sh, .tup l), some (.sh, x)] (.ob N_InvalidClause [N_position] [x])) (f := fun x env' => exs tab.g (cal tab.g (n + 2)) L_check_clauses_0 (List.set env' 2 (some (.sh, x)))) (upto 0 l.length) none (fun x hx s => by
        obtain ⟨k, rfl, hk⟩ := upto_mem hx
        have a1 : L2.atI l (k : Int) = some l[k] := atI_nat hk
        have ih := is_hearing_ok n al (fun x hx => by obtain ⟨s, rfl⟩ := ha x hx; rfl) hl l[k] (h2 _ (List.getElem_mem hk))
        unfold clP
        rw [item_at hk]
        cases e : ringsB al l[k] <;> rw [e] at ih <;> simp [L_check_clauses_0, a1, ih]) (fun _ _ => rfl)
      rcases e with ⟨x, e3, e4⟩ | ⟨e3, e4⟩
      · obtain ⟨k, rfl, hk⟩ := upto_mem (List.mem_of_find?_eq_some e3)
        simp [hb, hb', hr, e4, clF, outR, Flt.exc, e3]
      · simp [hb, hb', hr, e4, clF, outR, e3]
  | dct _ _ => simp [cv] at hw
  | ob _ _ _ => simp [cv] at hw
  | _ => simp [clF, outR, Flt.exc]
/-- what a row of costs may be -/
theorem are_numbers_ok (n : Nat) (v : D) (hv : nv v = true) : callD tab.g (n + 3) N_are_numbers [v, .int 0, .int 1000] = .ok (.sh, .bl (match v with | .tup l => l.all fun x => inB x 0 1000 | _ => false)) := by
  rw [c_are_numbers, b_are_numbers]
  cases v with
  | tup l =>
    have h : (decide (l.length ≤ 1000) && l.all okV) = true := hv
    rw [Bool.and_eq_true, decide_eq_true_eq, List.all_eq_true] at h
    obtain ⟨hl, ho⟩ := h
    obtain ⟨s', _, e⟩ := forL_find (mk := fun s => [some (.sh, .tup l), some (.sh, .int 0), some (.sh, .int 1000), s]) (p := fun x => !inB x 0 1000) (out := fun _ _ => .ret .sh (.bl false)) (f := fun x env' => exs tab.g (cal tab.g (n + 2)) L_are_numbers_0 (List.set env' 3 (some (.sh, x)))) l none (fun x hx s => by
      have := is_number_ok n x 0 1000 (ho x hx)
      cases e : inB x 0 1000 <;> rw [e] at this <;> simp [L_are_numbers_0, this]) (fun _ _ => rfl)
    rcases e with ⟨x, e1, e2⟩ | ⟨e1, e2⟩
    · have a := any_find (q := fun x => inB x 0 1000) (fun _ _ => rfl) e1
      simp [e2, a]
    · have a := all_find (q := fun x => inB x 0 1000) (fun _ _ => rfl) e1
      simp [e2, a]
  | dct _ _ => simp [nv] at hv
  | ob _ _ _ => simp [nv] at hv
  | _ => simp
theorem check_costs_ok (n : Nat) (al : List D) (v : D) (hv : nv v = true) : callD tab.g (n + 4) N_check_costs [.tup al, v] = if costsB al.length v = true then .ok (.sh, .non) else .exc (.ob N_InvalidWeights [] []) := by
  rw [c_check_costs, b_check_costs]
  have h := are_numbers_ok n v hv
  cases v with
  | tup l =>
    have h : callD tab.g (n + 3) N_are_numbers [.tup l, .int 0, .int 1000] = .ok (.sh, .bl (l.all fun x => inB x 0 1000)) := h
    have ec : costsB al.length (.tup l) = ((l.all fun x => inB x 0 1000) && decide (l.length = al.length)) := rfl
    rw [ec]
    generalize (l.all fun x => inB x 0 1000) = p at h
    by_cases z : l.length = al.length
    · have z' : (l.length : Int) = (al.length : Int) := by omega
      cases p <;> simp [h, z]
    · have z' : ¬ (l.length : Int) = (al.length : Int) := by omega
      cases p <;> simp [h, z, z']
  | dct _ _ => simp [nv] at hv
  | ob _ _ _ => simp [nv] at hv
  | _ => simp at h; simp [h, costsB]
/-! the whole programs -/
def listL : D → List D
  | .tup l => l
  | _ => []
def faultOf (which : Nat) (v costs w : D) : Option Flt := match namesR v 8 with
  | .fine => if which = 1 ∧ costsB (listL v).length costs = false then some .wt else clF (listL v) w
  | r => some (.nm r)
theorem fine_tup {v : D} (h : namesR v 8 = .fine) (hv : nv v = true) : ∃ l, v = .tup l ∧ Names l ∧ l.length ≤ 8 := by
  cases v with
  | tup l =>
    have h0 := h
    simp only [namesR] at h
    split at h
    · cases h
    · rename_i e1
      split at h
      · cases h
      · rename_i hb
        split at h
        · cases h
        · rename_i e2
          rw [List.find?_eq_none] at e1 e2
          have nm : ∀ d ∈ l, nameB d = true := fun d hd => by have := e1 d hd; simpa using this
          refine ⟨l, rfl, ⟨nm, fun i j hi hj hij e => ?_⟩, by omega⟩
          refine e2 (.int j) (by unfold upto; exact List.mem_map.mpr ⟨j, List.mem_range.mpr hj, by simp⟩) ?_
          show ((l.take (j : Int).toNat).any fun z => PyData.eqv (py z) (py (l[(j : Int).toNat]?.getD .non))) = true
          rw [Int.toNat_natCast, List.getElem?_eq_getElem hj, Option.getD_some, List.any_eq_true]
          refine ⟨l[i], List.mem_of_getElem? (i := i) (by rw [List.getElem?_take_of_lt hij]; exact List.getElem?_eq_getElem hi), ?_⟩
          rw [e]
          obtain ⟨z, ez, _⟩ := name_str (nm _ (List.getElem_mem hj))
          rw [ez, py_str]
          simp [PyData.eqv]
  | _ => simp [namesR] at h
theorem Names.strs {l : List D} (h : Names l) : Strs l := fun d hd => by obtain ⟨z, rfl, _⟩ := name_str (h.nm d hd); exact ⟨_, rfl⟩
theorem names_nodup {l : List D} (h : Names l) : l.Nodup := by
  rw [List.nodup_iff_pairwise_ne, List.pairwise_iff_getElem]
  exact fun i j hi hj hij => h.ne i j hi hj hij
/-- rows of clauses that are right -/
theorem clauses_of {al : List D} {w : D} (hw : cv w = true) (h : clF al w = none) : ∃ cs : List (List D), w = .tup (cs.map D.tup) ∧ Rws cs ∧ cs.length ≤ 256 := by
  cases w with
  | tup l =>
    obtain ⟨h1, h2⟩ := cv_tup hw
    simp only [clF] at h
    split at h
    · cases h
    · rename_i hb
      have e : (upto 0 l.length).find? (clP al l) = none := by
        cases q : (upto 0 l.length).find? (clP al l) with
        | none => rfl
        | some x =>
          obtain ⟨k, rfl, _⟩ := upto_mem (List.mem_of_find?_eq_some q)
          rw [q] at h
          cases h
      rw [List.find?_eq_none] at e
      have all : ∀ x ∈ l, ∃ r, x = .tup r ∧ Strs r ∧ r.length ≤ 1000 := fun x hx => by
        obtain ⟨k, hk, ek⟩ := List.getElem_of_mem hx
        have := e (.int k) (by unfold upto; exact List.mem_map.mpr ⟨k, List.mem_range.mpr hk, by simp⟩)
        unfold clP at this
        rw [item_at hk, ek] at this
        have hr : ringsB al x = true := by simpa using this
        cases x with
        | tup r =>
          have hr : (r.all (okR al) && chainB r) = true := hr
          rw [Bool.and_eq_true] at hr
          exact ⟨r, rfl, str_all hr.1, (rv_tup (h2 _ hx)).1⟩
        | _ => cases hr
      refine ⟨l.map tupL, ?_, fun h hh => ?_, by simp; omega⟩
      · congr 1
        rw [List.map_map]
        conv => lhs; rw [← List.map_id l]
        refine List.map_congr_left fun x hx => ?_
        obtain ⟨r, rfl, _⟩ := all x hx
        rfl
      · obtain ⟨x, hx, rfl⟩ := List.mem_map.mp hh
        obtain ⟨r, rfl, h3⟩ := all x hx
        exact h3
  | _ => simp [clF] at h
theorem costs_of {m : Nat} {v : D} (h : costsB m v = true) : ∃ ws : List Int, v = .tup (ws.map .int) ∧ ws.length = m := by
  cases v with
  | tup l =>
    have h : ((l.all fun x => inB x 0 1000) && decide (l.length = m)) = true := h
    rw [Bool.and_eq_true, decide_eq_true_eq] at h
    have key : ∀ l : List D, (l.all fun x => inB x 0 1000) = true → ∃ ws : List Int, l = ws.map .int := fun l => by
      induction l with
      | nil => intro _; exact ⟨[], rfl⟩
      | cons a l ih =>
        intro h
        rw [List.all_cons, Bool.and_eq_true] at h
        obtain ⟨ws, e⟩ := ih h.2
        have ha := h.1
        cases a with
        | int i => exact ⟨i :: ws, by rw [e]; rfl⟩
        | _ => cases ha
    obtain ⟨ws, rfl⟩ := key l h.1
    exact ⟨ws, rfl, by simpa using h.2⟩
  | _ => cases h
theorem rws_listed {row : List D} (hs : Strs row) (hl : row.length ≤ 8) : Rws (hsort (pw row)) := fun x hx => (pw_rows hs hl).2 x (hsort_mem.mp hx)
theorem minimal_ok (n : Nat) (nm : List D) (hN : Names nm) (hl : nm.length ≤ 8) (cs : List (List D)) (hc : Rws cs) (hf : clF nm (.tup (cs.map D.tup)) = none) (hcv : cv (.tup (cs.map D.tup)) = true) :
    callD tab.g (n + 4) N_minimal_hitting [.tup nm, .tup (cs.map D.tup)] = .ok (.sh, .tup (((hsort (pw (srt nm))).foldl (stepM cs) []).map D.tup)) := by
  rw [c_minimal_hitting, b_minimal_hitting]
  have fine := hN.fine 8 (by omega)
  have nvn : nv (.tup nm) = true := by
    show (decide (nm.length ≤ 1000) && nm.all okV) = true
    rw [Bool.and_eq_true, decide_eq_true_eq, List.all_eq_true]
    exact ⟨by omega, fun d hd => by obtain ⟨l, rfl, h⟩ := hN.sh d hd; rw [okV_str, sg_len]; exact decide_eq_true (by omega)⟩
  have cn := check_names_ok (n + 1) (.tup nm) 8 nvn
  rw [fine] at cn
  have cc := check_clauses_ok n nm hN.strs (by omega) (.tup (cs.map D.tup)) hcv
  rw [hf] at cc
  have he := hearings_ok n nm fine hN.strs hl nvn
  have ss : Strs (srt nm) := hN.strs.sub fun x hx => srt_mem hx
  have sl : (srt nm).length ≤ 8 := by rw [srt_len]; exact hl
  have rL := rws_listed ss sl
  have lL : (hsort (pw (srt nm))).length ≤ 256 := by
    have h1 : (hsort (pw (srt nm))).length = (pw (srt nm)).length := List.length_mergeSort _
    rw [h1, pw_len]
    calc 2 ^ (srt nm).length ≤ 2 ^ 8 := Nat.pow_le_pow_right (by decide) sl
      _ ≤ 256 := by decide
  have L := listed_all ((List.mergeSort_perm nm leD).nodup_iff.mpr (names_nodup hN)) ss
  have cst : ∀ c ∈ cs, Strs c := fun c z => (hc c z).1
  have L : Listed (srt nm) (hsort (pw (srt nm))) := L
  generalize hsort (pw (srt nm)) = Ls at *
  have nL := noL_rows fun x hx => (rL x hx).1
  obtain ⟨s', _, e⟩ := forL_fold (mk := fun s (F : List (List D)) => [some (.sh, .tup nm), some (.sh, .tup (cs.map D.tup)), some (.o1, .lst (F.map D.tup)), s]) (step := fun F x => stepM cs F (tupL x)) (f := fun x env' => exs tab.g (cal tab.g (n + 3)) L_minimal_hitting_0 (List.set env' 3 (some (.sh, x)))) (Ls.map D.tup) none [] (fun p x r ep s => by
    obtain ⟨p', q', e1, rfl, e2⟩ := List.map_eq_append_iff.mp ep
    rw [foldl_map]
    cases q' with
    | nil => cases e2
    | cons h q' =>
      rw [List.map_cons] at e2
      injection e2 with e2 _
      subst e2
      obtain ⟨h1, h2⟩ := rL h (by rw [e1]; simp)
      have lp : p'.length ≤ 256 := by rw [e1] at lL; simp at lL; omega
      have ef : p'.foldl (fun F x => stepM cs F (tupL (D.tup x))) [] = p'.filter (minB cs) := fold_pre L cst p' (h :: q') e1
      rw [ef]
      show _ = Out.nx [some (.sh, .tup nm), some (.sh, .tup (cs.map D.tup)), some (.o1, .lst ((stepM cs (p'.filter (minB cs)) h).map D.tup)), some (.sh, .tup h)]
      have rF : Rws (p'.filter (minB cs)) := fun c hm => rL c (by rw [e1]; exact List.mem_append_left _ (List.mem_filter.mp hm).1)
      have lF : (p'.filter (minB cs)).length ≤ 256 := Nat.le_trans (List.length_filter_le _ _) lp
      generalize p'.filter (minB cs) = F at rF lF
      have ht := hits_ok (n + 1) h cs h1 h2 hc
      have ho := has_one_ok (n + 1) h F h1 h2 rF
      have sz := szL_lt (show F.length ≤ 1000000 by omega)
      have nh := noL_strs h1
      unfold stepM
      cases q1 : hitsB h cs with
      | false => rw [q1] at ht; simp [L_minimal_hitting_0, ht]
      | true =>
        rw [q1] at ht
        cases q2 : hasOne h F <;> rw [q2] at ho <;> simp [L_minimal_hitting_0, ht, ho, nh, sz])
  rw [foldl_map] at e
  have ef : Ls.foldl (fun F x => stepM cs F (tupL (D.tup x))) [] = Ls.foldl (stepM cs) [] := rfl
  rw [ef] at e
  have it1 : ∀ l, itD (.tup l) = some l := fun _ => rfl
  have e0 : ([] : List (List D)).map D.tup = [] := rfl
  rw [e0] at e
  simp [cn, NR.out, cc, outR, he, it1, nL, e]
theorem cheapest_ok (n : Nat) (nm : List D) (hN : Names nm) (hl : nm.length ≤ 8) (ws : List Int) (hw : costsB nm.length (.tup (ws.map .int)) = true) (cs : List (List D)) (hc : Rws cs) (hf : clF nm (.tup (cs.map D.tup)) = none) (hcv : cv (.tup (cs.map D.tup)) = true) :
    callD tab.g (n + 5) N_cheapest_hitting [.tup nm, .tup (ws.map .int), .tup (cs.map D.tup)] = .ok (.sh, bestD ((hsort (pw (srt nm))).foldl (stepC nm ws cs) none)) := by
  rw [c_cheapest_hitting, b_cheapest_hitting]
  have fine := hN.fine 8 (by omega)
  have nvn : nv (.tup nm) = true := by
    show (decide (nm.length ≤ 1000) && nm.all okV) = true
    rw [Bool.and_eq_true, decide_eq_true_eq, List.all_eq_true]
    exact ⟨by omega, fun d hd => by obtain ⟨l, rfl, h⟩ := hN.sh d hd; rw [okV_str, sg_len]; exact decide_eq_true (by omega)⟩
  have lw : ws.length = nm.length := by
    have h : (((ws.map D.int).all fun x => inB x 0 1000) && decide ((ws.map D.int).length = nm.length)) = true := hw
    rw [Bool.and_eq_true, decide_eq_true_eq] at h
    simpa using h.2
  have nvw : nv (.tup (ws.map .int)) = true := by
    show (decide ((ws.map D.int).length ≤ 1000) && (ws.map D.int).all okV) = true
    rw [Bool.and_eq_true, decide_eq_true_eq, List.all_eq_true]
    exact ⟨by simp; omega, fun d hd => by obtain ⟨i, _, rfl⟩ := List.mem_map.mp hd; rfl⟩
  have cn := check_names_ok (n + 2) (.tup nm) 8 nvn
  rw [fine] at cn
  have ck := check_costs_ok n nm (.tup (ws.map .int)) nvw
  rw [hw] at ck
  have cc := check_clauses_ok (n + 1) nm hN.strs (by omega) (.tup (cs.map D.tup)) hcv
  rw [hf] at cc
  have he := hearings_ok (n + 1) nm fine hN.strs hl nvn
  have ss : Strs (srt nm) := hN.strs.sub fun x hx => srt_mem hx
  have sl : (srt nm).length ≤ 8 := by rw [srt_len]; exact hl
  have rL := rws_listed ss sl
  generalize hsort (pw (srt nm)) = Ls at *
  have nL := noL_rows fun x hx => (rL x hx).1
  obtain ⟨s4, s5, e⟩ := cheap_loop (n + 2) nm ws cs Ls hN.strs (by omega) lw hc rL
  have it1 : ∀ l, itD (.tup l) = some l := fun _ => rfl
  have hb : ∀ b, ∃ d, bestD b = d := fun b => ⟨_, rfl⟩
  generalize bestD (Ls.foldl (stepC nm ws cs) none) = bd at *
  simp [cn, NR.out, ck, cc, outR, he, it1, nL, e]
end Lw

set_option maxHeartbeats 4000000
namespace Lw
open PySem S2
def nonE : D → Bool
  | .str s => !s.cps.toList.isEmpty
  | _ => false
theorem lt_empty {s : Str} (h : s.cps.toList ≠ []) : W.dataLt (py (.str N_x)) (py (.str s)) = true := by
  obtain ⟨l, rfl⟩ := str_ex s
  rw [sg_cps] at h
  cases l with
  | nil => exact absurd rfl h
  | cons c t => rfl
theorem inL_str {al : List D} (ha : Strs al) {t : Str} : inL al (.str t) = true ↔ D.str t ∈ al := by
  unfold inL
  rw [List.any_eq_true]
  constructor
  · rintro ⟨z, hz, e⟩
    obtain ⟨s, rfl⟩ := ha z hz
    rw [← eqv_str e]; exact hz
  · intro h
    exact ⟨_, h, by rw [py_str]; simp [PyData.eqv]⟩
def hStep (al : List D) (a : Str) : D → Option Str
  | .str z => if (inL al (.str z) && W.dataLt (py (.str a)) (py (.str z))) = true then some z else none
  | _ => none
theorem hStep_all (al : List D) : ∀ (r : List D) (a : Str), (r.foldlM (hStep al) a).isSome = (r.all (okR al) && chainB (.str a :: r))
  | [], a => rfl
  | x :: r, a => by
    rw [List.foldlM_cons, List.all_cons]
    have hc : chainB (.str a :: x :: r) = (W.dataLt (py (.str a)) (py x) && chainB (x :: r)) := rfl
    rw [hc]
    cases x with
    | str z =>
      have hs : hStep al a (.str z) = if (inL al (.str z) && W.dataLt (py (.str a)) (py (.str z))) = true then some z else none := rfl
      have ho : okR al (.str z) = inL al (.str z) := by unfold okR; rfl
      rw [hs, ho]
      cases e1 : inL al (.str z) with
      | false => rfl
      | true =>
        cases e2 : W.dataLt (py (.str a)) (py (.str z)) with
        | false =>
          rw [Bool.false_and, Bool.and_false, Bool.and_false]; rfl
        | true =>
          have := hStep_all al r z
          rw [Bool.true_and, Bool.true_and]
          exact this
    | _ => simp [hStep, okR, isStrB]
theorem hStep_rings {al : List D} (ha : Strs al) (hn : ∀ s, D.str s ∈ al → s.cps.toList ≠ []) (r : List D) : (r.foldlM (hStep al) N_x).isSome = ringsB al (.tup r) := by
  rw [hStep_all]
  show _ = (r.all (okR al) && chainB r)
  cases r with
  | nil => rfl
  | cons x r =>
    have hc : chainB (.str N_x :: x :: r) = (W.dataLt (py (.str N_x)) (py x) && chainB (x :: r)) := rfl
    rw [hc]
    cases e : (x :: r).all (okR al) with
    | false => rfl
    | true =>
      rw [List.all_cons, Bool.and_eq_true] at e
      have e1 := e.1
      cases x with
      | str z =>
        unfold okR at e1
        rw [Bool.and_eq_true] at e1
        rw [lt_empty (hn z ((inL_str ha).mp e1.2))]
        rfl
      | _ => simp [okR, isStrB] at e1
theorem law_is_clause_ok (n : Nat) (al : List D) (ha : Strs al) (hn : ∀ s, D.str s ∈ al → s.cps.toList ≠ []) (hl : al.length ≤ 1000) (v : D) (hv : rv v = true) : callD tab.g (n + 1) N__law_is_clause [.tup al, v] = .ok (.sh, .bl (ringsB al v)) := by
  rw [c__law_is_clause, b__law_is_clause]
  cases v with
  | tup r =>
    obtain ⟨hr, ho⟩ := rv_tup hv
    have rs := hStep_rings ha hn r
    have lp := forL_foldR (mk := fun s (a : Str) => [some (.sh, .tup al), some (.sh, .tup r), some (.sh, .str a), s]) (step := hStep al) (out := fun _ _ => .ret .sh (.bl false)) (f := fun x env' => exs tab.g (cal tab.g n) L__law_is_clause_0 (List.set env' 3 (some (.sh, x)))) r none N_x (fun x hx s a => by
      have hx2 := ho x hx
      cases x with
      | str z =>
        have q := (in_al (fun x hx => by obtain ⟨s, rfl⟩ := ha x hx; rfl) hl z).2
        have lt : cmpD .lt (.str a) (.str z) = .ok (W.dataLt (py (.str a)) (py (.str z))) := (row_lt (row_str (l := [D.str a, D.str z]) (by simp) (by simp)) (by simp) (by simp)).1
        cases e : inL al (.str z) <;> cases e2 : W.dataLt (py (.str a)) (py (.str z)) <;> rw [e] at q <;> rw [e2] at lt <;> rw [show hStep al a (.str z) = if (inL al (.str z) && W.dataLt (py (.str a)) (py (.str z))) = true then some z else none from rfl, e, e2] <;> simp [L__law_is_clause_0, q, lt]
      | dct _ _ => simp at hx2
      | ob _ _ _ => simp at hx2
      | _ => simp [L__law_is_clause_0, hStep]) (fun _ _ => rfl)
    rcases lp with ⟨s', b, _, e1, e2⟩ | ⟨e1, x, b, e2⟩
    · rw [e1] at rs
      simp [e2, ← rs]
    · rw [e1] at rs
      simp [e2, ← rs]
  | dct _ _ => simp [rv] at hv
  | ob _ _ _ => simp [rv] at hv
  | _ => simp [ringsB]
theorem Names.nonempty {l : List D} (h : Names l) : ∀ s, D.str s ∈ l → s.cps.toList ≠ [] := fun s hs e => by
  have := h.nm _ hs
  have h2 : nameL s.cps.toList = true := this
  rw [e] at h2
  cases h2
theorem faultOf_0 {l : List D} {costs w : D} (h : namesR (.tup l) 8 = .fine) : faultOf 0 (.tup l) costs w = clF l w := by unfold faultOf; rw [h]; simp [listL]
theorem faultOf_1 {l : List D} {costs w : D} (h : namesR (.tup l) 8 = .fine) (e : costsB l.length costs = true) : faultOf 1 (.tup l) costs w = clF l w := by unfold faultOf; rw [h]; simp [listL, e]
theorem faultOf_w {l : List D} {costs w : D} (h : namesR (.tup l) 8 = .fine) (e : costsB l.length costs = false) : faultOf 1 (.tup l) costs w = some .wt := by unfold faultOf; rw [h]; simp [listL, e]
theorem law_due_ok (n which : Nat) (hw : which = 0 ∨ which = 1) (v costs w : D) (hv : nv v = true) (hc : nv costs = true) (hcv : cv w = true) :
    callD tab.g (n + 3) N__law_due [.int which, v, costs, w] = .ok (.sh, match faultOf which v costs w with | some f => f.due | none => .tup []) := by
  rw [c__law_due, b__law_due]
  have z2 := szL_of (show 2 ≤ 1000000 by decide)
  have z1 := szL_of (show 1 ≤ 1000000 by decide)
  cases v with
  | tup l =>
    have h : (decide (l.length ≤ 1000) && l.all okV) = true := hv
    rw [Bool.and_eq_true, decide_eq_true_eq, List.all_eq_true] at h
    obtain ⟨hl, ho⟩ := h
    obtain ⟨s4, hs4, e⟩ := forL_find (mk := fun s => [some (.sh, .int (which : Int)), some (.sh, .tup l), some (.sh, costs), some (.sh, w), s, none, none]) (p := fun x => !nameB x) (out := fun _ x => .ret .sh (.tup [.str N_InvalidName, x])) (f := fun x env' => exs tab.g (cal tab.g (n + 2)) L__law_due_0 (List.set env' 4 (some (.sh, x)))) l none (fun x hx s => by
      have := law_is_name_ok (n + 1) x (ho x hx)
      cases e : nameB x <;> simp [L__law_due_0, this, e, z2]) (fun _ _ => rfl)
    rcases e with ⟨x, e1, e2⟩ | ⟨e1, e2⟩
    · simp [e2, faultOf, namesR, e1, Flt.due, NR.due]
    · by_cases hb : (8 : Int) < l.length
      · simp [e2, faultOf, namesR, e1, hb, Flt.due, NR.due, z2]
      · have hp := names_pl e1
        obtain ⟨s5, hs5, e⟩ := forL_find (mk := fun s => [some (.sh, .int (which : Int)), some (.sh, .tup l), some (.sh, costs), some (.sh, w), s4, s, none]) (p := dupAt l) (out := fun _ x => .ret .sh (.tup [.str N_DuplicateName, itemAt l x])) (f := fun x env' => exs tab.g (cal tab.g (n + 2)) L__law_due_1 (List.set env' 5 (some (.sh, x)))) (upto 0 l.length) none (fun x hx s => by
          obtain ⟨k, rfl, hk⟩ := upto_mem hx
          obtain ⟨a1, a2⟩ := dup_step hl hp hk
          have ei : itemAt l (.int k) = l[k] := item_at hk
          cases e : dupAt l (.int k) <;> rw [e] at a2 <;> simp [L__law_due_1, a1, a2, slD_tup, cut_to, ei, z2]) (fun _ _ => rfl)
        have hr := rng_nat (show l.length ≤ 1000000 by omega)
        rcases e with ⟨x, e3, e4⟩ | ⟨e3, e4⟩
        · simp [e2, faultOf, namesR, e1, hb, Flt.due, NR.due, hr, e3, e4]
        · have nr : namesR (.tup l) 8 = .fine := by simp [namesR, e1, hb, e3]
          obtain ⟨l', el, hN, hl8⟩ := fine_tup nr hv
          cases el
          -- the rest: costs, clauses
          have rest : ∀ s6 : S2.Slot, endR (exs tab.g (cal tab.g (n + 2)) (.cons (.ife (.not (.isi (.var 3) .tuple)) (.cons (.ret (.tup (.cons (.str N_InvalidClause) (.cons (.neg (.int 1)) .nil)))) .nil) .nil) (.cons (.ife (.cmp .gt (.bi .len (.cons (.var 3) .nil)) (.int 256)) (.cons (.ret (.tup (.cons (.str N_TooMany) (.cons (.int 256) .nil)))) .nil) .nil) (.cons (.for_ (.nm 5) (.rng1 (.bi .len (.cons (.var 3) .nil))) L__law_due_3) (.cons (.ret (.tup .nil)) .nil)))) [some (.sh, .int (which : Int)), some (.sh, .tup l), some (.sh, costs), some (.sh, w), s4, s5, s6]) = .ok (.sh, match clF l w with | some f => f.due | none => .tup []) := fun s6 => by
            cases w with
            | tup cl =>
              obtain ⟨h1, h2⟩ := cv_tup hcv
              by_cases hm : 256 < cl.length
              · have hm' : (256 : Int) < (cl.length : Int) := by omega
                simp [hm, hm', clF, Flt.due, z2]
              · have hm' : ¬ (256 : Int) < (cl.length : Int) := by omega
                have hr2 := rng_nat (show cl.length ≤ 1000000 by omega)
                obtain ⟨s', _, e⟩ := forL_find (mk := fun s => [some (.sh, .int (which : Int)), some (.sh, .tup l), some (.sh, costs), some (.sh, .tup cl), s4, s, s6]) (p := clP l cl) (out := fun _ x => .ret .sh (.tup [.str N_InvalidClause, x])) (f := fun x env' => exs tab.g (cal tab.g (n + 2)) L__law_due_3 (List.set env' 5 (some (.sh, x)))) (upto 0 cl.length) s5 (fun x hx s => by
                  obtain ⟨k, rfl, hk⟩ := upto_mem hx
                  have a1 : L2.atI cl (k : Int) = some cl[k] := atI_nat hk
                  have ih := law_is_clause_ok (n + 1) l hN.strs hN.nonempty (by omega) cl[k] (h2 _ (List.getElem_mem hk))
                  unfold clP
                  rw [item_at hk]
                  cases e : ringsB l cl[k] <;> rw [e] at ih <;> simp [L__law_due_3, a1, ih, z2]) (fun _ _ => rfl)
                rcases e with ⟨x, e5, e6⟩ | ⟨e5, e6⟩
                · obtain ⟨k, rfl, hk⟩ := upto_mem (List.mem_of_find?_eq_some e5)
                  simp [hm, hm', hr2, e6, clF, Flt.due, e5]
                · simp [hm, hm', hr2, e6, clF, e5]
            | dct _ _ => simp [cv] at hcv
            | ob _ _ _ => simp [cv] at hcv
            | _ => simp [clF, Flt.due, z2]
          refine st (env' := [some (.sh, .int (which : Int)), some (.sh, .tup l), some (.sh, costs), some (.sh, w), none, none, none]) (by simp) ?_
          refine st (env' := [some (.sh, .int (which : Int)), some (.sh, .tup l), some (.sh, costs), some (.sh, w), s4, none, none]) (by
            rw [for_nm (o := (.sh, .tup l)) (l := l) (by simp [itD])]
            have nl := noL_strs hN.strs
            simp [nl]
            simpa using e2) ?_
          refine st (env' := [some (.sh, .int (which : Int)), some (.sh, .tup l), some (.sh, costs), some (.sh, w), s4, none, none]) (by simp [hb]) ?_
          refine st (env' := [some (.sh, .int (which : Int)), some (.sh, .tup l), some (.sh, costs), some (.sh, w), s4, s5, none]) (by
            rw [for_nm (o := (.sh, .non)) (l := upto 0 l.length) (by simp [hr])]
            simpa using e4) ?_
          rcases hw with rfl | rfl
          · refine st (env' := [some (.sh, .int ((0 : Nat) : Int)), some (.sh, .tup l), some (.sh, costs), some (.sh, w), s4, s5, none]) (by simp) ?_
            rw [rest none, faultOf_0 nr]
          · -- costs are looked at
            rcases Bool.eq_false_or_eq_true (costsB l.length costs) with ec | ec
            · rw [faultOf_1 nr ec]
              obtain ⟨ws, rfl, lw⟩ := costs_of ec
              have lw' : ((ws.map D.int).length : Int) = (l.length : Int) := by simp; omega
              have hx : ∀ i ∈ ws, 0 ≤ i ∧ i ≤ 1000 := fun i hi => by
                have h : (((ws.map D.int).all fun x => inB x 0 1000) && decide ((ws.map D.int).length = l.length)) = true := ec
                rw [Bool.and_eq_true, List.all_eq_true] at h
                have := h.1 (.int i) (List.mem_map.mpr ⟨i, hi, rfl⟩)
                rw [inB_int, Bool.and_eq_true, decide_eq_true_eq, decide_eq_true_eq] at this
                exact this
              obtain ⟨s6, _, e7⟩ := forL_keep (mk := fun s => [some (.sh, .int 1), some (.sh, .tup l), some (.sh, .tup (ws.map .int)), some (.sh, w), s4, s5, s]) (f := fun x env' => exs tab.g (cal tab.g (n + 2)) L__law_due_2 (List.set env' 6 (some (.sh, x)))) (ws.map .int) none (fun x hx2 s => by
                obtain ⟨i, hi, rfl⟩ := List.mem_map.mp hx2
                obtain ⟨i0, i1⟩ := hx i hi
                have a1 : ¬ i < 0 := by omega
                have a2 : ¬ 1000 < i := by omega
                simp [L__law_due_2, a1, a2])
              refine st (env := [some (.sh, .int 1), some (.sh, .tup l), some (.sh, .tup (ws.map .int)), some (.sh, w), s4, s5, none]) (env' := [some (.sh, .int 1), some (.sh, .tup l), some (.sh, .tup (ws.map .int)), some (.sh, w), s4, s5, s6]) (by
                have it1 : itD (.tup (ws.map D.int)) = some (ws.map D.int) := rfl
                simp [lw, it1, e7]) ?_
              exact rest s6
            · rw [faultOf_w nr ec]
              cases costs with
              | tup cl =>
                by_cases lq : cl.length = l.length
                · have lq' : ¬ (cl.length : Int) ≠ (l.length : Int) := by omega
                  have h : (decide (cl.length ≤ 1000) && cl.all okV) = true := hc
                  rw [Bool.and_eq_true, decide_eq_true_eq, List.all_eq_true] at h
                  obtain ⟨s', _, e⟩ := forL_find (mk := fun s => [some (.sh, .int 1), some (.sh, .tup l), some (.sh, .tup cl), some (.sh, w), s4, s5, s]) (p := fun x => !inB x 0 1000) (out := fun _ _ => .ret .sh (.tup [.str N_InvalidWeights])) (f := fun x env' => exs tab.g (cal tab.g (n + 2)) L__law_due_2 (List.set env' 6 (some (.sh, x)))) cl none (fun x hx s => by
                    have ho := h.2 x hx
                    cases x with
                    | int i =>
                      rw [inB_int]
                      by_cases a1 : i < 0
                      · have a1' : ¬ 0 ≤ i := by omega
                        simp [L__law_due_2, a1, z1]
                      · have a1' : 0 ≤ i := by omega
                        by_cases a2 : 1000 < i
                        · simp [L__law_due_2, a1, a2, z1]
                        · simp [L__law_due_2, a1, a2]
                    | dct _ _ => simp at ho
                    | ob _ _ _ => simp at ho
                    | _ => simp [L__law_due_2, inB, z1]) (fun _ _ => rfl)
                  rcases e with ⟨x, e5, e6⟩ | ⟨e5, e6⟩
                  · have it1 : itD (.tup cl) = some cl := rfl
                    have f4 : frzS [(2, true)] 4 s4 = s4 := frzS_no rfl rfl
                    have f5 : frzS [(2, true)] 5 s5 = s5 := frzS_no rfl rfl
                    simp [lq, it1, e6, Flt.due, f4, f5]
                  · have a := all_find (q := fun x => inB x 0 1000) (fun _ _ => rfl) e5
                    have : costsB l.length (.tup cl) = true := by
                      show ((cl.all fun x => inB x 0 1000) && decide (cl.length = l.length)) = true
                      rw [a, lq]; simp
                    rw [this] at ec; cases ec
                · have lq' : ¬ (cl.length : Int) = (l.length : Int) := by omega
                  simp [lq, lq', Flt.due, z1]
              | dct _ _ => simp [nv] at hc
              | ob _ _ _ => simp [nv] at hc
              | _ => simp [Flt.due, z1]
  | dct _ _ => simp [nv] at hv
  | ob _ _ _ => simp [nv] at hv
  | _ => simp [faultOf, namesR, Flt.due, NR.due, z2]
end Lw

set_option maxHeartbeats 8000000
namespace Lw
open PySem S2
/-! answers -/
theorem ans0_told (n : Nat) (v c w d : D) (h : callD tab.g n N_minimal_hitting [v, w] = .ok (.sh, d)) (hd : hasL d = false) : callD tab.g (n + 1) N__law_answer [.int 0, v, c, w] = .ok (.sh, .tup [.str N_told, d]) := by
  rw [c__law_answer, b__law_answer]
  simp [h, szL_of (show 2 ≤ 1000000 by decide), hd]
theorem ans1_told (n : Nat) (v c w d : D) (h : callD tab.g n N_cheapest_hitting [v, c, w] = .ok (.sh, d)) (hd : hasL d = false) : callD tab.g (n + 1) N__law_answer [.int 1, v, c, w] = .ok (.sh, .tup [.str N_told, d]) := by
  rw [c__law_answer, b__law_answer]
  simp [h, szL_of (show 2 ≤ 1000000 by decide), hd]
theorem ans0_exc (n : Nat) (v c w : D) (f : Flt) (hf : f ≠ .nm .fine) (h : callD tab.g n N_minimal_hitting [v, w] = .exc f.exc) : callD tab.g (n + 1) N__law_answer [.int 0, v, c, w] = .ok (.sh, f.due) := by
  rw [c__law_answer, b__law_answer]
  have z4 := szL_of (show 4 ≤ 1000000 by decide)
  have z2 := szL_of (show 2 ≤ 1000000 by decide)
  have z1 := szL_of (show 1 ≤ 1000000 by decide)
  have z4' := szL_lt (show 4 ≤ 1000000 by decide)
  have z5' := szL_lt (show 5 ≤ 1000000 by decide)
  cases f with
  | nm r => cases r with
    | fine => exact absurd rfl hf
    | _ => simp [h, Flt.exc, NR.exc, noX, unx, z4, z2, z4', z5', blsOf, listOwn, fldD, fldL, Flt.due, NR.due]
  | _ => simp [h, Flt.exc, noX, unx, z4, z2, z1, z4', z5', blsOf, listOwn, fldD, fldL, Flt.due]
theorem ans1_exc (n : Nat) (v c w : D) (f : Flt) (hf : f ≠ .nm .fine) (h : callD tab.g n N_cheapest_hitting [v, c, w] = .exc f.exc) : callD tab.g (n + 1) N__law_answer [.int 1, v, c, w] = .ok (.sh, f.due) := by
  rw [c__law_answer, b__law_answer]
  have z4 := szL_of (show 4 ≤ 1000000 by decide)
  have z2 := szL_of (show 2 ≤ 1000000 by decide)
  have z1 := szL_of (show 1 ≤ 1000000 by decide)
  have z4' := szL_lt (show 4 ≤ 1000000 by decide)
  have z5' := szL_lt (show 5 ≤ 1000000 by decide)
  cases f with
  | nm r => cases r with
    | fine => exact absurd rfl hf
    | _ => simp [h, Flt.exc, NR.exc, noX, unx, z4, z2, z4', z5', blsOf, listOwn, fldD, fldL, Flt.due, NR.due]
  | _ => simp [h, Flt.exc, noX, unx, z4, z2, z1, z4', z5', blsOf, listOwn, fldD, fldL, Flt.due]
theorem clF_not {al : List D} {w : D} {f : Flt} (h : clF al w = some f) : f ≠ .nm .fine := by
  cases w with
  | tup l =>
    simp only [clF] at h
    split at h
    · cases h; simp
    · split at h <;> cases h; simp
  | _ => simp only [clF] at h; cases h; simp
theorem noL_best (b : Option (Int × List D)) (h : ∀ q, b = some q → Strs q.2) : hasL (bestD b) = false := by
  cases b with
  | none => rfl
  | some q => simp [bestD, noL_strs (h q rfl)]
theorem best_mem {nm : List D} {ws : List Int} {cs : List (List D)} : ∀ (Ls : List (List D)) (b : Option (Int × List D)), (∀ x ∈ Ls, Strs x ∧ x.length ≤ 1000) → (∀ q, b = some q → Strs q.2 ∧ q.2.length ≤ 1000) → ∀ q, Ls.foldl (stepC nm ws cs) b = some q → Strs q.2 ∧ q.2.length ≤ 1000
  | [], b, _, hb => hb
  | x :: Ls, b, hL, hb => by
    rw [List.foldl_cons]
    refine best_mem Ls _ (fun y hy => hL y (List.mem_cons_of_mem _ hy)) fun q hq => ?_
    unfold stepC at hq
    have hx := hL x List.mem_cons_self
    split at hq
    · split at hq
      · cases hq; exact hx
      · split at hq
        · cases hq; exact hx
        · exact hb q hq
    · exact hb q hq
theorem nvn_of {nm : List D} (hN : Names nm) (hl : nm.length ≤ 8) : nv (.tup nm) = true := by
  show (decide (nm.length ≤ 1000) && nm.all okV) = true
  rw [Bool.and_eq_true, decide_eq_true_eq, List.all_eq_true]
  exact ⟨by omega, fun d hd => by obtain ⟨l, rfl, h⟩ := hN.sh d hd; rw [okV_str, sg_len]; exact decide_eq_true (by omega)⟩
/-- what comes of it, for any arguments -/
theorem answer_ok (n which : Nat) (hw : which = 0 ∨ which = 1) (v costs w : D) (hv : nv v = true) (hc : nv costs = true) (hcv : cv w = true) :
    (∃ f, faultOf which v costs w = some f ∧ callD tab.g (n + 6) N__law_answer [.int which, v, costs, w] = .ok (.sh, f.due)) ∨ (faultOf which v costs w = none ∧ ∃ d, hasL d = false ∧ callD tab.g (n + 6) N__law_answer [.int which, v, costs, w] = .ok (.sh, .tup [.str N_told, d])) := by
  by_cases hf : namesR v 8 = .fine
  · obtain ⟨l, rfl, hN, hl⟩ := fine_tup hf hv
    have cn1 := check_names_ok (n + 1) (.tup l) 8 hv
    have cn2 := check_names_ok (n + 2) (.tup l) 8 hv
    rw [hf] at cn1 cn2
    have ss : Strs (srt l) := hN.strs.sub fun x hx => srt_mem hx
    have sl : (srt l).length ≤ 8 := by rw [srt_len]; exact hl
    have rL := rws_listed ss sl
    rcases hw with rfl | rfl
    · rw [faultOf_0 hf]
      cases ec : clF l w with
      | some f =>
        refine .inl ⟨f, rfl, ans0_exc (n + 5) _ _ _ f (clF_not ec) ?_⟩
        rw [c_minimal_hitting, b_minimal_hitting]
        have cc := check_clauses_ok (n + 1) l hN.strs (by omega) w hcv
        rw [ec] at cc
        have cn : callD tab.g (n + 4) N_check_names [.tup l, .int 8] = NR.out 8 .fine := by have := check_names_ok (n + 2) (.tup l) 8 hv; rwa [hf] at this
        simp [cn, NR.out, cc, outR]
      | none =>
        obtain ⟨cs, rfl, hr, _⟩ := clauses_of hcv ec
        refine .inr ⟨rfl, _, ?_, ans0_told (n + 5) _ _ _ _ (minimal_ok (n + 1) l hN hl cs hr ec hcv) ?_⟩
        all_goals
          have L := listed_all ((List.mergeSort_perm l leD).nodup_iff.mpr (names_nodup hN)) ss
          have L : Listed (srt l) (hsort (pw (srt l))) := L
          rw [fold_min L fun c z => (hr c z).1]
          rw [hasL_tup]
          exact noL_rows fun x hx => (rL x (List.mem_filter.mp hx).1).1
    · cases e1 : costsB l.length costs with
      | false =>
        rw [faultOf_w hf e1]
        refine .inl ⟨.wt, rfl, ans1_exc (n + 5) _ _ _ .wt (by simp) ?_⟩
        rw [c_cheapest_hitting, b_cheapest_hitting]
        have ck := check_costs_ok n l costs hc
        rw [e1] at ck
        have cn : callD tab.g (n + 4) N_check_names [.tup l, .int 8] = NR.out 8 .fine := by have := check_names_ok (n + 2) (.tup l) 8 hv; rwa [hf] at this
        simp [cn, NR.out, ck, Flt.exc]
      | true =>
        rw [faultOf_1 hf e1]
        obtain ⟨ws, rfl, lw⟩ := costs_of e1
        cases ec : clF l w with
        | some f =>
          refine .inl ⟨f, rfl, ans1_exc (n + 5) _ _ _ f (clF_not ec) ?_⟩
          rw [c_cheapest_hitting, b_cheapest_hitting]
          have ck := check_costs_ok n l (.tup (ws.map .int)) hc
          rw [e1] at ck
          have cc := check_clauses_ok (n + 1) l hN.strs (by omega) w hcv
          rw [ec] at cc
          have cn : callD tab.g (n + 4) N_check_names [.tup l, .int 8] = NR.out 8 .fine := by have := check_names_ok (n + 2) (.tup l) 8 hv; rwa [hf] at this
          simp [cn, NR.out, ck, cc, outR]
        | none =>
          obtain ⟨cs, rfl, hr, _⟩ := clauses_of hcv ec
          have hb := noL_best ((hsort (pw (srt l))).foldl (stepC l ws cs) none) fun q hq => (best_mem _ none (fun x hx => rL x hx) (fun q hq => by cases hq) q hq).1
          exact .inr ⟨rfl, _, hb, ans1_told (n + 5) _ _ _ _ (cheapest_ok n l hN hl ws e1 cs hr ec hcv) hb⟩
  · have hfo : faultOf which v costs w = some (.nm (namesR v 8)) := by
      unfold faultOf
      split
      · rename_i e; exact absurd e hf
      · rfl
    rw [hfo]
    refine .inl ⟨_, rfl, ?_⟩
    have cn : callD tab.g (n + 4) N_check_names [v, .int 8] = .exc (namesR v 8).exc := by rw [check_names_ok (n + 2) v 8 hv, NR.out_exc hf]
    rcases hw with rfl | rfl
    · refine ans0_exc (n + 5) _ _ _ (.nm (namesR v 8)) (by intro z; injection z with z; exact hf z) ?_
      rw [c_minimal_hitting, b_minimal_hitting]
      simp [cn, Flt.exc]
    · refine ans1_exc (n + 5) _ _ _ (.nm (namesR v 8)) (by intro z; injection z with z; exact hf z) ?_
      rw [c_cheapest_hitting, b_cheapest_hitting]
      simp [cn, Flt.exc]
end Lw

set_option maxHeartbeats 8000000
namespace Lw
open PySem S2
/-! wrong arguments -/
def nines : List Nat := [97, 98, 99, 100, 101, 102, 103, 104, 105]
def nineD : List D := nines.map fun c => .str (sg ([c] ++ [57, 56]))
theorem N_98e : N_98 = sg [57, 56] := rfl
theorem N_ai : N_abcdefghi = sg nines := rfl
def badsD : List D := [.str N_x, .str N_A, .str N_2a, .str N_x97_32_98, .str N_abcdefghijklm, .non, .int 3, .bl true, .tup [.str N_a], .lst [.str N_a]]
theorem bads_ok : ∀ x ∈ badsD, okV x = true ∧ pl 2 x = true := by
  intro x hx
  simp only [badsD, List.mem_cons, List.not_mem_nil, or_false] at hx
  rcases hx with rfl | rfl | rfl | rfl | rfl | rfl | rfl | rfl | rfl | rfl <;> exact ⟨by decide, by decide⟩
theorem nine_ok : ∀ d ∈ nineD, okV d = true ∧ pl 2 d = true := by
  intro d hd
  obtain ⟨c, _, rfl⟩ := List.mem_map.mp hd
  exact ⟨by rw [okV_str, sg_len]; exact decide_eq_true (by simp), rfl⟩
def Nv (d : D) : Prop := nv d = true ∧ pl 4 d = true
def Cv (d : D) : Prop := cv d = true ∧ pl 4 d = true
def Ok2 (d : D) : Prop := okV d = true ∧ pl 2 d = true
def Rv2 (d : D) : Prop := rv d = true ∧ pl 3 d = true
theorem nv_tup {l : List D} (hl : l.length ≤ 1000) (h : ∀ d ∈ l, Ok2 d) : Nv (.tup l) := by
  refine ⟨?_, pl_tup (by omega) fun d hd => pl_up 2 (h d hd).2⟩
  show (decide (l.length ≤ 1000) && l.all okV) = true
  rw [Bool.and_eq_true, decide_eq_true_eq, List.all_eq_true]
  exact ⟨hl, fun d hd => (h d hd).1⟩
theorem nv_lst {l : List D} (hl : l.length ≤ 1000) (h : ∀ d ∈ l, Ok2 d) : Nv (.lst l) := ⟨rfl, pl_lst (by omega) fun d hd => pl_up 2 (h d hd).2⟩
theorem rv2_tup {l : List D} (hl : l.length ≤ 1000) (h : ∀ d ∈ l, Ok2 d) : Rv2 (.tup l) := by
  refine ⟨?_, pl_tup (by omega) fun d hd => (h d hd).2⟩
  show (decide (l.length ≤ 1000) && l.all okV) = true
  rw [Bool.and_eq_true, decide_eq_true_eq, List.all_eq_true]
  exact ⟨hl, fun d hd => (h d hd).1⟩
theorem cv_tup2 {l : List D} (hl : l.length ≤ 1000) (h : ∀ d ∈ l, Rv2 d) : Cv (.tup l) := by
  refine ⟨?_, pl_tup (by omega) fun d hd => (h d hd).2⟩
  show (decide (l.length ≤ 1000) && l.all rv) = true
  rw [Bool.and_eq_true, decide_eq_true_eq, List.all_eq_true]
  exact ⟨hl, fun d hd => (h d hd).1⟩
theorem cv_lst2 {l : List D} (hl : l.length ≤ 1000) (h : ∀ d ∈ l, Rv2 d) : Cv (.lst l) := ⟨rfl, pl_lst (by omega) fun d hd => (h d hd).2⟩
def rowsW (nm : List D) (a : Int) (bad : D) : List D := [.tup nm, .tup nm, .lst nm, .non, .str N_ab, .tup (cut nm none (some a) ++ [bad] ++ cut nm (some a) none), .tup nineD, .tup (nineD.take 1 ++ nineD.take 8), .tup (nm ++ cut nm none (some 1))] ++ [.tup (nineD.take 8), .tup (nm ++ nineD.take 8), .tup (cut nm (some 1) none)]
def costW : List D := [.int (-1), .int 1001, .bl true, .non, .str N_0, .int (10 ^ 30), .tup [], .int 1000]
def pricesW (W : List D) (s : Int) (c : D) : List D := [.tup W, .tup W, .lst W, .non, .tup (cut W (some 1) none), .tup (W ++ [.int 0]), .tup (cut W none (some s) ++ [c] ++ cut W (some (s + 1)) none), .int 0]
def otherW (nm : List D) : List D := [.lst nm, .tup [.str N_zz98], .tup (nm ++ nm), .tup (srt nm).reverse, .str N_a, .non, .tup [.non], .int 0, .tup []]
def clausW (C : List D) (p : Int) (o : D) : List D := [.tup C, .lst C, .non, .tup (cut C none (some p) ++ [o] ++ cut C (some p) none), .tup ((List.replicate 257 [D.tup []]).flatten), .tup ((List.replicate 256 [D.tup []]).flatten), .tup ((List.replicate 257 [o]).flatten)]
theorem flat_one (k : Nat) (x : D) : ((List.replicate k [x]).flatten).length = k ∧ ∀ d ∈ (List.replicate k [x]).flatten, d = x := by
  constructor
  · simp
  · intro d hd
    rw [List.mem_flatten] at hd
    obtain ⟨l, hl, hd⟩ := hd
    rw [List.eq_of_mem_replicate hl] at hd
    exact List.mem_singleton.mp hd
theorem rowsW_ok {nm : List D} (h : ∀ d ∈ nm, Ok2 d) (hl : nm.length ≤ 8) {a : Int} {bad : D} (hb : Ok2 bad) : ∀ x ∈ rowsW nm a bad, Nv x := by
  intro x hx
  have cl := fun lo hi => cut_len nm lo hi
  have cm : ∀ lo hi, ∀ d ∈ cut nm lo hi, Ok2 d := fun lo hi d hd => h d (cut_mem hd)
  have n9 : nineD.length = 9 := rfl
  have n8 : (nineD.take 8).length = 8 := rfl
  have o8 : ∀ d ∈ nineD.take 8, Ok2 d := fun d hd => nine_ok d (List.mem_of_mem_take hd)
  unfold rowsW at hx
  simp only [List.cons_append, List.nil_append, List.mem_cons, List.not_mem_nil, or_false] at hx
  rcases hx with hx | hx | hx | hx | hx | hx | hx | hx | hx | hx | hx | hx <;> rw [hx]
  · exact nv_tup (by omega) h
  · exact nv_tup (by omega) h
  · exact nv_lst (by omega) h
  · exact ⟨rfl, rfl⟩
  · exact ⟨by decide, rfl⟩
  · refine nv_tup (by have := cl none (some a); have := cl (some a) none; simp; omega) fun d hd => ?_
    simp only [List.mem_append, List.mem_cons, List.not_mem_nil, or_false] at hd
    rcases hd with (hd | hd) | hd
    · exact cm _ _ d hd
    · rw [hd]; exact hb
    · exact cm _ _ d hd
  · exact nv_tup (by omega) nine_ok
  · refine nv_tup (by simp; omega) fun d hd => (List.mem_append.mp hd).elim (fun z => nine_ok d (List.mem_of_mem_take z)) (o8 d)
  · exact nv_tup (by have := cl none (some 1); simp; omega) fun d hd => (List.mem_append.mp hd).elim (h d) (cm _ _ d)
  · exact nv_tup (by omega) o8
  · exact nv_tup (by simp; omega) fun d hd => (List.mem_append.mp hd).elim (h d) (o8 d)
  · exact nv_tup (by have := cl (some 1) none; omega) (cm _ _)
theorem costW_ok : ∀ x ∈ costW, Ok2 x := by
  intro x hx
  simp only [costW, List.mem_cons, List.not_mem_nil, or_false] at hx
  rcases hx with hx | hx | hx | hx | hx | hx | hx | hx <;> rw [hx]
  · exact ⟨rfl, rfl⟩
  · exact ⟨rfl, rfl⟩
  · exact ⟨rfl, rfl⟩
  · exact ⟨rfl, rfl⟩
  · exact ⟨by decide, rfl⟩
  · exact ⟨rfl, rfl⟩
  · exact ⟨rfl, by decide⟩
  · exact ⟨rfl, rfl⟩
theorem pricesW_ok {W : List D} (h : ∀ d ∈ W, Ok2 d) (hl : W.length ≤ 8) {s : Int} {c : D} (hc : Ok2 c) : ∀ x ∈ pricesW W s c, Nv x := by
  intro x hx
  have cl := fun lo hi => cut_len W lo hi
  have cm : ∀ lo hi, ∀ d ∈ cut W lo hi, Ok2 d := fun lo hi d hd => h d (cut_mem hd)
  simp only [pricesW, List.mem_cons, List.not_mem_nil, or_false] at hx
  rcases hx with hx | hx | hx | hx | hx | hx | hx | hx <;> rw [hx]
  · exact nv_tup (by omega) h
  · exact nv_tup (by omega) h
  · exact nv_lst (by omega) h
  · exact ⟨rfl, rfl⟩
  · exact nv_tup (by have := cl (some 1) none; omega) (cm _ _)
  · exact nv_tup (by simp; omega) fun d hd => (List.mem_append.mp hd).elim (h d) fun z => by rw [List.mem_singleton.mp z]; exact ⟨rfl, rfl⟩
  · refine nv_tup (by have := cl none (some s); have := cl (some (s + 1)) none; simp; omega) fun d hd => ?_
    simp only [List.mem_append, List.mem_cons, List.not_mem_nil, or_false] at hd
    rcases hd with (hd | hd) | hd
    · exact cm _ _ d hd
    · rw [hd]; exact hc
    · exact cm _ _ d hd
  · exact ⟨rfl, rfl⟩
theorem otherW_ok {nm : List D} (h : ∀ d ∈ nm, Ok2 d) (hl : nm.length ≤ 8) : ∀ x ∈ otherW nm, Rv2 x := by
  intro x hx
  simp only [otherW, List.mem_cons, List.not_mem_nil, or_false] at hx
  rcases hx with hx | hx | hx | hx | hx | hx | hx | hx | hx <;> rw [hx]
  · exact ⟨rfl, pl_lst (by omega) fun d hd => (h d hd).2⟩
  · exact ⟨by decide, by decide⟩
  · exact rv2_tup (by simp; omega) fun d hd => (List.mem_append.mp hd).elim (h d) (h d)
  · exact rv2_tup (by rw [List.length_reverse, srt_len]; omega) fun d hd => h d (srt_mem (List.mem_reverse.mp hd))
  · exact ⟨by decide, rfl⟩
  · exact ⟨rfl, rfl⟩
  · exact ⟨by decide, by decide⟩
  · exact ⟨rfl, rfl⟩
  · exact ⟨by decide, by decide⟩
theorem clausW_ok {C : List D} (h : ∀ d ∈ C, Rv2 d) (hl : C.length ≤ 256) {p : Int} {o : D} (ho : Rv2 o) : ∀ x ∈ clausW C p o, Cv x := by
  intro x hx
  have cl := fun lo hi => cut_len C lo hi
  have cm : ∀ lo hi, ∀ d ∈ cut C lo hi, Rv2 d := fun lo hi d hd => h d (cut_mem hd)
  have em : Rv2 (.tup []) := ⟨by decide, by decide⟩
  simp only [clausW, List.mem_cons, List.not_mem_nil, or_false] at hx
  rcases hx with hx | hx | hx | hx | hx | hx | hx <;> rw [hx]
  · exact cv_tup2 (by omega) h
  · exact cv_lst2 (by omega) h
  · exact ⟨rfl, rfl⟩
  · refine cv_tup2 (by have := cl none (some p); have := cl (some p) none; simp; omega) fun d hd => ?_
    simp only [List.mem_append, List.mem_cons, List.not_mem_nil, or_false] at hd
    rcases hd with (hd | hd) | hd
    · exact cm _ _ d hd
    · rw [hd]; exact ho
    · exact cm _ _ d hd
  · exact cv_tup2 (by rw [(flat_one 257 _).1]; decide) fun d hd => by rw [(flat_one 257 _).2 d hd]; exact em
  · exact cv_tup2 (by rw [(flat_one 256 _).1]; decide) fun d hd => by rw [(flat_one 256 _).2 d hd]; exact em
  · exact cv_tup2 (by rw [(flat_one 257 _).1]; decide) fun d hd => by rw [(flat_one 257 _).2 d hd]; exact ho
theorem wrong_ok (n : Nat) (nm W C ds : List D) (hn : Strs nm) (h1 : ∀ d ∈ nm, Ok2 d) (hl : nm.length ≤ 8) (h2 : ∀ d ∈ W, Ok2 d) (hw : W.length ≤ 8) (h3 : ∀ d ∈ C, Rv2 d) (hC : C.length ≤ 256) (il : IL 7 5040 ds) :
    ∃ R P K, callD tab.g (n + 1) N__law_wrong [.tup nm, .tup W, .tup C, .lst ds] = .ok (.sh, .tup [R, P, K]) ∧ Nv R ∧ Nv P ∧ Cv K := by
  obtain ⟨v0, a0, v00, v01⟩ := il.at 0 (by decide)
  obtain ⟨v1, a1, v10, v11⟩ := il.at 1 (by decide)
  obtain ⟨v2, a2, v20, v21⟩ := il.at 2 (by decide)
  obtain ⟨v3, a3, v30, v31⟩ := il.at 3 (by decide)
  obtain ⟨v4, a4, v40, v41⟩ := il.at 4 (by decide)
  obtain ⟨v5, a5, v50, v51⟩ := il.at 5 (by decide)
  obtain ⟨v6, a6, v60, v61⟩ := il.at 6 (by decide)
  have a0 : L2.atI ds 0 = some (.int v0) := a0
  have a1 : L2.atI ds 1 = some (.int v1) := a1
  have a2 : L2.atI ds 2 = some (.int v2) := a2
  have a3 : L2.atI ds 3 = some (.int v3) := a3
  have a4 : L2.atI ds 4 = some (.int v4) := a4
  have a5 : L2.atI ds 5 = some (.int v5) := a5
  have a6 : L2.atI ds 6 = some (.int v6) := a6
  have m0 := mod_ii v0 ((nm.length : Int) + 1) (by omega)
  have m2 := mod_ii v2 ((W.length : Int) + 1) (by omega)
  have m5 := mod_ii v5 ((C.length : Int) + 1) (by omega)
  generalize v0 % ((nm.length : Int) + 1) = at_ at m0
  generalize v2 % ((W.length : Int) + 1) = spot at m2
  generalize v5 % ((C.length : Int) + 1) = place at m5
  have b1 := modP v1 (show (0 : Int) < 10 by decide)
  have b3 := modP v3 (show (0 : Int) < 8 by decide)
  have b4 := modP v4 (show (0 : Int) < 9 by decide)
  have b6 := modP v6 (show (0 : Int) < 12 by decide)
  have b7 := modP (v6 / 12) (show (0 : Int) < 8 by decide)
  have b8 := modP (v6 / 96) (show (0 : Int) < 7 by decide)
  obtain ⟨bad, hbad, bo⟩ := atI_P (l := badsD) (i := v1 % 10) (P := Ok2) bads_ok b1.1 b1.2
  obtain ⟨cost, hcost, co⟩ := atI_P (l := costW) (i := v3 % 8) (P := Ok2) costW_ok b3.1 b3.2
  obtain ⟨other, hoth, oo⟩ := atI_P (l := otherW nm) (i := v4 % 9) (P := Rv2) (otherW_ok h1 hl) b4.1 b4.2
  obtain ⟨R, hR, Ro⟩ := atI_P (l := rowsW nm at_ bad) (i := v6 % 12) (P := Nv) (rowsW_ok h1 hl bo) b6.1 b6.2
  obtain ⟨P, hP, Po⟩ := atI_P (l := pricesW W spot cost) (i := v6 / 12 % 8) (P := Nv) (pricesW_ok h2 hw co) b7.1 b7.2
  obtain ⟨K, hK, Ko⟩ := atI_P (l := clausW C place other) (i := v6 / 96 % 7) (P := Cv) (clausW_ok h3 hC oo) b8.1 b8.2
  refine ⟨R, P, K, ?_, Ro, Po, Ko⟩
  rw [c__law_wrong, b__law_wrong]
  have z1 := szL_of (show 1 ≤ 1000000 by decide)
  have z3 := szL_of (show 3 ≤ 1000000 by decide)
  have z7 := szL_of (show 7 ≤ 1000000 by decide)
  have z8 := szL_of (show 8 ≤ 1000000 by decide)
  have z9 := szL_of (show 9 ≤ 1000000 by decide)
  have z10 := szL_of (show 10 ≤ 1000000 by decide)
  have z2 := szL_of (show 2 ≤ 1000000 by decide)
  have cln := fun lo hi => cut_len nm lo hi
  have clw := fun lo hi => cut_len W lo hi
  have clc := fun lo hi => cut_len C lo hi
  have sqt : ∀ l, seqOf (.tup l) = some l := fun _ => rfl
  have sq : ∀ l, biD .tuple [.lst l] = .ok (.tup l) := fun _ => rfl
  have lq : ∀ l, biD .list [.tup l] = .ok (.lst l) := fun _ => rfl
  have hbad : L2.atI [D.str N_x, .str N_A, .str N_2a, .str N_x97_32_98, .str N_abcdefghijklm, .non, .int 3, .bl true, .tup [.str N_a], .lst [.str N_a]] (v1 % 10) = some bad := hbad
  have lc9 : ∀ s4 s5, ev tab.g (cal tab.g n) (.lc (.bin .add (.var 7) (.str N_98)) (.nm 7) (.it (.str N_abcdefghi)) .none) [some (.sh, .tup nm), some (.sh, .tup W), some (.sh, .tup C), some (.sh, .lst ds), s4, s5, none, none, none, none, none, none, none, none, none, none] = .ok (.o1, .lst nineD) := fun s4 s5 => by
    refine lc_all (α := Nat) nines (fun c => .str (sg [c])) (fun c => .str (sg ([c] ++ [57, 56]))) (o := (.sh, .str N_abcdefghi)) (by rw [items_it, ev_str, N_ai]; simp only [S2.R.ok_bind]; rw [itD_str]) (by decide) fun c hc => ⟨_, rfl, ?_⟩
    simp [N_98e, add_str (a := [c]) (b := [57, 56]) (by simp)]
  have n9 : hasLs nineD = false := noLs fun d hd => by obtain ⟨c, _, rfl⟩ := List.mem_map.mp hd; simp
  refine st (by simp [a0, m0] <;> rfl) ?_
  refine st (by simp [a1, z10, z1, hbad, listOwn] <;> rfl) ?_
  refine st (by simp [-ev_lc, lc9, n9, sq] <;> rfl) ?_
  have n8 : nineD.length = 9 := rfl
  have c91 : cut nineD none (some 1) = nineD.take 1 := cut_to nineD 1
  have c98 : cut nineD none (some 8) = nineD.take 8 := cut_to nineD 8
  have t1 : (nineD.take 1).length = 1 := rfl
  have t8 : (nineD.take 8).length = 8 := rfl
  have ad1 := add_tup (a := cut nm none (some at_)) (b := [bad]) (by have := cln none (some at_); simp; omega)
  have ad2 := add_tup (a := cut nm none (some at_) ++ [bad]) (b := cut nm (some at_) none) (by have := cln none (some at_); have := cln (some at_) none; simp; omega)
  have ad3 := add_tup (a := nineD.take 1) (b := nineD.take 8) (by omega)
  have ad4 := add_tup (a := nm) (b := cut nm none (some 1)) (by have := cln none (some 1); omega)
  have ad5 := add_tup (a := nm) (b := nineD.take 8) (by omega)
  unfold rowsW at hR
  unfold pricesW at hP
  unfold clausW at hK
  unfold otherW at hoth
  unfold costW at hcost
  generalize nineD.take 1 = e1 at *
  generalize nineD.take 8 = e8 at *
  generalize nineD = e9 at *
  refine st (by simp [z9, z1, lq, slD_tup, ad1, ad2, c91, c98, ad3, ad4] <;> rfl) ?_
  generalize hA : [D.tup nm, .tup nm, .lst nm, .non, .str N_ab, .tup (cut nm none (some at_) ++ [bad] ++ cut nm (some at_) none), .tup e9, .tup (e1 ++ e8), .tup (nm ++ cut nm none (some 1))] = A at hR
  have hA2 : [D.tup nm, .tup nm, .lst nm, .non, .str N_ab, .tup (cut nm none (some at_) ++ (bad :: cut nm (some at_) none)), .tup e9, .tup (e1 ++ e8), .tup (nm ++ cut nm none (some 1))] = A := by rw [← hA]; simp
  have lA : A.length = 9 := by rw [← hA]; rfl
  have nA : hasLs A = true := by rw [← hA]; simp
  have adA := add_lst (a := A) (b := [.tup e8, .tup (nm ++ e8), .tup (cut nm (some 1) none)]) (by simp [lA])
  refine st (by simp [hA, hA2, z3, slD_tup, c98, ad5, adA, hasLs_app, nA] <;> rfl) ?_
  generalize hB : A ++ [.tup e8, .tup (nm ++ e8), .tup (cut nm (some 1) none)] = B at hR
  have pw30 : binD .pow (.int 10) (.int 30) = .ok (.int (10 ^ 30)) := by simp only [binD]; exact if_pos (by decide)
  have wc1 := add_tup (a := W) (b := [.int 0]) (by simp; omega)
  have wc2 := add_tup (a := cut W none (some spot)) (b := [cost]) (by have := clw none (some spot); simp; omega)
  have wc3 := add_tup (a := cut W none (some spot) ++ [cost]) (b := cut W (some (spot + 1)) none) (by have := clw none (some spot); have := clw (some (spot + 1)) none; simp; omega)
  refine st (by simp [a2, m2] <;> rfl) ?_
  refine st (by simp [a3, z8, pw30] at *; simp [a3, z8, pw30, hcost] <;> rfl) ?_
  simp only [List.append_assoc, List.cons_append, List.nil_append] at wc2 wc3 hP hK
  refine st (by simp [z8, z1, lq, slD_tup, wc1, wc2, wc3] <;> rfl) ?_
  generalize hPL : [D.tup W, .tup W, .lst W, .non, .tup (cut W (some 1) none), .tup (W ++ [.int 0]), .tup (cut W none (some spot) ++ cost :: cut W (some (spot + 1)) none), .int 0] = PL at hP
  have so : biD .sorted [.tup nm] = .ok (.lst (srt nm)) := sorted_ok (row_str (by omega) hn)
  have rvl : ∀ l : List D, biD .revT [.lst l] = .ok (.tup l.reverse) := fun _ => rfl
  have nn := add_tup (a := nm) (b := nm) (by omega)
  refine st (by simp [hPL, z9, z1, lq, so, rvl, nn, listOwn, a4, hoth] <;> rfl) ?_
  refine st (by simp [a5, m5] <;> rfl) ?_
  have kc2 := add_tup (a := cut C none (some place)) (b := [other]) (by have := clc none (some place); simp; omega)
  have kc3 := add_tup (a := cut C none (some place) ++ [other]) (b := cut C (some place) none) (by have := clc none (some place); have := clc (some place) none; simp; omega)
  simp only [List.append_assoc, List.cons_append, List.nil_append] at kc3
  have mt : ∀ x : D, binD .mul (.tup [x]) (.int 257) = .ok (.tup ((List.replicate 257 [x]).flatten)) := fun x => by simp only [binD, mulD]; exact if_pos (by rfl)
  have mt2 : ∀ x : D, binD .mul (.tup [x]) (.int 256) = .ok (.tup ((List.replicate 256 [x]).flatten)) := fun x => by simp only [binD, mulD]; exact if_pos (by rfl)
  generalize hf1 : (List.replicate 257 [D.tup []]).flatten = f1 at hK
  generalize hf2 : (List.replicate 256 [D.tup []]).flatten = f2 at hK
  generalize hf3 : (List.replicate 257 [other]).flatten = f3 at hK
  have m1 := mt (.tup [])
  rw [hf1] at m1
  have m3 := mt other
  rw [hf3] at m3
  have m4 := mt2 (.tup [])
  rw [hf2] at m4
  clear mt mt2 hf1 hf2 hf3
  have z0 := szL_of (show 0 ≤ 1000000 by decide)
  refine st (by simp [z7, z1, z0, lq, slD_tup, kc2, kc3, m1, m3, m4] <;> rfl) ?_
  generalize hKL : [D.tup C, .lst C, .non, .tup (cut C none (some place) ++ other :: cut C (some place) none), .tup f1, .tup f2, .tup f3] = KL at hK
  refine st (by simp [hKL, a6] <;> rfl) ?_
  have d96 := div_ii v6 96 (by decide) (by decide)
  simp [z3, hR, hP, hK, d96]
end Lw

set_option maxHeartbeats 8000000
namespace Lw
open PySem S2
theorem names_of {l : List D} (h1 : ∀ d ∈ l, nameB d = true) (h2 : l.Nodup) : Names l := ⟨h1, fun i j hi hj hij => by
  rw [List.nodup_iff_pairwise_ne, List.pairwise_iff_getElem] at h2
  exact h2 i j hi hj hij⟩
theorem Names.perm {l m : List D} (h : Names l) (p : m.Perm l) : Names m := names_of (fun d hd => h.nm d (p.mem_iff.mp hd)) (p.nodup_iff.mpr (names_nodup h))
theorem srt_p (l : List D) : (srt l).Perm l := List.mergeSort_perm l leD
theorem srt_lt {l : List D} (h : Names l) : (srt l).Pairwise fun a b => W.dataLt (py a) (py b) = true := by
  have h1 : (srt l).Pairwise fun a b => leD a b = true := List.pairwise_mergeSort leD_trans leD_total l
  have h2 : (srt l).Nodup := (srt_p l).nodup_iff.mpr (names_nodup h)
  have inj := inj_strs (l := srt l) (fun d hd => h.strs d (srt_mem hd))
  rw [List.nodup_iff_pairwise_ne] at h2
  refine List.Pairwise.imp_of_mem (R := fun a b => leD a b = true ∧ a ≠ b) (fun {a b} ha hb hr => ?_) (h1.and h2)
  cases e : W.dataLt (py a) (py b) with
  | true => rfl
  | false =>
    have h3 : leD b a = true := by unfold leD; rw [e]; rfl
    exact absurd (inj a ha b hb (leD_tok hr.1 h3)) hr.2
theorem chain_of : ∀ {l : List D}, (l.Pairwise fun a b => W.dataLt (py a) (py b) = true) → chainB l = true
  | [], _ => rfl
  | [_], _ => rfl
  | a :: b :: r, h => by
    show (W.dataLt (py a) (py b) && chainB (b :: r)) = true
    rw [List.rel_of_pairwise_cons h List.mem_cons_self, chain_of (List.Pairwise.of_cons h)]
    rfl
theorem sub_rings {al row h : List D} (hN : Names al) (e : srt al = row) (s : h.Sublist row) : ringsB al (.tup h) = true := by
  show (h.all (okR al) && chainB h) = true
  rw [Bool.and_eq_true, List.all_eq_true]
  subst e
  refine ⟨fun x hx => ?_, chain_of ((srt_lt hN).sublist s)⟩
  have hm : x ∈ al := srt_mem (s.subset hx)
  obtain ⟨z, rfl⟩ := hN.strs x hm
  unfold okR
  rw [(inL_str hN.strs).mpr hm]
  rfl
theorem clF_none {al : List D} {cs : List (List D)} (hl : cs.length ≤ 256) (h : ∀ c ∈ cs, ringsB al (.tup c) = true) : clF al (.tup (cs.map D.tup)) = none := by
  have e : (upto 0 (cs.map D.tup).length).find? (clP al (cs.map D.tup)) = none := by
    rw [List.find?_eq_none]
    intro x hx
    obtain ⟨k, rfl, hk⟩ := upto_mem hx
    unfold clP
    rw [item_at hk, List.getElem_map, h _ (List.getElem_mem _)]
    decide
  simp only [clF]
  rw [if_neg (by simp; omega), e]
theorem due_pl {which : Nat} {v costs w : D} {f : Flt} (h : faultOf which v costs w = some f) (hv : pl 4 v = true) : pl 5 f.due = true := by
  have two : ∀ (a b : D), pl 4 a = true → pl 4 b = true → pl 5 (.tup [a, b]) = true := fun a b h1 h2 => pl_tup (by simp) fun d hd => by
    simp at hd
    rcases hd with rfl | rfl
    · exact h1
    · exact h2
  cases f with
  | nm r =>
    have hr : namesR v 8 = r ∨ ∃ q : Option Flt, q = some (.nm r) ∧ (q = some .wt ∨ ∃ al w, q = clF al w) := by
      unfold faultOf at h
      split at h
      · split at h
        · exact .inr ⟨_, rfl, .inl h.symm⟩
        · exact .inr ⟨_, rfl, .inr ⟨_, _, h.symm⟩⟩
      · injection h with h; injection h with h; exact .inl h
    rcases hr with hr | ⟨q, hq, hr⟩
    · cases v with
      | tup l =>
        simp only [namesR] at hr
        obtain ⟨_, hl⟩ := tup_pl hv
        split at hr
        · rename_i x e1
          subst hr
          exact two _ _ (pl_str _ _) (pl_up 3 (hl _ (List.mem_of_find?_eq_some e1)))
        · split at hr
          · subst hr; exact two _ _ (pl_str _ _) (pl_int _ _)
          · split at hr
            · rename_i k e2
              subst hr
              obtain ⟨i, rfl, hi⟩ := upto_mem (List.mem_of_find?_eq_some e2)
              refine two _ _ (pl_str _ _) ?_
              rw [item_at hi]
              exact pl_up 3 (hl _ (List.getElem_mem hi))
            · subst hr; rfl
      | _ => simp only [namesR] at hr; subst hr; exact two _ _ (pl_str _ _) hv
    · rcases hr with hr | ⟨al, w, hr⟩
      · rw [hr] at hq; cases hq
      · rw [hr] at hq
        cases w with
        | tup l =>
          simp only [clF] at hq
          split at hq
          · cases hq
          · split at hq <;> cases hq
        | _ => simp only [clF] at hq; cases hq
  | wt => exact pl_tup (by simp) (by simp [pl_str])
  | many => exact two _ _ (pl_str _ _) (pl_int _ _)
  | cl k => exact two _ _ (pl_str _ _) (pl_int _ _)
theorem due_len (f : Flt) (h : f ≠ .nm .fine) : ∃ l, f.due = .tup l ∧ 0 < l.length := by
  cases f with
  | nm r => cases r with
    | fine => exact absurd rfl h
    | _ => exact ⟨_, rfl, by simp⟩
  | _ => exact ⟨_, rfl, by simp⟩
theorem fault_not {which : Nat} {v costs w : D} {f : Flt} (h : faultOf which v costs w = some f) : f ≠ .nm .fine := by
  unfold faultOf at h
  split at h
  · split at h
    · cases h; simp
    · exact clF_not h
  · rename_i hf
    injection h with h
    subst h
    intro z
    injection z with z
    exact hf z
/-- one question with wrong arguments -/
theorem turn2_ok (n which : Nat) (hw : which = 0 ∨ which = 1) (R P K : D) (hR : Nv R) (hP : Nv P) (hK : Cv K) (ns : List Int) (hd row ds nms W cells C Ls least : List D) (many count k : Int) (best : D) (o17 : Own) (h17 : o17 = .o1 ∨ o17 = .sh) (tl : List D) (s11 s12 s14 s21 s22 : S2.Slot) :
    ∃ t21 t22, exs tab.g (cal tab.g (n + 12)) L_law_2 [some (.sh, .scr ns), some (.o1, .lst hd), some (.sh, .int many), some (.sh, .int count), some (.o1, .lst row), some (.o1, .lst ds), some (.sh, .tup nms), some (.sh, .tup W), some (.sh, .int k), some (.o1, .lst cells), some (.sh, .tup C), s11, s12, some (.sh, .lst Ls), s14, some (.sh, .tup least), some (.sh, best), some (o17, .lst tl), some (.sh, .tup [R, P, K]), some (.sh, .tup [R, P, K]), some (.sh, .int (which : Int)), s21, s22] =
      .nx [some (.sh, .scr ns), some (.o1, .lst hd), some (.sh, .int many), some (.sh, .int count), some (.o1, .lst row), some (.o1, .lst ds), some (.sh, .tup nms), some (.sh, .tup W), some (.sh, .int k), some (.o1, .lst cells), some (.sh, .tup C), s11, s12, some (.sh, .lst Ls), s14, some (.sh, .tup least), some (.sh, best), some (o17, .lst tl), some (.sh, .tup [R, P, K]), some (.sh, .tup [R, P, K]), some (.sh, .int (which : Int)), t21, t22] := by
  have du := law_due_ok (n + 9) which hw R P K hR.1 hP.1 hK.1
  have an := answer_ok (n + 6) which hw R P K hR.1 hP.1 hK.1
  have i0 : L2.atI [R, P, K] 0 = some R := rfl
  have i1 : L2.atI [R, P, K] 1 = some P := rfl
  have i2 : L2.atI [R, P, K] 2 = some K := rfl
  have sm3 : callD tab.g (n + 12) N__law_same [.tup [R, P, K], .tup [R, P, K]] = .ok (.sh, .bl true) := same_pl 5 (pl_tup (by simp) fun d hd => by
    simp at hd
    rcases hd with rfl | rfl | rfl
    · exact hR.2
    · exact hP.2
    · exact hK.2) (n + 1)
  have z1 := szL_of (show 1 ≤ 1000000 by decide)
  have fz : ∀ (is : List (Nat × Bool)) (j : Nat) (s : S2.Slot), is.contains (j, true) = false → is.contains (j, false) = false → frzS is j s = s := fun is j s h1 h2 => frzS_no h1 h2
  have e11 : ∀ is, (is = [(20, true), (19, false), (19, false), (19, false)] ∨ is = [(20, true), (18, false), (18, false), (18, false)]) → frzS is 11 s11 = s11 ∧ frzS is 12 s12 = s12 ∧ frzS is 14 s14 = s14 ∧ frzS is 21 s21 = s21 ∧ frzS is 22 s22 = s22 := fun is h => by
    rcases h with rfl | rfl <;> exact ⟨frzS_no rfl rfl, frzS_no rfl rfl, frzS_no rfl rfl, frzS_no rfl rfl, frzS_no rfl rfl⟩
  obtain ⟨a1, a2, a3, a4, a5⟩ := e11 _ (.inl rfl)
  obtain ⟨c1, c2, c3, c4, c5⟩ := e11 _ (.inr rfl)
  rcases an with ⟨f, hf, an⟩ | ⟨hf, d, hd0, an⟩
  · rw [hf] at du
    obtain ⟨l, el, l0⟩ := due_len f (fault_not hf)
    have sm := same_pl 5 (due_pl hf hR.2) (n + 1)
    have du : callD tab.g (n + 12) N__law_due [.int (which : Int), R, P, K] = .ok (.sh, f.due) := du
    rw [el] at du an sm
    have g1 : ¬ (l.length : Int) = 0 := by omega
    have g2 : (0 : Int) < (l.length : Int) := by omega
    have hl : l ≠ [] := fun z => by rw [z] at l0; simp at l0
    refine ⟨some (.sh, .tup l), some (.sh, .tup l), ?_⟩
    rcases h17 with rfl | rfl <;> cases z : hasLs l <;> simp [L_law_2, i0, i1, i2, du, an, sm, sm3, g1, g2, l0, hl, z, a1, a2, a3, a4, a5, c1, c2, c3, c4, c5]
  · rw [hf] at du
    have du : callD tab.g (n + 12) N__law_due [.int (which : Int), R, P, K] = .ok (.sh, .tup []) := du
    have ct : cut [D.str N_told, d] none (some 1) = [.str N_told] := cut_to [D.str N_told, d] 1
    have sm := same_pl 1 (d := .tup [.str N_told]) (by decide) (n + 9)
    refine ⟨some (.sh, .tup []), some (.sh, .tup [.str N_told, d]), ?_⟩
    rcases h17 with rfl | rfl <;> simp [L_law_2, i0, i1, i2, du, an, sm, sm3, slD_tup, ct, z1, hd0, a1, a2, a3, a4, a5, c1, c2, c3, c4, c5]
end Lw

set_option maxHeartbeats 16000000
namespace Lw
open PySem S2
theorem ringsB_sub {nms row c : List D} (hN : Names nms) (e : srt nms = row) (s : c.Sublist row) : ringsB nms (.tup c) = true := sub_rings hN e s
theorem rv_sub {row c : List D} (hR : ∀ d ∈ row, Ok2 d) (hl : row.length ≤ 8) (s : c.Sublist row) : Rv2 (.tup c) := rv2_tup (by have := s.length_le; omega) fun d hd => hR d (s.subset hd)
/-- one clause is drawn -/
theorem clause_ok (n : Nat) {row cells hd : List D} (hr : Strs row) (hl : row.length ≤ 8) (ih : IL 8 5040 hd) (ic : IL 24 65536 cells) (ns : List Int) (many count : Int) (ds nms W : List D) (k : Nat) (cs : List (List D)) (hk : cs.length ≤ 256) (s11 s12 : S2.Slot) :
    ∃ c : List D, c.Sublist row ∧ ∃ t11 t12, exs tab.g (cal tab.g (n + 1)) L_law_0 [some (.sh, .scr ns), some (.o1, .lst hd), some (.sh, .int many), some (.sh, .int count), some (.o1, .lst row), some (.o1, .lst ds), some (.sh, .tup nms), some (.sh, .tup W), some (.sh, .int (k : Int)), some (.o1, .lst cells), some (.o1, .lst (cs.map D.tup)), s11, s12, none, none, none, none, none, none, none, none, none, none] =
      .nx [some (.sh, .scr ns), some (.o1, .lst hd), some (.sh, .int many), some (.sh, .int count), some (.o1, .lst row), some (.o1, .lst ds), some (.sh, .tup nms), some (.sh, .tup W), some (.sh, .int (k : Int)), some (.o1, .lst cells), some (.o1, .lst ((cs ++ [c]).map D.tup)), t11, t12, none, none, none, none, none, none, none, none, none, none] := by
  obtain ⟨cell, ac, c0, c1⟩ := ic.at (k % 24) (Nat.mod_lt _ (by decide))
  have ac : L2.atI cells ((k : Int) % 24) = some (.int cell) := by rw [← ac]; congr 1
  obtain ⟨g4, ag, g0, g1⟩ := ih.at 4 (by decide)
  have ag : L2.atI hd 4 = some (.int g4) := ag
  have m1 := mod_ii (k : Int) 24 (by decide)
  have m2 := mod_ii cell 256 (by decide)
  have m3 := mod_ii (cell / 256) 256 (by decide)
  have d1 := div_ii cell 256 (by decide) (by decide)
  have d2 := div_ii (k : Int) 24 (by decide) (by decide)
  have z3 := szL_of (show 3 ≤ 1000000 by decide)
  have b3 := modP (g4 / 3) (show (0 : Int) < 3 by decide)
  have bc := modP cell (show (0 : Int) < 256 by decide)
  have bd := modP (cell / 256) (show (0 : Int) < 256 by decide)
  have be := modP cell (show (0 : Int) < 3 by decide)
  obtain ⟨v, hv, v0⟩ := atI_lits [cell % 256, 1 + cell % 3, cell % 256 + cell / 256 % 256] (g4 / 3 % 3) b3.1 (by simpa using b3.2) (fun v => 0 ≤ v) (by
    intro x hx
    simp at hx
    rcases hx with rfl | rfl | rfl <;> omega)
  have hv : L2.atI [D.int (cell % 256), .int (1 + cell % 3), .int (cell % 256 + cell / 256 % 256)] (g4 / 3 % 3) = some (.int v) := hv
  have key : ∀ code : Int, 0 ≤ code → callD tab.g (n + 1) N__law_chosen [.lst row, .int code] = .ok (.sh, .tup (chosenL row code.toNat)) := fun code h => by
    have := chosen_ok n row hr (by omega) (.lst row) (.inr rfl) code.toNat
    rwa [Int.toNat_of_nonneg h] at this
  have sz := szL_lt (show cs.length ≤ 1000000 by omega)
  have nl : ∀ c, hasLs (chosenL row c) = false := fun c => noL_strs (hr.sub fun x hx => (chosenL_sub row c).subset hx)
  by_cases h : 0 < g4 % 3
  · have ck := key (v + (k : Int) / 24) (by omega)
    refine ⟨_, chosenL_sub row (v + (k : Int) / 24).toNat, some (.sh, .int cell), some (.sh, .int (v + (k : Int) / 24)), ?_⟩
    have nk := nl (v + (k : Int) / 24).toNat
    generalize chosenL row (v + (k : Int) / 24).toNat = c at ck nk
    simp [L_law_0, m1, ac, d1, m3, ag, h, m2, z3, listOwn, hv, d2, ck, nk, sz]
  · have ck := key (cell / 256 % 256) bd.1
    refine ⟨_, chosenL_sub row (cell / 256 % 256).toNat, some (.sh, .int cell), some (.sh, .int (cell / 256 % 256)), ?_⟩
    have nk := nl (cell / 256 % 256).toNat
    generalize chosenL row (cell / 256 % 256).toNat = c at ck nk
    simp [L_law_0, m1, ac, d1, m3, ag, h, ck, nk, sz]
theorem law_ok (n : Nat) (ns : List Int) : callD tab.g (n + 13) N_law [.scr ns] = .ok (.sh, .bl true) := by
  rw [c_law, b_law]
  obtain ⟨i0, c0⟩ := cell_ok (n + 11) ns 0 (by decide)
  obtain ⟨i1, c1⟩ := cell_ok (n + 11) ns 1 (by decide)
  obtain ⟨i2, c2⟩ := cell_ok (n + 11) ns 2 (by decide)
  obtain ⟨i3, c3⟩ := cell_ok (n + 11) ns 3 (by decide)
  obtain ⟨hd, d0, hdl, ih⟩ := digits_ok (n + 11) i0 5040 1 8 (by decide) (by decide) (by decide)
  obtain ⟨ds, d2, dsl, il⟩ := digits_ok (n + 11) i2 5040 3 16 (by decide) (by decide) (by decide)
  obtain ⟨cells, d3, cll, ic⟩ := digits_ok (n + 11) i3 65536 4 24 (by decide) (by decide) (by decide)
  have d0 : callD tab.g (n + 12) N__law_digits [.int i0, .int 8, .int 5040, .int 1] = .ok (.o1, .lst hd) := d0
  have d2 : callD tab.g (n + 12) N__law_digits [.int i2, .int 16, .int 5040, .int 3] = .ok (.o1, .lst ds) := d2
  have d3 : callD tab.g (n + 12) N__law_digits [.int i3, .int 24, .int 65536, .int 4] = .ok (.o1, .lst cells) := d3
  have nhd := nolI ih
  have nds := nolI il
  have nce := nolI ic
  obtain ⟨g0, ag0, g00, g01⟩ := ih.at 0 (by decide)
  obtain ⟨g1, ag1, g10, g11⟩ := ih.at 1 (by decide)
  obtain ⟨g2, ag2, g20, g21⟩ := ih.at 2 (by decide)
  obtain ⟨g3, ag3, g30, g31⟩ := ih.at 3 (by decide)
  have ag0 : L2.atI hd 0 = some (.int g0) := ag0
  have ag1 : L2.atI hd 1 = some (.int g1) := ag1
  have ag2 : L2.atI hd 2 = some (.int g2) := ag2
  have ag3 : L2.atI hd 3 = some (.int g3) := ag3
  refine st (by simp [c0, d0, nhd] <;> rfl) ?_
  refine st (by simp [ag0] <;> rfl) ?_
  refine st (by simp [ag1] <;> rfl) ?_
  obtain ⟨many, m8, em⟩ : ∃ many : Nat, many ≤ 8 ∧ (if g2 % 8 = 0 then 6 + g0 % 3 else g0 % 6) = (many : Int) := by
    have b1 := modP g0 (show (0 : Int) < 6 by decide)
    have b2 := modP g0 (show (0 : Int) < 3 by decide)
    split
    · exact ⟨(6 + g0 % 3).toNat, by omega, by omega⟩
    · exact ⟨(g0 % 6).toNat, by omega, by omega⟩
  obtain ⟨count, ct8, ec⟩ : ∃ count : Nat, count ≤ 256 ∧ (if g2 % 8 = 0 then g1 % 7 else if g2 % 8 = 1 then 60 + g1 % 197 else g1 % 7) = (count : Int) := by
    have b1 := modP g1 (show (0 : Int) < 7 by decide)
    have b2 := modP g1 (show (0 : Int) < 197 by decide)
    split
    · exact ⟨(g1 % 7).toNat, by omega, by omega⟩
    · split
      · exact ⟨(60 + g1 % 197).toNat, by omega, by omega⟩
      · exact ⟨(g1 % 7).toNat, by omega, by omega⟩
  have m197 := mod_ii g1 197 (by decide)
  refine st (env' := [some (.sh, .scr ns), some (.o1, .lst hd), some (.sh, .int (many : Int)), some (.sh, .int (count : Int)), none, none, none, none, none, none, none, none, none, none, none, none, none, none, none, none, none, none, none]) (by
    by_cases z : g2 % 8 = 0
    · rw [if_pos z] at em ec; rw [← em, ← ec]; simp [ag2, ag0, z]
    · rw [if_neg z] at em ec
      by_cases z1 : g2 % 8 = 1
      · rw [if_pos z1] at ec; rw [← em, ← ec]; simp [ag2, ag1, z1, m197]
      · rw [if_neg z1] at ec; rw [← em, ← ec]; simp [ag2, z, z1]) ?_
  obtain ⟨raw, nmk, rlen, hraw⟩ := names_ok (n + 10) i1 many (by omega)
  have nmk : callD tab.g (n + 12) N__law_names [.int i1, .int (many : Int)] = .ok (.o1, .lst raw) := nmk
  generalize hrow : srt raw = row
  have hR : Names row := by rw [← hrow]; exact hraw.perm (srt_p raw)
  have rl : row.length = many := by rw [← hrow, srt_len]; exact rlen
  have srow : srt row = row := by
    rw [← hrow]
    exact srt_perm (srt_p raw) (inj_strs fun d hd => hraw.strs d (srt_mem hd))
  have so : biD .sorted [.lst raw] = .ok (.lst row) := by rw [← hrow]; exact sorted_ok (row_str (by omega) hraw.strs)
  have nrow := noL_strs hR.strs
  refine st (env' := [some (.sh, .scr ns), some (.o1, .lst hd), some (.sh, .int (many : Int)), some (.sh, .int (count : Int)), some (.o1, .lst row), none, none, none, none, none, none, none, none, none, none, none, none, none, none, none, none, none, none]) (by simp [c1, nmk, so, nrow]) ?_
  refine st (env' := [some (.sh, .scr ns), some (.o1, .lst hd), some (.sh, .int (many : Int)), some (.sh, .int (count : Int)), some (.o1, .lst row), some (.o1, .lst ds), none, none, none, none, none, none, none, none, none, none, none, none, none, none, none, none, none]) (by simp [c2, d2, nds]) ?_
  obtain ⟨nms, sf, np⟩ := shuf_ok (n + 11) (.lst row) row ds rfl rfl (by omega) (by omega) il.2
  have sf : callD tab.g (n + 12) N__law_shuffled [.lst row, .lst ds] = .ok (.o1, .lst nms) := sf
  have hN : Names nms := hR.perm np
  have nl : nms.length = many := by rw [np.length_eq, rl]
  have snms : srt nms = row := by rw [srt_perm np (inj_strs hN.strs), srow]
  have nnms := noL_strs hN.strs
  have sq : ∀ l, biD .tuple [.lst l] = .ok (.tup l) := fun _ => rfl
  refine st (env' := [some (.sh, .scr ns), some (.o1, .lst hd), some (.sh, .int (many : Int)), some (.sh, .int (count : Int)), some (.o1, .lst row), some (.o1, .lst ds), some (.sh, .tup nms), none, none, none, none, none, none, none, none, none, none, none, none, none, none, none, none]) (by simp [sf, sq, nnms]) ?_
  -- the costs
  have z2 := szL_of (show 2 ≤ 1000000 by decide)
  have z1 := szL_of (show 1 ≤ 1000000 by decide)
  have b32 := modP g3 (show (0 : Int) < 2 by decide)
  obtain ⟨mo, hmo, mo0⟩ := atI_lits [4, 1001] (g3 % 2) b32.1 (by simpa using b32.2) (fun v => 0 < v ∧ v ≤ 1001) (by decide)
  have hmo : L2.atI [D.int 4, .int 1001] (g3 % 2) = some (.int mo) := hmo
  obtain ⟨wd, elc, wl, wp⟩ := lc_rix (g := tab.g) (C := cal tab.g (n + 12)) (elt := .bin .mod (.bi .int (.cons (.ix (.var 5) (.bin .add (.int 8) (.var 8))) .nil)) (.ix (.lst (.cons (.int 4) (.cons (.int 1001) .nil))) (.bin .mod (.bi .int (.cons (.ix (.var 1) (.int 3)) .nil)) (.int 2)))) (a := .var 2) (i := 8) (n := many) (o := .sh) (P := fun _ y => ∃ w : Int, y = .int w ∧ 0 ≤ w ∧ w ≤ 1000)
    (env := [some (.sh, .scr ns), some (.o1, .lst hd), some (.sh, .int (many : Int)), some (.sh, .int (count : Int)), some (.o1, .lst row), some (.o1, .lst ds), some (.sh, .tup nms), none, none, none, none, none, none, none, none, none, none, none, none, none, none, none, none]) (by simp) (by omega) fun k hk => by
      obtain ⟨v, av, v0, v1⟩ := il.at2 8 k (by omega)
      have av : L2.atI ds (8 + (k : Int)) = some (.int v) := av
      have mm := mod_ii v mo mo0.1
      have bm := modP v mo0.1
      exact ⟨.int (v % mo), by simp [av, ag3, z2, listOwn, hmo, mm], _, rfl, bm.1, by omega⟩
  obtain ⟨ws, rfl, hws⟩ : ∃ ws : List Int, wd = ws.map D.int ∧ ∀ w ∈ ws, 0 ≤ w ∧ w ≤ 1000 := by
    have all : ∀ y ∈ wd, ∃ w : Int, y = .int w ∧ 0 ≤ w ∧ w ≤ 1000 := fun y hy => by
      obtain ⟨k, hk, rfl⟩ := List.getElem_of_mem hy
      exact wp k hk
    clear elc wl wp
    induction wd with
    | nil => exact ⟨[], rfl, by simp⟩
    | cons a wd ih =>
      obtain ⟨w, rfl, h⟩ := all a List.mem_cons_self
      obtain ⟨ws, e, hw⟩ := ih fun y hy => all y (List.mem_cons_of_mem _ hy)
      exact ⟨w :: ws, by rw [e]; rfl, fun x hx => (List.mem_cons.mp hx).elim (fun z => by rw [z]; exact h) (hw x)⟩
  have lw : ws.length = nms.length := by simp at wl; omega
  have cok : costsB nms.length (.tup (ws.map .int)) = true := by
    show (((ws.map D.int).all fun x => inB x 0 1000) && decide ((ws.map D.int).length = nms.length)) = true
    rw [Bool.and_eq_true, List.all_eq_true]
    refine ⟨fun x hx => ?_, by simp [lw]⟩
    obtain ⟨w, hw, rfl⟩ := List.mem_map.mp hx
    obtain ⟨h1, h2⟩ := hws w hw
    rw [inB_int, decide_eq_true h1, decide_eq_true h2]; rfl
  refine st (env' := [some (.sh, .scr ns), some (.o1, .lst hd), some (.sh, .int (many : Int)), some (.sh, .int (count : Int)), some (.o1, .lst row), some (.o1, .lst ds), some (.sh, .tup nms), some (.sh, .tup (ws.map .int)), none, none, none, none, none, none, none, none, none, none, none, none, none, none, none]) (by simp [-ev_lc, elc, sq]) ?_
  refine st (env' := [some (.sh, .scr ns), some (.o1, .lst hd), some (.sh, .int (many : Int)), some (.sh, .int (count : Int)), some (.o1, .lst row), some (.o1, .lst ds), some (.sh, .tup nms), some (.sh, .tup (ws.map .int)), none, some (.o1, .lst cells), none, none, none, none, none, none, none, none, none, none, none, none, none]) (by simp [c3, d3, nce]) ?_
  refine st (env' := [some (.sh, .scr ns), some (.o1, .lst hd), some (.sh, .int (many : Int)), some (.sh, .int (count : Int)), some (.o1, .lst row), some (.o1, .lst ds), some (.sh, .tup nms), some (.sh, .tup (ws.map .int)), none, some (.o1, .lst cells), some (.o1, .lst []), none, none, none, none, none, none, none, none, none, none, none, none]) (by simp) ?_
  -- the clauses
  have rc := rng_nat (show count ≤ 1000000 by omega)
  obtain ⟨cs, s8, s11, s12, csl, csub, ecs⟩ : ∃ (cs : List (List D)) (s8 s11 s12 : S2.Slot), cs.length = count ∧ (∀ c ∈ cs, c.Sublist row) ∧ forL (fun x env' => exs tab.g (cal tab.g (n + 12)) L_law_0 (List.set env' 8 (some (.sh, x)))) (upto 0 count) [some (.sh, .scr ns), some (.o1, .lst hd), some (.sh, .int (many : Int)), some (.sh, .int (count : Int)), some (.o1, .lst row), some (.o1, .lst ds), some (.sh, .tup nms), some (.sh, .tup (ws.map .int)), none, some (.o1, .lst cells), some (.o1, .lst []), none, none, none, none, none, none, none, none, none, none, none, none] =
      .nx [some (.sh, .scr ns), some (.o1, .lst hd), some (.sh, .int (many : Int)), some (.sh, .int (count : Int)), some (.o1, .lst row), some (.o1, .lst ds), some (.sh, .tup nms), some (.sh, .tup (ws.map .int)), s8, some (.o1, .lst cells), some (.o1, .lst (cs.map D.tup)), s11, s12, none, none, none, none, none, none, none, none, none, none] := by
    refine forL_up (Post := fun out => ∃ (cs : List (List D)) (s8 s11 s12 : S2.Slot), cs.length = count ∧ (∀ c ∈ cs, c.Sublist row) ∧ out = .nx [some (.sh, .scr ns), some (.o1, .lst hd), some (.sh, .int (many : Int)), some (.sh, .int (count : Int)), some (.o1, .lst row), some (.o1, .lst ds), some (.sh, .tup nms), some (.sh, .tup (ws.map .int)), s8, some (.o1, .lst cells), some (.o1, .lst (cs.map D.tup)), s11, s12, none, none, none, none, none, none, none, none, none, none])
      (fun k env => ∃ (cs : List (List D)) (s8 s11 s12 : S2.Slot), cs.length = k ∧ (∀ c ∈ cs, c.Sublist row) ∧ env = [some (.sh, .scr ns), some (.o1, .lst hd), some (.sh, .int (many : Int)), some (.sh, .int (count : Int)), some (.o1, .lst row), some (.o1, .lst ds), some (.sh, .tup nms), some (.sh, .tup (ws.map .int)), s8, some (.o1, .lst cells), some (.o1, .lst (cs.map D.tup)), s11, s12, none, none, none, none, none, none, none, none, none, none])
      ⟨[], none, none, none, rfl, by simp, rfl⟩ (fun k env hk ⟨cs, s8, s11, s12, h1, h2, e⟩ => ?_) (fun env ⟨cs, s8, s11, s12, h1, h2, e⟩ => ⟨cs, s8, s11, s12, h1, h2, by rw [e]⟩)
    subst e
    obtain ⟨c, hc, t11, t12, et⟩ := clause_ok (n + 11) hR.strs (by omega) ih ic ns (many : Int) (count : Int) ds nms (ws.map .int) k cs (by omega) s11 s12
    exact .inl ⟨_, .inl et, cs ++ [c], _, t11, t12, by simp [h1], fun x hx => (List.mem_append.mp hx).elim (h2 x) fun z => by rw [List.mem_singleton.mp z]; exact hc, rfl⟩
  refine st (env' := [some (.sh, .scr ns), some (.o1, .lst hd), some (.sh, .int (many : Int)), some (.sh, .int (count : Int)), some (.o1, .lst row), some (.o1, .lst ds), some (.sh, .tup nms), some (.sh, .tup (ws.map .int)), s8, some (.o1, .lst cells), some (.o1, .lst (cs.map D.tup)), s11, s12, none, none, none, none, none, none, none, none, none, none]) (by
    rw [for_nm (o := (.sh, .non)) (l := upto 0 count) (by simp [rc])]
    simpa using ecs) ?_
  have rcs : Rws cs := fun c hc => ⟨hR.strs.sub fun x hx => (csub c hc).subset hx, by have := (csub c hc).length_le; omega⟩
  have ncs := cs_noL rcs
  refine st (env' := [some (.sh, .scr ns), some (.o1, .lst hd), some (.sh, .int (many : Int)), some (.sh, .int (count : Int)), some (.o1, .lst row), some (.o1, .lst ds), some (.sh, .tup nms), some (.sh, .tup (ws.map .int)), s8, some (.o1, .lst cells), some (.sh, .tup (cs.map D.tup)), s11, s12, none, none, none, none, none, none, none, none, none, none]) (by simp [sq, ncs]) ?_
  have lh := law_hearings_ok (n + 10) row hR.strs (by omega)
  have lh : callD tab.g (n + 12) N__law_hearings [.lst row] = .ok (.o1, .lst ((hsort (pw row)).map D.tup)) := lh
  have L := listed_all (names_nodup hR) hR.strs
  have rL := rws_listed hR.strs (show row.length ≤ 8 by omega)
  have lL : (hsort (pw row)).length ≤ 256 := by
    have h1 : (hsort (pw row)).length = (pw row).length := List.length_mergeSort _
    rw [h1, pw_len]
    calc 2 ^ row.length ≤ 2 ^ 8 := Nat.pow_le_pow_right (by decide) (by omega)
      _ ≤ 256 := by decide
  -- what the program tells
  have ok2 : ∀ d ∈ nms, Ok2 d := fun d hd => by obtain ⟨z, rfl, hz⟩ := hN.sh d hd; exact ⟨by rw [okV_str, sg_len]; exact decide_eq_true (by omega), rfl⟩
  have ok2r : ∀ d ∈ row, Ok2 d := fun d hd => by obtain ⟨z, rfl, hz⟩ := hR.sh d hd; exact ⟨by rw [okV_str, sg_len]; exact decide_eq_true (by omega), rfl⟩
  have cvs : ∀ F : List (List D), F.length ≤ 256 → (∀ c ∈ F, c.Sublist row) → Cv (.tup (F.map D.tup)) ∧ clF nms (.tup (F.map D.tup)) = none ∧ Rws F := fun F hF hs => ⟨cv_tup2 (by simp; omega) fun d hd => by
      obtain ⟨c, hc, rfl⟩ := List.mem_map.mp hd
      exact rv_sub ok2r (by omega) (hs c hc), clF_none hF fun c hc => ringsB_sub hN snms (hs c hc), fun c hc => ⟨hR.strs.sub fun x hx => (hs c hc).subset hx, by have := (hs c hc).length_le; omega⟩⟩
  obtain ⟨cv1, cf1, _⟩ := cvs cs (by omega) csub
  have cst : ∀ c ∈ cs, Strs c := fun c hc => (rcs c hc).1
  have lsub : ∀ c ∈ (hsort (pw row)).filter (minB cs), c.Sublist row := fun c hc => (L.mem c).mp (List.mem_filter.mp hc).1
  have lls : ((hsort (pw row)).filter (minB cs)).length ≤ 256 := Nat.le_trans (List.length_filter_le _ _) lL
  obtain ⟨cv2, cf2, rls⟩ := cvs ((hsort (pw row)).filter (minB cs)) lls lsub
  have p1 := minimal_ok (n + 7) nms hN (by omega) cs rcs cf1 cv1.1
  have p2 := minimal_ok (n + 7) nms hN (by omega) ((hsort (pw row)).filter (minB cs)) rls cf2 cv2.1
  have p3 := cheapest_ok (n + 6) nms hN (by omega) ws cok cs rcs cf1 cv1.1
  rw [snms] at p1 p2 p3
  rw [fold_min L cst] at p1
  rw [fold_min L fun c hc => (rls c hc).1, ← least_dual (names_nodup hR) hR.strs csub rcs] at p2
  have lz := law_least_ok (n + 11) cs rcs (by omega)
  have lz : callD tab.g (n + 12) N__law_least [.tup (cs.map D.tup)] = .ok (.sh, .tup ((hsort ((cs.foldl stepD []).filter (leastB (cs.foldl stepD [])))).map D.tup)) := lz
  have lch := law_cheap_loop (n + 10) nms ws cs (hsort (pw row)) hN.strs (by omega) lw rcs rL
  have lch : callD tab.g (n + 12) N__law_cheapest [.lst ((hsort (pw row)).map D.tup), .tup nms, .tup (ws.map .int), .tup (cs.map D.tup)] = .ok (.sh, bestD ((hsort (pw row)).foldl (stepC nms ws cs) none)) := lch
  have bmem := best_mem (nm := nms) (ws := ws) (cs := cs) (hsort (pw row)) none (fun x hx => rL x hx) (fun q hq => by cases hq)
  have nb := noL_best ((hsort (pw row)).foldl (stepC nms ws cs) none) fun q hq => (bmem q hq).1
  have plB : pl 3 (bestD ((hsort (pw row)).foldl (stepC nms ws cs) none)) = true := by
    cases e : (hsort (pw row)).foldl (stepC nms ws cs) none with
    | none => rfl
    | some q =>
      obtain ⟨q1, q2⟩ := bmem q e
      exact pl_tup (by simp) fun d hd => by
        simp at hd
        rcases hd with rfl | rfl
        · rfl
        · exact pl_up 1 (pl_strs (by omega) q1)
  have plR : ∀ F : List (List D), Rws F → F.length ≤ 1000 → pl 3 (.tup (F.map D.tup)) = true := fun F hF hl => pl_tup (by simp; omega) fun d hd => by
    obtain ⟨y, hy, rfl⟩ := List.mem_map.mp hd
    exact pl_up 1 (pl_strs (by have := (hF y hy).2; omega) (hF y hy).1)
  have tls : ∀ d, pl 3 d = true → callD tab.g (n + 12) N__law_same [.tup [.str N_told, d], .tup [.str N_told, d]] = .ok (.sh, .bl true) := fun d hd => same_pl 4 (pl_tup (by simp) fun x hx => by
    simp at hx
    rcases hx with rfl | rfl
    · exact pl_str _ _
    · exact hd) (n + 3)
  have s1 := tls _ (plR _ rls (by omega))
  have hzm : ∀ c ∈ hsort ((cs.foldl stepD []).filter (leastB (cs.foldl stepD []))), c.Sublist row := fun c hc => by
    rw [least_dual (names_nodup hR) hR.strs csub rcs] at hc
    exact (L.mem c).mp (List.mem_filter.mp hc).1
  have hzl : (hsort ((cs.foldl stepD []).filter (leastB (cs.foldl stepD [])))).length ≤ 256 := by
    rw [least_dual (names_nodup hR) hR.strs csub rcs]
    exact Nat.le_trans (List.length_filter_le _ _) lL
  obtain ⟨_, _, rz⟩ := cvs _ hzl hzm
  have s2 := tls _ (plR _ rz (by omega))
  have s3 := tls _ plB
  have nL1 := cs_noL rls
  have nL2 := cs_noL rz
  have a1 := ans0_told (n + 11) (.tup nms) (.tup (ws.map .int)) (.tup (cs.map D.tup)) _ p1 (by rw [hasL_tup]; exact nL1)
  have a2 := ans0_told (n + 11) (.tup nms) (.tup (ws.map .int)) (.tup (((hsort (pw row)).filter (minB cs)).map D.tup)) _ p2 (by rw [hasL_tup]; exact nL2)
  have a3 := ans1_told (n + 11) (.tup nms) (.tup (ws.map .int)) (.tup (cs.map D.tup)) _ p3 nb
  have h1 : ∀ h ∈ hsort (pw row), callD tab.g (n + 12) N_hits [.tup h, .tup (cs.map D.tup)] = .ok (.sh, .bl (hitsB h cs)) := fun h hh => hits_ok (n + 10) h cs (rL h hh).1 (rL h hh).2 rcs
  have h2 : ∀ h ∈ hsort (pw row), callD tab.g (n + 12) N__law_meets [.tup h, .tup (cs.map D.tup)] = .ok (.sh, .bl (hitsB h cs)) := fun h hh => law_meets_ok (n + 11) h cs _ rfl (rL h hh).1 (rL h hh).2 rcs
  have h3 : ∀ h ∈ hsort (pw row), callD tab.g (n + 12) N__law_minimal [.tup h, .tup (cs.map D.tup)] = .ok (.sh, .bl (minB cs h)) := fun h hh => law_minimal_ok (n + 10) h cs (rL h hh).1 (rL h hh).2 rcs
  have nLs := noL_rows fun x hx => (rL x hx).1
  generalize hLs : hsort (pw row) = Ls at *
  have len1 : Ls.length ≤ 1000000 := by omega
  -- listed, judged one by one
  refine st (env' := [some (.sh, .scr ns), some (.o1, .lst hd), some (.sh, .int (many : Int)), some (.sh, .int (count : Int)), some (.o1, .lst row), some (.o1, .lst ds), some (.sh, .tup nms), some (.sh, .tup (ws.map .int)), s8, some (.o1, .lst cells), some (.sh, .tup (cs.map D.tup)), s11, s12, some (.o1, .lst (Ls.map D.tup)), none, none, none, none, none, none, none, none, none]) (by simp [lh, nLs]) ?_
  obtain ⟨s14, _, e14⟩ := forL_keep (mk := fun s => [some (.sh, .scr ns), some (.o1, .lst hd), some (.sh, .int (many : Int)), some (.sh, .int (count : Int)), some (.o1, .lst row), some (.o1, .lst ds), some (.sh, .tup nms), some (.sh, .tup (ws.map .int)), s8, some (.o1, .lst cells), some (.sh, .tup (cs.map D.tup)), s11, s12, some (.sh, .lst (Ls.map D.tup)), s, none, none, none, none, none, none, none, none]) (f := fun x env' => exs tab.g (cal tab.g (n + 12)) L_law_1 (List.set env' 14 (some (.sh, x)))) (Ls.map D.tup) none (fun x hx s => by
    obtain ⟨h, hh, rfl⟩ := List.mem_map.mp hx
    have q1 := h1 h hh
    have q2 := h2 h hh
    have q3 : callD tab.g (n + 12) N__law_same [.bl (hitsB h cs), .bl (hitsB h cs)] = .ok (.sh, .bl true) := sm_bl _ (n + 11)
    simp [L_law_1, q1, q2, q3])
  have it1 : ∀ l, itD (.lst l) = some l := fun _ => rfl
  have f8 : frzS [(13, true)] 8 s8 = s8 := frzS_no rfl rfl
  have f11 : frzS [(13, true)] 11 s11 = s11 := frzS_no rfl rfl
  have f12 : frzS [(13, true)] 12 s12 = s12 := frzS_no rfl rfl
  refine st (env' := [some (.sh, .scr ns), some (.o1, .lst hd), some (.sh, .int (many : Int)), some (.sh, .int (count : Int)), some (.o1, .lst row), some (.o1, .lst ds), some (.sh, .tup nms), some (.sh, .tup (ws.map .int)), s8, some (.o1, .lst cells), some (.sh, .tup (cs.map D.tup)), s11, s12, some (.sh, .lst (Ls.map D.tup)), s14, none, none, none, none, none, none, none, none]) (by
    rw [for_nm (o := (.sh, .lst (Ls.map D.tup))) (l := Ls.map D.tup) (by simp [it1])]
    simp [f8, f11, f12]
    simpa using e14) ?_
  have lcm : ev tab.g (cal tab.g (n + 12)) (.lc (.var 14) (.nm 14) (.it (.var 13)) (.some (.call N__law_minimal (.cons (.var 14) (.cons (.var 10) .nil))))) [some (.sh, .scr ns), some (.o1, .lst hd), some (.sh, .int (many : Int)), some (.sh, .int (count : Int)), some (.o1, .lst row), some (.o1, .lst ds), some (.sh, .tup nms), some (.sh, .tup (ws.map .int)), s8, some (.o1, .lst cells), some (.sh, .tup (cs.map D.tup)), s11, s12, some (.sh, .lst (Ls.map D.tup)), s14, none, none, none, none, none, none, none, none] = .ok (.o1, .lst ((Ls.filter (minB cs)).map D.tup)) := by
    refine lc_filter Ls D.tup D.tup (minB cs) (o := (.sh, .lst (Ls.map D.tup))) (by simp [it1]) len1 fun h hh => ⟨_, rfl, ?_, fun _ => by simp⟩
    have := h3 h hh
    simp [this]
  refine st (env' := [some (.sh, .scr ns), some (.o1, .lst hd), some (.sh, .int (many : Int)), some (.sh, .int (count : Int)), some (.o1, .lst row), some (.o1, .lst ds), some (.sh, .tup nms), some (.sh, .tup (ws.map .int)), s8, some (.o1, .lst cells), some (.sh, .tup (cs.map D.tup)), s11, s12, some (.sh, .lst (Ls.map D.tup)), s14, some (.sh, .tup ((Ls.filter (minB cs)).map D.tup)), none, none, none, none, none, none, none]) (by simp [-ev_lc, lcm, sq, nL1]) ?_
  generalize hW : ws.map D.int = W at *
  generalize hcs : cs.map D.tup = CS at *
  generalize hlz : (hsort ((cs.foldl stepD []).filter (leastB (cs.foldl stepD [])))).map D.tup = LZ at *
  generalize hle : (Ls.filter (minB cs)).map D.tup = LE at *
  generalize hbb : bestD (Ls.foldl (stepC nms ws cs) none) = best at *
  generalize hLL : Ls.map D.tup = LL at *
  refine st (env' := [some (.sh, .scr ns), some (.o1, .lst hd), some (.sh, .int (many : Int)), some (.sh, .int (count : Int)), some (.o1, .lst row), some (.o1, .lst ds), some (.sh, .tup nms), some (.sh, .tup W), s8, some (.o1, .lst cells), some (.sh, .tup CS), s11, s12, some (.sh, .lst LL), s14, some (.sh, .tup LE), none, none, none, none, none, none, none]) (by simp [a1, s1, z2]) ?_
  refine st (env' := [some (.sh, .scr ns), some (.o1, .lst hd), some (.sh, .int (many : Int)), some (.sh, .int (count : Int)), some (.o1, .lst row), some (.o1, .lst ds), some (.sh, .tup nms), some (.sh, .tup W), s8, some (.o1, .lst cells), some (.sh, .tup CS), s11, s12, some (.sh, .lst LL), s14, some (.sh, .tup LE), none, none, none, none, none, none, none]) (by simp [a2, s2, lz, z2]) ?_
  refine st (env' := [some (.sh, .scr ns), some (.o1, .lst hd), some (.sh, .int (many : Int)), some (.sh, .int (count : Int)), some (.o1, .lst row), some (.o1, .lst ds), some (.sh, .tup nms), some (.sh, .tup W), s8, some (.o1, .lst cells), some (.sh, .tup CS), s11, s12, some (.sh, .lst LL), s14, some (.sh, .tup LE), some (.sh, best), none, none, none, none, none, none]) (by simp [lch, nb]) ?_
  refine st (env' := [some (.sh, .scr ns), some (.o1, .lst hd), some (.sh, .int (many : Int)), some (.sh, .int (count : Int)), some (.o1, .lst row), some (.o1, .lst ds), some (.sh, .tup nms), some (.sh, .tup W), s8, some (.o1, .lst cells), some (.sh, .tup CS), s11, s12, some (.sh, .lst LL), s14, some (.sh, .tup LE), some (.sh, best), none, none, none, none, none, none]) (by simp [a3, s3, z2]) ?_
  -- the wrong ones
  have okW : ∀ d ∈ W, Ok2 d := fun d hd => by rw [← hW] at hd; obtain ⟨w, _, rfl⟩ := List.mem_map.mp hd; exact ⟨rfl, rfl⟩
  have lW : W.length ≤ 8 := by rw [← hW]; simp; omega
  have okC : ∀ d ∈ CS, Rv2 d := fun d hd => by rw [← hcs] at hd; obtain ⟨c, hc, rfl⟩ := List.mem_map.mp hd; exact rv_sub ok2r (by omega) (csub c hc)
  have lC : CS.length ≤ 256 := by rw [← hcs]; simp; omega
  have r4 : rngD 0 4 = .ok (upto 0 4) := rng_nat (j := 4) (by decide)
  have r2 : rngD 0 2 = .ok (upto 0 2) := rng_nat (j := 2) (by decide)
  obtain ⟨t8, t17, t18, t19, t20, t21, t22, e8⟩ : ∃ (t8 t17 t18 t19 t20 t21 t22 : S2.Slot), forL (fun x env' => exs tab.g (cal tab.g (n + 12)) L_law_3 (List.set env' 8 (some (.sh, x)))) (upto 0 4) [some (.sh, .scr ns), some (.o1, .lst hd), some (.sh, .int (many : Int)), some (.sh, .int (count : Int)), some (.o1, .lst row), some (.o1, .lst ds), some (.sh, .tup nms), some (.sh, .tup W), s8, some (.o1, .lst cells), some (.sh, .tup CS), s11, s12, some (.sh, .lst LL), s14, some (.sh, .tup LE), some (.sh, best), none, none, none, none, none, none] =
      .nx [some (.sh, .scr ns), some (.o1, .lst hd), some (.sh, .int (many : Int)), some (.sh, .int (count : Int)), some (.o1, .lst row), some (.o1, .lst ds), some (.sh, .tup nms), some (.sh, .tup W), t8, some (.o1, .lst cells), some (.sh, .tup CS), s11, s12, some (.sh, .lst LL), s14, some (.sh, .tup LE), some (.sh, best), t17, t18, t19, t20, t21, t22] := by
    refine forL_up (Post := fun out => ∃ (t8 t17 t18 t19 t20 t21 t22 : S2.Slot), out = .nx [some (.sh, .scr ns), some (.o1, .lst hd), some (.sh, .int (many : Int)), some (.sh, .int (count : Int)), some (.o1, .lst row), some (.o1, .lst ds), some (.sh, .tup nms), some (.sh, .tup W), t8, some (.o1, .lst cells), some (.sh, .tup CS), s11, s12, some (.sh, .lst LL), s14, some (.sh, .tup LE), some (.sh, best), t17, t18, t19, t20, t21, t22])
      (fun k env => ∃ (t8 t17 t18 t19 t20 t21 t22 : S2.Slot), env = [some (.sh, .scr ns), some (.o1, .lst hd), some (.sh, .int (many : Int)), some (.sh, .int (count : Int)), some (.o1, .lst row), some (.o1, .lst ds), some (.sh, .tup nms), some (.sh, .tup W), t8, some (.o1, .lst cells), some (.sh, .tup CS), s11, s12, some (.sh, .lst LL), s14, some (.sh, .tup LE), some (.sh, best), t17, t18, t19, t20, t21, t22])
      ⟨s8, none, none, none, none, none, none, rfl⟩ (fun k env hk ⟨t8, t17, t18, t19, t20, t21, t22, e⟩ => ?_) (fun env ⟨t8, t17, t18, t19, t20, t21, t22, e⟩ => ⟨t8, t17, t18, t19, t20, t21, t22, by rw [e]⟩)
    subst e
    obtain ⟨ik, ck⟩ := cell_ok (n + 11) ns (4 + (k : Int)) (by omega)
    obtain ⟨tl, dk, tll, it⟩ := digits_ok (n + 11) ik 5040 (5 + (k : Int)) 7 (by decide) (by decide) (by decide)
    have dk : callD tab.g (n + 12) N__law_digits [.int ik, .int 7, .int 5040, .int (5 + (k : Int))] = .ok (.o1, .lst tl) := dk
    have ntl := nolI it
    obtain ⟨R, P, K, wk, hR2, hP2, hK2⟩ := wrong_ok (n + 11) nms W CS tl hN.strs ok2 (by omega) okW lW okC lC it
    have wk : callD tab.g (n + 12) N__law_wrong [.tup nms, .tup W, .tup CS, .lst tl] = .ok (.sh, .tup [R, P, K]) := wk
    -- behind the two drawings
    obtain ⟨o17, h17, e3⟩ : ∃ o17 : Own, (o17 = .o1 ∨ o17 = .sh) ∧ ∀ o : Out, exs tab.g (cal tab.g (n + 12)) (.cons (.for_ (.nm 20) (.rng1 (.int 2)) L_law_2) .nil) [some (.sh, .scr ns), some (.o1, .lst hd), some (.sh, .int (many : Int)), some (.sh, .int (count : Int)), some (.o1, .lst row), some (.o1, .lst ds), some (.sh, .tup nms), some (.sh, .tup W), some (.sh, .int (k : Int)), some (.o1, .lst cells), some (.sh, .tup CS), s11, s12, some (.sh, .lst LL), s14, some (.sh, .tup LE), some (.sh, best), some (o17, .lst tl), some (.sh, .tup [R, P, K]), some (.sh, .tup [R, P, K]), t20, t21, t22] = o →
        exs tab.g (cal tab.g (n + 12)) L_law_3 [some (.sh, .scr ns), some (.o1, .lst hd), some (.sh, .int (many : Int)), some (.sh, .int (count : Int)), some (.o1, .lst row), some (.o1, .lst ds), some (.sh, .tup nms), some (.sh, .tup W), some (.sh, .int (k : Int)), some (.o1, .lst cells), some (.sh, .tup CS), s11, s12, some (.sh, .lst LL), s14, some (.sh, .tup LE), some (.sh, best), t17, t18, t19, t20, t21, t22] = o := by
      have q : ∀ j s, j = 11 ∨ j = 12 ∨ j = 14 ∨ j = 18 ∨ j = 19 ∨ j = 20 ∨ j = 21 ∨ j = 22 → frzS [(6, true), (7, true), (10, true), (17, true)] j s = s := fun j s h => by
        rcases h with rfl | rfl | rfl | rfl | rfl | rfl | rfl | rfl <;> exact frzS_no rfl rfl
      have q11 := q 11 s11 (by simp)
      have q12 := q 12 s12 (by simp)
      have q14 := q 14 s14 (by simp)
      have q18 := q 18 t18 (by simp)
      have q19 := q 19 t19 (by simp)
      have q20 := q 20 t20 (by simp)
      have q21 := q 21 t21 (by simp)
      have q22 := q 22 t22 (by simp)
      rcases Bool.eq_false_or_eq_true (hasL (.tup [R, P, K])) with hL | hL
      · refine ⟨.sh, .inr rfl, fun o ho => ?_⟩
        unfold L_law_3
        refine sx (env' := [some (.sh, .scr ns), some (.o1, .lst hd), some (.sh, .int (many : Int)), some (.sh, .int (count : Int)), some (.o1, .lst row), some (.o1, .lst ds), some (.sh, .tup nms), some (.sh, .tup W), some (.sh, .int (k : Int)), some (.o1, .lst cells), some (.sh, .tup CS), s11, s12, some (.sh, .lst LL), s14, some (.sh, .tup LE), some (.sh, best), some (.o1, .lst tl), t18, t19, t20, t21, t22]) (by simp [ck, dk, ntl]) ?_
        generalize hT : D.tup [R, P, K] = T at *
        refine sx (env' := [some (.sh, .scr ns), some (.o1, .lst hd), some (.sh, .int (many : Int)), some (.sh, .int (count : Int)), some (.o1, .lst row), some (.o1, .lst ds), some (.sh, .tup nms), some (.sh, .tup W), some (.sh, .int (k : Int)), some (.o1, .lst cells), some (.sh, .tup CS), s11, s12, some (.sh, .lst LL), s14, some (.sh, .tup LE), some (.sh, best), some (.sh, .lst tl), some (.sh, T), t19, t20, t21, t22]) (by simp [wk, hL, q11, q12, q14, q18, q19, q20, q21, q22]) ?_
        refine sx (env' := [some (.sh, .scr ns), some (.o1, .lst hd), some (.sh, .int (many : Int)), some (.sh, .int (count : Int)), some (.o1, .lst row), some (.o1, .lst ds), some (.sh, .tup nms), some (.sh, .tup W), some (.sh, .int (k : Int)), some (.o1, .lst cells), some (.sh, .tup CS), s11, s12, some (.sh, .lst LL), s14, some (.sh, .tup LE), some (.sh, best), some (.sh, .lst tl), some (.sh, T), some (.sh, T), t20, t21, t22]) (by simp [wk, hL, q11, q12, q14, q18, q19, q20, q21, q22]) ho
      · refine ⟨.o1, .inl rfl, fun o ho => ?_⟩
        unfold L_law_3
        refine sx (env' := [some (.sh, .scr ns), some (.o1, .lst hd), some (.sh, .int (many : Int)), some (.sh, .int (count : Int)), some (.o1, .lst row), some (.o1, .lst ds), some (.sh, .tup nms), some (.sh, .tup W), some (.sh, .int (k : Int)), some (.o1, .lst cells), some (.sh, .tup CS), s11, s12, some (.sh, .lst LL), s14, some (.sh, .tup LE), some (.sh, best), some (.o1, .lst tl), t18, t19, t20, t21, t22]) (by simp [ck, dk, ntl]) ?_
        generalize hT : D.tup [R, P, K] = T at *
        refine sx (env' := [some (.sh, .scr ns), some (.o1, .lst hd), some (.sh, .int (many : Int)), some (.sh, .int (count : Int)), some (.o1, .lst row), some (.o1, .lst ds), some (.sh, .tup nms), some (.sh, .tup W), some (.sh, .int (k : Int)), some (.o1, .lst cells), some (.sh, .tup CS), s11, s12, some (.sh, .lst LL), s14, some (.sh, .tup LE), some (.sh, best), some (.o1, .lst tl), some (.sh, T), t19, t20, t21, t22]) (by simp [wk, hL]) ?_
        refine sx (env' := [some (.sh, .scr ns), some (.o1, .lst hd), some (.sh, .int (many : Int)), some (.sh, .int (count : Int)), some (.o1, .lst row), some (.o1, .lst ds), some (.sh, .tup nms), some (.sh, .tup W), some (.sh, .int (k : Int)), some (.o1, .lst cells), some (.sh, .tup CS), s11, s12, some (.sh, .lst LL), s14, some (.sh, .tup LE), some (.sh, best), some (.o1, .lst tl), some (.sh, T), some (.sh, T), t20, t21, t22]) (by simp [wk, hL]) ho
    obtain ⟨env2, e4, u20, u21, u22, eu⟩ : ∃ env2, forL (fun x env' => exs tab.g (cal tab.g (n + 12)) L_law_2 (List.set env' 20 (some (.sh, x)))) (upto 0 2) [some (.sh, .scr ns), some (.o1, .lst hd), some (.sh, .int (many : Int)), some (.sh, .int (count : Int)), some (.o1, .lst row), some (.o1, .lst ds), some (.sh, .tup nms), some (.sh, .tup W), some (.sh, .int (k : Int)), some (.o1, .lst cells), some (.sh, .tup CS), s11, s12, some (.sh, .lst LL), s14, some (.sh, .tup LE), some (.sh, best), some (o17, .lst tl), some (.sh, .tup [R, P, K]), some (.sh, .tup [R, P, K]), t20, t21, t22] = .nx env2 ∧ ∃ u20 u21 u22, env2 = [some (.sh, .scr ns), some (.o1, .lst hd), some (.sh, .int (many : Int)), some (.sh, .int (count : Int)), some (.o1, .lst row), some (.o1, .lst ds), some (.sh, .tup nms), some (.sh, .tup W), some (.sh, .int (k : Int)), some (.o1, .lst cells), some (.sh, .tup CS), s11, s12, some (.sh, .lst LL), s14, some (.sh, .tup LE), some (.sh, best), some (o17, .lst tl), some (.sh, .tup [R, P, K]), some (.sh, .tup [R, P, K]), u20, u21, u22] :=
      forL_inv (I := fun env2 => ∃ u20 u21 u22, env2 = [some (.sh, .scr ns), some (.o1, .lst hd), some (.sh, .int (many : Int)), some (.sh, .int (count : Int)), some (.o1, .lst row), some (.o1, .lst ds), some (.sh, .tup nms), some (.sh, .tup W), some (.sh, .int (k : Int)), some (.o1, .lst cells), some (.sh, .tup CS), s11, s12, some (.sh, .lst LL), s14, some (.sh, .tup LE), some (.sh, best), some (o17, .lst tl), some (.sh, .tup [R, P, K]), some (.sh, .tup [R, P, K]), u20, u21, u22]) (upto 0 2) _ ⟨t20, t21, t22, rfl⟩ fun x hx env ⟨v20, v21, v22, ev⟩ => by
        subst ev
        obtain ⟨w, rfl, hw⟩ := upto_mem hx
        obtain ⟨x21, x22, ex⟩ := turn2_ok n w (by omega) R P K hR2 hP2 hK2 ns hd row ds nms W cells CS LL LE many count k best o17 h17 tl s11 s12 s14 v21 v22
        exact ⟨_, ex, _, x21, x22, rfl⟩
    subst eu
    have ex3 := e3 (.nx [some (.sh, .scr ns), some (.o1, .lst hd), some (.sh, .int (many : Int)), some (.sh, .int (count : Int)), some (.o1, .lst row), some (.o1, .lst ds), some (.sh, .tup nms), some (.sh, .tup W), some (.sh, .int (k : Int)), some (.o1, .lst cells), some (.sh, .tup CS), s11, s12, some (.sh, .lst LL), s14, some (.sh, .tup LE), some (.sh, best), some (o17, .lst tl), some (.sh, .tup [R, P, K]), some (.sh, .tup [R, P, K]), u20, u21, u22]) (by
      rw [exs_seq, for_nm (o := (.sh, .non)) (l := upto 0 2) (by simp [r2])]
      simp [e4])
    exact .inl ⟨_, .inl ex3, _, _, _, _, u20, u21, u22, rfl⟩
  refine st (env' := [some (.sh, .scr ns), some (.o1, .lst hd), some (.sh, .int (many : Int)), some (.sh, .int (count : Int)), some (.o1, .lst row), some (.o1, .lst ds), some (.sh, .tup nms), some (.sh, .tup W), t8, some (.o1, .lst cells), some (.sh, .tup CS), s11, s12, some (.sh, .lst LL), s14, some (.sh, .tup LE), some (.sh, best), t17, t18, t19, t20, t21, t22]) (by
    rw [for_nm (o := (.sh, .non)) (l := upto 0 4) (by simp [r4])]
    simpa using e8) ?_
  simp [a3, s3, z2]
def top_k : Nat := 60
theorem law_true : ∀ ns : List Int, ns.length ≤ 63 → ∃ o, callD tab.g (top_k + 1) (Str.ofString "law") [.scr ns] = .ok (o, .bl true) := fun ns _ => ⟨_, law_ok 48 ns⟩
end Lw

namespace Lw
open PySem PySem.Spec PyProof.Rows L2 S2
abbrev P : Program := PySem.Challenge.pw_alarmworks_k21_whole_hitting
def top (i : Nat) : Stmt := PySem.Challenge.pw_alarmworks_k21_whole_hitting.main.body.getD i (.Pass ⟨0, 0, 0, 0⟩)
def e0 : He.DefD := ⟨(N_is_integer, none), "is_integer", "is_integer", defArgs (top 11), defBody (top 11), defScope (top 11), [], []⟩
def e1 : He.DefD := ⟨(N_is_number, none), "is_number", "is_number", defArgs (top 12), defBody (top 12), defScope (top 12), [], []⟩
def e2 : He.DefD := ⟨(N_is_name, none), "is_name", "is_name", defArgs (top 13), defBody (top 13), defScope (top 13), [], []⟩
def e3 : He.DefD := ⟨(N_is_ascending, none), "is_ascending", "is_ascending", defArgs (top 14), defBody (top 14), defScope (top 14), [], []⟩
def e4 : He.DefD := ⟨(N_check_names, none), "check_names", "check_names", defArgs (top 15), defBody (top 15), defScope (top 15), [], []⟩
def e5 : He.DefD := ⟨(N_are_numbers, none), "are_numbers", "are_numbers", defArgs (top 16), defBody (top 16), defScope (top 16), [], []⟩
def e6 : He.DefD := ⟨(N_is_hearing, none), "is_hearing", "is_hearing", defArgs (top 19), defBody (top 19), defScope (top 19), [], []⟩
def e7 : He.DefD := ⟨(N_hearing_place, none), "hearing_place", "hearing_place", defArgs (top 20), defBody (top 20), defScope (top 20), [], []⟩
def e8 : He.DefD := ⟨(N_hearings, none), "hearings", "hearings", defArgs (top 21), defBody (top 21), defScope (top 21), [], []⟩
def e9 : He.DefD := ⟨(N_check_costs, none), "check_costs", "check_costs", defArgs (top 26), defBody (top 26), defScope (top 26), [], []⟩
def e10 : He.DefD := ⟨(N_check_clauses, none), "check_clauses", "check_clauses", defArgs (top 27), defBody (top 27), defScope (top 27), [], []⟩
def e11 : He.DefD := ⟨(N_meets, none), "meets", "meets", defArgs (top 28), defBody (top 28), defScope (top 28), [], []⟩
def e12 : He.DefD := ⟨(N_hits, none), "hits", "hits", defArgs (top 29), defBody (top 29), defScope (top 29), [], []⟩
def e13 : He.DefD := ⟨(N_has_all, none), "has_all", "has_all", defArgs (top 30), defBody (top 30), defScope (top 30), [], []⟩
def e14 : He.DefD := ⟨(N_has_one_of, none), "has_one_of", "has_one_of", defArgs (top 31), defBody (top 31), defScope (top 31), [], []⟩
def e15 : He.DefD := ⟨(N_cost_of, none), "cost_of", "cost_of", defArgs (top 32), defBody (top 32), defScope (top 32), [], []⟩
def e16 : He.DefD := ⟨(N_minimal_hitting, none), "minimal_hitting", "minimal_hitting", defArgs (top 33), defBody (top 33), defScope (top 33), [], []⟩
def e17 : He.DefD := ⟨(N_cheapest_hitting, none), "cheapest_hitting", "cheapest_hitting", defArgs (top 34), defBody (top 34), defScope (top 34), [], []⟩
def e18 : He.DefD := ⟨(N__law_cell, none), "_law_cell", "_law_cell", defArgs (top 36), defBody (top 36), defScope (top 36), [], []⟩
def e19 : He.DefD := ⟨(N__law_digits, none), "_law_digits", "_law_digits", defArgs (top 37), defBody (top 37), defScope (top 37), [], []⟩
def e20 : He.DefD := ⟨(N__law_names, none), "_law_names", "_law_names", defArgs (top 38), defBody (top 38), defScope (top 38), [], []⟩
def e21 : He.DefD := ⟨(N__law_same, none), "_law_same", "_law_same", defArgs (top 39), defBody (top 39), defScope (top 39), [], []⟩
def e22 : He.DefD := ⟨(N__law_shuffled, none), "_law_shuffled", "_law_shuffled", defArgs (top 40), defBody (top 40), defScope (top 40), [], []⟩
def e23 : He.DefD := ⟨(N__law_chosen, none), "_law_chosen", "_law_chosen", defArgs (top 41), defBody (top 41), defScope (top 41), [], []⟩
def e24 : He.DefD := ⟨(N__law_meets, none), "_law_meets", "_law_meets", defArgs (top 42), defBody (top 42), defScope (top 42), [], []⟩
def e25 : He.DefD := ⟨(N__law_hearings, none), "_law_hearings", "_law_hearings", defArgs (top 43), defBody (top 43), defScope (top 43), [], []⟩
def e26 : He.DefD := ⟨(N__law_minimal, none), "_law_minimal", "_law_minimal", defArgs (top 44), defBody (top 44), defScope (top 44), [], []⟩
def e27 : He.DefD := ⟨(N__law_least, none), "_law_least", "_law_least", defArgs (top 45), defBody (top 45), defScope (top 45), [], []⟩
def e28 : He.DefD := ⟨(N__law_cheapest, none), "_law_cheapest", "_law_cheapest", defArgs (top 46), defBody (top 46), defScope (top 46), [], []⟩
def e29 : He.DefD := ⟨(N__law_is_name, none), "_law_is_name", "_law_is_name", defArgs (top 47), defBody (top 47), defScope (top 47), [], []⟩
def e30 : He.DefD := ⟨(N__law_is_clause, none), "_law_is_clause", "_law_is_clause", defArgs (top 48), defBody (top 48), defScope (top 48), [], []⟩
def e31 : He.DefD := ⟨(N__law_due, none), "_law_due", "_law_due", defArgs (top 49), defBody (top 49), defScope (top 49), [], []⟩
def e32 : He.DefD := ⟨(N__law_answer, none), "_law_answer", "_law_answer", defArgs (top 50), defBody (top 50), defScope (top 50), [], []⟩
def e33 : He.DefD := ⟨(N__law_wrong, none), "_law_wrong", "_law_wrong", defArgs (top 51), defBody (top 51), defScope (top 51), [], []⟩
def e34 : He.DefD := ⟨(N_law, none), "law", "law", defArgs (top 52), defBody (top 52), defScope (top 52), [], []⟩
def fn : List He.DefD := [e0, e1, e2, e3, e4, e5, e6, e7, e8, e9, e10, e11, e12, e13, e14, e15, e16, e17, e18, e19, e20, e21, e22, e23, e24, e25, e26, e27, e28, e29, e30, e31, e32, e33, e34]
def u0 : SupD := ⟨N_InvalidName, N_value, "__init__", "InvalidName.__init__", defArgs (inClass (top 3) 0), defBody (inClass (top 3) 0), defScope (inClass (top 3) 0)⟩
theorem su0 : SupTx P u0 := ⟨by decide +kernel, fun _ _ _ _ _ _ _ _ => rfl, by decide +kernel⟩
def u1 : SupD := ⟨N_DuplicateName, N_name, "__init__", "DuplicateName.__init__", defArgs (inClass (top 4) 0), defBody (inClass (top 4) 0), defScope (inClass (top 4) 0)⟩
theorem su1 : SupTx P u1 := ⟨by decide +kernel, fun _ _ _ _ _ _ _ _ => rfl, by decide +kernel⟩
def u2 : SupD := ⟨N_TooMany, N_bound, "__init__", "TooMany.__init__", defArgs (inClass (top 5) 0), defBody (inClass (top 5) 0), defScope (inClass (top 5) 0)⟩
theorem su2 : SupTx P u2 := ⟨by decide +kernel, fun _ _ _ _ _ _ _ _ => rfl, by decide +kernel⟩
def u3 : SupD := ⟨N_InvalidClause, N_position, "__init__", "InvalidClause.__init__", defArgs (inClass (top 6) 0), defBody (inClass (top 6) 0), defScope (inClass (top 6) 0)⟩
theorem su3 : SupTx P u3 := ⟨by decide +kernel, fun _ _ _ _ _ _ _ _ => rfl, by decide +kernel⟩
def sups : List SupD := [u0, u1, u2, u3]
theorem t0 : DTx tab fn (N_is_integer, none) N_is_integer := ⟨0, e0, n0, [N_value], d0, rfl, rfl, rfl, ⟨rfl, rfl, rfl, by decide +kernel, rfl, by decide +kernel, by decide +kernel⟩, by kernel_rfl, rfl, rfl, by decide +kernel, fun _ _ _ _ _ _ us hl => match us, hl with | [_], _ => rfl⟩
theorem t1 : DTx tab fn (N_is_number, none) N_is_number := ⟨1, e1, n1, [N_value, N_least, N_most], d1, rfl, rfl, rfl, ⟨rfl, rfl, rfl, by decide +kernel, rfl, by decide +kernel, by decide +kernel⟩, by kernel_rfl, rfl, rfl, by decide +kernel, fun _ _ _ _ _ _ us hl => match us, hl with | [_, _, _], _ => rfl⟩
theorem t2 : DTx tab fn (N_is_name, none) N_is_name := ⟨2, e2, n2, [N_value], d2, rfl, rfl, rfl, ⟨rfl, rfl, rfl, by decide +kernel, rfl, by decide +kernel, by decide +kernel⟩, by kernel_rfl, rfl, rfl, by decide +kernel, fun _ _ _ _ _ _ us hl => match us, hl with | [_], _ => rfl⟩
theorem t3 : DTx tab fn (N_is_ascending, none) N_is_ascending := ⟨3, e3, n3, [N_row], d3, rfl, rfl, rfl, ⟨rfl, rfl, rfl, by decide +kernel, rfl, by decide +kernel, by decide +kernel⟩, by kernel_rfl, rfl, rfl, by decide +kernel, fun _ _ _ _ _ _ us hl => match us, hl with | [_], _ => rfl⟩
theorem t4 : DTx tab fn (N_check_names, none) N_check_names := ⟨4, e4, n4, [N_names, N_most], d4, rfl, rfl, rfl, ⟨rfl, rfl, rfl, by decide +kernel, rfl, by decide +kernel, by decide +kernel⟩, by kernel_rfl, rfl, rfl, by decide +kernel, fun _ _ _ _ _ _ us hl => match us, hl with | [_, _], _ => rfl⟩
theorem t5 : DTx tab fn (N_are_numbers, none) N_are_numbers := ⟨5, e5, n5, [N_row, N_least, N_most], d5, rfl, rfl, rfl, ⟨rfl, rfl, rfl, by decide +kernel, rfl, by decide +kernel, by decide +kernel⟩, by kernel_rfl, rfl, rfl, by decide +kernel, fun _ _ _ _ _ _ us hl => match us, hl with | [_, _, _], _ => rfl⟩
theorem t6 : DTx tab fn (N_is_hearing, none) N_is_hearing := ⟨6, e6, n6, [N_alarms, N_hearing], d6, rfl, rfl, rfl, ⟨rfl, rfl, rfl, by decide +kernel, rfl, by decide +kernel, by decide +kernel⟩, by kernel_rfl, rfl, rfl, by decide +kernel, fun _ _ _ _ _ _ us hl => match us, hl with | [_, _], _ => rfl⟩
theorem t7 : DTx tab fn (N_hearing_place, none) N_hearing_place := ⟨7, e7, n7, [N_hearing], d7, rfl, rfl, rfl, ⟨rfl, rfl, rfl, by decide +kernel, rfl, by decide +kernel, by decide +kernel⟩, by kernel_rfl, rfl, rfl, by decide +kernel, fun _ _ _ _ _ _ us hl => match us, hl with | [_], _ => rfl⟩
theorem t8 : DTx tab fn (N_hearings, none) N_hearings := ⟨8, e8, n8, [N_alarms], d8, rfl, rfl, rfl, ⟨rfl, rfl, rfl, by decide +kernel, rfl, by decide +kernel, by decide +kernel⟩, by kernel_rfl, rfl, rfl, by decide +kernel, fun _ _ _ _ _ _ us hl => match us, hl with | [_], _ => rfl⟩
theorem t9 : DTx tab fn (N_check_costs, none) N_check_costs := ⟨9, e9, n9, [N_alarms, N_costs], d9, rfl, rfl, rfl, ⟨rfl, rfl, rfl, by decide +kernel, rfl, by decide +kernel, by decide +kernel⟩, by kernel_rfl, rfl, rfl, by decide +kernel, fun _ _ _ _ _ _ us hl => match us, hl with | [_, _], _ => rfl⟩
theorem t10 : DTx tab fn (N_check_clauses, none) N_check_clauses := ⟨10, e10, n10, [N_alarms, N_clauses], d10, rfl, rfl, rfl, ⟨rfl, rfl, rfl, by decide +kernel, rfl, by decide +kernel, by decide +kernel⟩, by kernel_rfl, rfl, rfl, by decide +kernel, fun _ _ _ _ _ _ us hl => match us, hl with | [_, _], _ => rfl⟩
theorem t11 : DTx tab fn (N_meets, none) N_meets := ⟨11, e11, n11, [N_hearing, N_clause], d11, rfl, rfl, rfl, ⟨rfl, rfl, rfl, by decide +kernel, rfl, by decide +kernel, by decide +kernel⟩, by kernel_rfl, rfl, rfl, by decide +kernel, fun _ _ _ _ _ _ us hl => match us, hl with | [_, _], _ => rfl⟩
theorem t12 : DTx tab fn (N_hits, none) N_hits := ⟨12, e12, n12, [N_hearing, N_clauses], d12, rfl, rfl, rfl, ⟨rfl, rfl, rfl, by decide +kernel, rfl, by decide +kernel, by decide +kernel⟩, by kernel_rfl, rfl, rfl, by decide +kernel, fun _ _ _ _ _ _ us hl => match us, hl with | [_, _], _ => rfl⟩
theorem t13 : DTx tab fn (N_has_all, none) N_has_all := ⟨13, e13, n13, [N_hearing, N_part], d13, rfl, rfl, rfl, ⟨rfl, rfl, rfl, by decide +kernel, rfl, by decide +kernel, by decide +kernel⟩, by kernel_rfl, rfl, rfl, by decide +kernel, fun _ _ _ _ _ _ us hl => match us, hl with | [_, _], _ => rfl⟩
theorem t14 : DTx tab fn (N_has_one_of, none) N_has_one_of := ⟨14, e14, n14, [N_hearing, N_parts], d14, rfl, rfl, rfl, ⟨rfl, rfl, rfl, by decide +kernel, rfl, by decide +kernel, by decide +kernel⟩, by kernel_rfl, rfl, rfl, by decide +kernel, fun _ _ _ _ _ _ us hl => match us, hl with | [_, _], _ => rfl⟩
theorem t15 : DTx tab fn (N_cost_of, none) N_cost_of := ⟨15, e15, n15, [N_alarms, N_costs, N_hearing], d15, rfl, rfl, rfl, ⟨rfl, rfl, rfl, by decide +kernel, rfl, by decide +kernel, by decide +kernel⟩, by kernel_rfl, rfl, rfl, by decide +kernel, fun _ _ _ _ _ _ us hl => match us, hl with | [_, _, _], _ => rfl⟩
theorem t16 : DTx tab fn (N_minimal_hitting, none) N_minimal_hitting := ⟨16, e16, n16, [N_alarms, N_clauses], d16, rfl, rfl, rfl, ⟨rfl, rfl, rfl, by decide +kernel, rfl, by decide +kernel, by decide +kernel⟩, by kernel_rfl, rfl, rfl, by decide +kernel, fun _ _ _ _ _ _ us hl => match us, hl with | [_, _], _ => rfl⟩
theorem t17 : DTx tab fn (N_cheapest_hitting, none) N_cheapest_hitting := ⟨17, e17, n17, [N_alarms, N_costs, N_clauses], d17, rfl, rfl, rfl, ⟨rfl, rfl, rfl, by decide +kernel, rfl, by decide +kernel, by decide +kernel⟩, by kernel_rfl, rfl, rfl, by decide +kernel, fun _ _ _ _ _ _ us hl => match us, hl with | [_, _, _], _ => rfl⟩
theorem t18 : DTx tab fn (N__law_cell, none) N__law_cell := ⟨18, e18, n18, [N_script, N_k], d18, rfl, rfl, rfl, ⟨rfl, rfl, rfl, by decide +kernel, rfl, by decide +kernel, by decide +kernel⟩, by kernel_rfl, rfl, rfl, by decide +kernel, fun _ _ _ _ _ _ us hl => match us, hl with | [_, _], _ => rfl⟩
theorem t19 : DTx tab fn (N__law_digits, none) N__law_digits := ⟨19, e19, n19, [N_cell, N_many, N_base, N_salt], d19, rfl, rfl, rfl, ⟨rfl, rfl, rfl, by decide +kernel, rfl, by decide +kernel, by decide +kernel⟩, by kernel_rfl, rfl, rfl, by decide +kernel, fun _ _ _ _ _ _ us hl => match us, hl with | [_, _, _, _], _ => rfl⟩
theorem t20 : DTx tab fn (N__law_names, none) N__law_names := ⟨20, e20, n20, [N_cell, N_many], d20, rfl, rfl, rfl, ⟨rfl, rfl, rfl, by decide +kernel, rfl, by decide +kernel, by decide +kernel⟩, by kernel_rfl, rfl, rfl, by decide +kernel, fun _ _ _ _ _ _ us hl => match us, hl with | [_, _], _ => rfl⟩
theorem t21 : DTx tab fn (N__law_same, none) N__law_same := ⟨21, e21, n21, [N_actual, N_due], d21, rfl, rfl, rfl, ⟨rfl, rfl, rfl, by decide +kernel, rfl, by decide +kernel, by decide +kernel⟩, by kernel_rfl, rfl, rfl, by decide +kernel, fun _ _ _ _ _ _ us hl => match us, hl with | [_, _], _ => rfl⟩
theorem t22 : DTx tab fn (N__law_shuffled, none) N__law_shuffled := ⟨22, e22, n22, [N_row, N_digits], d22, rfl, rfl, rfl, ⟨rfl, rfl, rfl, by decide +kernel, rfl, by decide +kernel, by decide +kernel⟩, by kernel_rfl, rfl, rfl, by decide +kernel, fun _ _ _ _ _ _ us hl => match us, hl with | [_, _], _ => rfl⟩
theorem t23 : DTx tab fn (N__law_chosen, none) N__law_chosen := ⟨23, e23, n23, [N_row, N_code], d23, rfl, rfl, rfl, ⟨rfl, rfl, rfl, by decide +kernel, rfl, by decide +kernel, by decide +kernel⟩, by kernel_rfl, rfl, rfl, by decide +kernel, fun _ _ _ _ _ _ us hl => match us, hl with | [_, _], _ => rfl⟩
theorem t24 : DTx tab fn (N__law_meets, none) N__law_meets := ⟨24, e24, n24, [N_hearing, N_clauses], d24, rfl, rfl, rfl, ⟨rfl, rfl, rfl, by decide +kernel, rfl, by decide +kernel, by decide +kernel⟩, by kernel_rfl, rfl, rfl, by decide +kernel, fun _ _ _ _ _ _ us hl => match us, hl with | [_, _], _ => rfl⟩
theorem t25 : DTx tab fn (N__law_hearings, none) N__law_hearings := ⟨25, e25, n25, [N_row], d25, rfl, rfl, rfl, ⟨rfl, rfl, rfl, by decide +kernel, rfl, by decide +kernel, by decide +kernel⟩, by kernel_rfl, rfl, rfl, by decide +kernel, fun _ _ _ _ _ _ us hl => match us, hl with | [_], _ => rfl⟩
theorem t26 : DTx tab fn (N__law_minimal, none) N__law_minimal := ⟨26, e26, n26, [N_hearing, N_clauses], d26, rfl, rfl, rfl, ⟨rfl, rfl, rfl, by decide +kernel, rfl, by decide +kernel, by decide +kernel⟩, by kernel_rfl, rfl, rfl, by decide +kernel, fun _ _ _ _ _ _ us hl => match us, hl with | [_, _], _ => rfl⟩
theorem t27 : DTx tab fn (N__law_least, none) N__law_least := ⟨27, e27, n27, [N_clauses], d27, rfl, rfl, rfl, ⟨rfl, rfl, rfl, by decide +kernel, rfl, by decide +kernel, by decide +kernel⟩, by kernel_rfl, rfl, rfl, by decide +kernel, fun _ _ _ _ _ _ us hl => match us, hl with | [_], _ => rfl⟩
theorem t28 : DTx tab fn (N__law_cheapest, none) N__law_cheapest := ⟨28, e28, n28, [N_hearings_in_order, N_names, N_costs, N_clauses], d28, rfl, rfl, rfl, ⟨rfl, rfl, rfl, by decide +kernel, rfl, by decide +kernel, by decide +kernel⟩, by kernel_rfl, rfl, rfl, by decide +kernel, fun _ _ _ _ _ _ us hl => match us, hl with | [_, _, _, _], _ => rfl⟩
theorem t29 : DTx tab fn (N__law_is_name, none) N__law_is_name := ⟨29, e29, n29, [N_value], d29, rfl, rfl, rfl, ⟨rfl, rfl, rfl, by decide +kernel, rfl, by decide +kernel, by decide +kernel⟩, by kernel_rfl, rfl, rfl, by decide +kernel, fun _ _ _ _ _ _ us hl => match us, hl with | [_], _ => rfl⟩
theorem t30 : DTx tab fn (N__law_is_clause, none) N__law_is_clause := ⟨30, e30, n30, [N_names, N_clause], d30, rfl, rfl, rfl, ⟨rfl, rfl, rfl, by decide +kernel, rfl, by decide +kernel, by decide +kernel⟩, by kernel_rfl, rfl, rfl, by decide +kernel, fun _ _ _ _ _ _ us hl => match us, hl with | [_, _], _ => rfl⟩
theorem t31 : DTx tab fn (N__law_due, none) N__law_due := ⟨31, e31, n31, [N_which, N_names, N_costs, N_clauses], d31, rfl, rfl, rfl, ⟨rfl, rfl, rfl, by decide +kernel, rfl, by decide +kernel, by decide +kernel⟩, by kernel_rfl, rfl, rfl, by decide +kernel, fun _ _ _ _ _ _ us hl => match us, hl with | [_, _, _, _], _ => rfl⟩
theorem t32 : DTx tab fn (N__law_answer, none) N__law_answer := ⟨32, e32, n32, [N_which, N_names, N_costs, N_clauses], d32, rfl, rfl, rfl, ⟨rfl, rfl, rfl, by decide +kernel, rfl, by decide +kernel, by decide +kernel⟩, by kernel_rfl, rfl, rfl, by decide +kernel, fun _ _ _ _ _ _ us hl => match us, hl with | [_, _, _, _], _ => rfl⟩
theorem t33 : DTx tab fn (N__law_wrong, none) N__law_wrong := ⟨33, e33, n33, [N_names, N_costs, N_clauses, N_digits], d33, rfl, rfl, rfl, ⟨rfl, rfl, rfl, by decide +kernel, rfl, by decide +kernel, by decide +kernel⟩, by kernel_rfl, rfl, rfl, by decide +kernel, fun _ _ _ _ _ _ us hl => match us, hl with | [_, _, _, _], _ => rfl⟩
theorem lx : LTx tab fn := ⟨34, e34, n34, d34, rfl, by kernel_rfl, rfl, ⟨rfl, rfl, rfl, by decide +kernel, rfl, by decide +kernel, by decide +kernel⟩, by kernel_rfl, rfl, rfl, by decide +kernel, fun _ _ _ _ _ _ us hl => match us, hl with | [_], _ => rfl⟩
theorem lx_d : DTx tab fn (N_law, none) N_law := lx.d
theorem txt : Txt tab P fn sups := ⟨List.forall_mem_cons.mpr ⟨t0, List.forall_mem_cons.mpr ⟨t1, List.forall_mem_cons.mpr ⟨t2, List.forall_mem_cons.mpr ⟨t3, List.forall_mem_cons.mpr ⟨t4, List.forall_mem_cons.mpr ⟨t5, List.forall_mem_cons.mpr ⟨t6, List.forall_mem_cons.mpr ⟨t7, List.forall_mem_cons.mpr ⟨t8, List.forall_mem_cons.mpr ⟨t9, List.forall_mem_cons.mpr ⟨t10, List.forall_mem_cons.mpr ⟨t11, List.forall_mem_cons.mpr ⟨t12, List.forall_mem_cons.mpr ⟨t13, List.forall_mem_cons.mpr ⟨t14, List.forall_mem_cons.mpr ⟨t15, List.forall_mem_cons.mpr ⟨t16, List.forall_mem_cons.mpr ⟨t17, List.forall_mem_cons.mpr ⟨t18, List.forall_mem_cons.mpr ⟨t19, List.forall_mem_cons.mpr ⟨t20, List.forall_mem_cons.mpr ⟨t21, List.forall_mem_cons.mpr ⟨t22, List.forall_mem_cons.mpr ⟨t23, List.forall_mem_cons.mpr ⟨t24, List.forall_mem_cons.mpr ⟨t25, List.forall_mem_cons.mpr ⟨t26, List.forall_mem_cons.mpr ⟨t27, List.forall_mem_cons.mpr ⟨t28, List.forall_mem_cons.mpr ⟨t29, List.forall_mem_cons.mpr ⟨t30, List.forall_mem_cons.mpr ⟨t31, List.forall_mem_cons.mpr ⟨t32, List.forall_mem_cons.mpr ⟨t33, List.forall_mem_cons.mpr ⟨lx_d, fun _ m => absurd m (List.not_mem_nil)⟩⟩⟩⟩⟩⟩⟩⟩⟩⟩⟩⟩⟩⟩⟩⟩⟩⟩⟩⟩⟩⟩⟩⟩⟩⟩⟩⟩⟩⟩⟩⟩⟩⟩⟩,
  fun _ m => absurd m (List.not_mem_nil),
  fun _ m => absurd m (List.not_mem_nil),
  List.forall_mem_cons.mpr ⟨su0, List.forall_mem_cons.mpr ⟨su1, List.forall_mem_cons.mpr ⟨su2, List.forall_mem_cons.mpr ⟨su3, fun _ m => absurd m (List.not_mem_nil)⟩⟩⟩⟩,
  fun _ m => absurd m (List.not_mem_nil),
  .inr (by decide +kernel)⟩
end Lw

namespace Lw
open PySem PySem.Spec PyProof.Rows L2 S2
def loose : List Str := (["__name__", "AlarmError", "InvalidWeights", "InvalidName", "DuplicateName", "TooMany", "InvalidClause", "LETTERS", "DIGITS", "MOST_SIGNS", "is_integer", "is_number", "is_name", "is_ascending", "check_names", "are_numbers", "MOST_CHOICE", "is_hearing", "hearing_place", "hearings", "MOST_ALARMS", "MOST_CLAUSES", "MOST_COST", "check_costs", "check_clauses", "meets", "hits", "has_all", "has_one_of", "cost_of"] : List Str) ++ (["minimal_hitting", "cheapest_hitting", "_law_cell", "_law_digits", "_law_names", "_law_same", "_law_shuffled", "_law_chosen", "_law_meets", "_law_hearings", "_law_minimal", "_law_least", "_law_cheapest", "_law_is_name", "_law_is_clause", "_law_due", "_law_answer", "_law_wrong"] : List Str)
abbrev Rw : PySem.W.OpenRow := PySem.W.OpenLaw.row PySem.Challenge.rw_alarmworks_k21_whole_hitting
abbrev hk : PySem.W.Hook := hookT 6 tab P fn sups
def ob (s : PySem.W.SharedT) : AlT := obsTG 6 tab P fn sups (HandSHeadRun.getT s)
theorem ob_eq (s : PySem.W.SharedT) : ob s = hk.obs s.abs := obsTG_eq (HandSHeadRun.getT_eq s)
theorem run (w : World) : HandSHeadRun.RunEq Rw (PySem.W.view Rw.prog [52]) hk ob 3580 loose w := by
  intro os
  kernel_rfl
end Lw
open PySem PySem.W PySem.Calls PyProof.Rows
theorem PySem.Challenge.cw_alarmworks_k21_whole_hitting_holds : PySem.Challenge.rw_alarmworks_k21_whole_hitting.Holds := by
  w_on; o_law
  refine HandSHeadRun.head_any (r := OpenLaw.row PySem.Challenge.rw_alarmworks_k21_whole_hitting) (q := view (OpenLaw.row PySem.Challenge.rw_alarmworks_k21_whole_hitting).prog [52]) (H := Lw.hk) (ob := Lw.ob) (M := 3580) (loose := Lw.loose) (d := HandSHeadRun.topDef (OpenLaw.row PySem.Challenge.rw_alarmworks_k21_whole_hitting).prog 52) (kwd := []) Lw.ob_eq
    (by kernel_rfl) (fun s => by kernel_rfl) Lw.run (by kernel_rfl) (by kernel_rfl) (by kernel_rfl) (by rfl) (by first | assumption | decide +kernel) (by decide +kernel) ⟨rfl, rfl, rfl, rfl, rfl, by decide +kernel⟩ ?hw ?hc
  case hw => w_witness2
  case hc =>
    refine S2.walk_ofG (l := PySem.Challenge.rw_alarmworks_k21_whole_hitting) (n := 63) (k := Lw.top_k + 1) (x := "script") (C := S2.CXA Lw.P) rfl (by decide) (by kernel_rfl) ⟨rfl, by decide, by decide⟩ ?F (fun _ _ _ _ ⟨_, _, _, _, _, _, _, _, _, _, _, _, _, z⟩ => z)
    intro w mg fa h Y G hmg0
    obtain ⟨K, KX, c⟩ := Y
    have hmg : mg ("law" : PySem.Str) = some (.ref fa) := by
      have e : (HandSHeadRun.topDef (OpenLaw.row PySem.Challenge.rw_alarmworks_k21_whole_hitting).prog 52).name = ("law" : PySem.Str) := by kernel_rfl
      rw [← e]
      exact hmg0
    obtain ⟨fd, sp, hb, hs, hF⟩ := S2.Tb.law (wd := w) KX G c Lw.txt Lw.lx (by decide +kernel) hmg Lw.law_true
    exact ⟨K, fd, sp, KX, hb, hs, fun base _ _ => hF base⟩

