import PyProof.Rows.All
import Wide.All
import OpenK.AllK
import Wide.FinOn
import HandS.ForMost
import HandS.Style
import HandS.Text
import KE.LtData
import KE.DataCmp
import PyProof.StrBlock2
import HandS.ExcField
import HandS.ExcIs
import PyProof.NeData
import HandS.Deep
import HandS.IsInst
import HandS.TupAny
import HandS.Wide
import KE.SortData
import HandS.Exc
import HandS.WordsExc
import HandS.TryOnly
import HandS.TryMany
import KE.KExcSuper
import KE.KExcInit
import KE.KSuper
import HandS.ExcInit
import HandS.Words
import HandS.Flow
import HandS.HeadEnd
import PyProof.StrLawsIn
import PySem.Challenge.RW_markedblocks_k01_lines_and_files
section
set_option Elab.async false
set_option linter.all false
set_option maxRecDepth 100000
/-! Y1: pure values, a small language with its slots resolved, its evaluator. -/
namespace Y
open PySem

/-- a pure value. A list bears a flag: true where this very place holds it alone (it may be changed there) -/
inductive PV where
  | non | bl (b : Bool) | int (i : Int) | str (x : Str) | ty (n : String)
  /-- a def or class of the text, by its key -/
  | fn (k : Str)
  | lst (o : Bool) (xs : List PV)
  /-- a list that is only read (the script) -/
  | lck (xs : List PV)
  | tup (xs : List PV)

-- nothing in it is held alone
mutual
def PV.fz : PV → Bool
  | .lst o xs => !o && PV.fzL xs
  | .lck xs => PV.fzL xs
  | .tup xs => PV.fzL xs
  | _ => true
def PV.fzL : List PV → Bool
  | [] => true
  | x :: r => x.fz && PV.fzL r
end
-- .. made so
mutual
def PV.frz : PV → PV
  | .lst _ xs => .lst false (PV.frzL xs)
  | .lck xs => .lck (PV.frzL xs)
  | .tup xs => .tup (PV.frzL xs)
  | .non => .non | .bl b => .bl b | .int i => .int i | .str x => .str x | .ty n => .ty n | .fn k => .fn k
def PV.frzL : List PV → List PV
  | [] => []
  | x :: r => x.frz :: PV.frzL r
end
-- as data that == reads
mutual
def PV.dat : PV → Option PyData
  | .non => some .none
  | .bl b => some (.bool b)
  | .int i => some (.int i)
  | .str x => some (.str x)
  | .lst _ xs => (PV.datL xs).map .list
  | .lck xs => (PV.datL xs).map .list
  | .tup xs => (PV.datL xs).map .tuple
  | _ => none
def PV.datL : List PV → Option (List PyData)
  | [] => some []
  | x :: r => match x.dat, PV.datL r with
    | some d, some ds => some (d :: ds)
    | _, _ => none
end

abbrev Fr := List (Option PV)
/-- a class of exceptions of the text: its fields; which of the text's classes it is of; which built-in ones -/
structure XD where
  cls : Str
  fs : List Str
  rel : List (Str × Bool)
  ty : List (String × Bool)
deriving DecidableEq
/-- an exception of the text: its class, its fields -/
structure PX where
  xd : XD
  fs : List (Str × PV)
abbrev PX.cls (x : PX) : Str := x.xd.cls
inductive Res (α : Type) where
  | ok (a : α) (ρ : Fr)
  | ex (x : PX) (ρ : Fr)
  | bad
inductive Fl where
  | nx | bk | ct
  | rt (p : PV)
/-- a call's end: what it gives, its parameters' slots behind it -/
inductive CR where
  | ok (r : PV) (as : Fr)
  | ex (x : PX) (as : Fr)
  | bad
def Res.bind {α β : Type} (r : Res α) (f : α → Fr → Res β) : Res β := match r with
  | .ok a ρ => f a ρ
  | .ex x ρ => .ex x ρ
  | .bad => .bad

/-- operations on values that are read -/
inductive Op where
  | bin (op : Operator) | cmp (op : CmpOp)
  | neg | not
  | ix | slice (lo hi : Bool) | back
  | len | list | tuple | int | str | all | any | sum | max | sorted
  | isi
  | join | split
  | min2

-- the language. loc i: a name (read where an operation reads, else copied); mov i: a name that is handed out for good
mutual
inductive IE where
  | cst (p : PV)
  | loc (i : Nat) | mov (i : Nat)
  | op (f : Op) (es : List IE)
  | chain (f g : CmpOp) (a b d : IE)
  /-- a comparison whose sides may be displays (false a list's, true a tuple's), which are read and thrown away -/
  | dcmp (f : CmpOp) (t : Option Bool) (es : List IE) (u : Option Bool) (ds : List IE)
  | slc (e a b : IE)
  | and (a b : IE) | or (a b : IE)
  | ite (t a b : IE)
  | lst (es : List IE) | tup (es : List IE)
  | call (k : Str) (ls : List Bool) (es : List IE)
  | comp (elt : IE) (tg : IT) (src : ISrc) (ifs : List IE) (own : List Nat)
  /-- .. over the list that stands in a slot, as it stands at each turn -/
  | compv (elt : IE) (tg : IT) (i : Nat) (ifs : List IE) (own : List Nat)
  /-- a field of the exception that is held; isinstance of it -/
  | xf (f : Str) | xi (T : String)
  /-- a tuple whose items stay held alone; the item k of the tuple in slot i, read -/
  | tupo (es : List IE) | it (i k : Nat)
inductive IT where
  | nm (i : Nat) | tp (ts : List IT)
inductive ISrc where
  | it (e : IE) | rng (es : List IE) | enm (e : IE) | zp (a b : IE)
end

mutual
inductive IS where
  | set (i : Nat) (e : IE)
  | asg (tg : IT) (e : IE)
  | par (is : List Nat) (es : List IE)
  | aug (i : Nat) (op : Operator) (e : IE)
  | sub (i : Nat) (ix e : IE)
  | app (i : Nat) (e : IE)
  | ext (i : Nat) (e : IE)
  | exp (e : IE)
  | ret (e : IE) | retN
  | ife (t : IE) (a b : List IS)
  | fors (tg : IT) (src : ISrc) (body : List IS)
  | forv (tg : IT) (i : Nat) (body : List IS)
  | whl (t : IE) (body : List IS)
  | brk | cnt | pas
  | rai (d : XD) (es : List IE)
  | tryx (body : List IS) (hs : IH)
  /-- slot[k].append(x), the slot a tuple's -/
  | appi (i k : Nat) (x : Str)
/-- except clauses: the class, the name's slot -/
inductive IH where
  | nil
  | cons (k : Str) (i : Option Nat) (suite : List IS) (r : IH)
end

/-! ### operations -/
instance (x : Str) (n : Int) : Decidable (MulOk x n) := inferInstanceAs (Decidable (_ ∧ _ ∧ _))
def okS (n : Nat) : Bool := decide (n ≤ sizeLine)
def cdat (p q : PV) : Option (PyData × PyData) := match p.dat, q.dat with
  | some d, some e => if decide (d.depth ≤ 60) then some (d, e) else none
  | _, _ => none
def intsP : List PV → Option (List Int)
  | [] => some []
  | .int i :: r => (intsP r).map (i :: ·)
  | _ => none
def strsP : List PV → Option (List Str)
  | [] => some []
  | .str i :: r => (strsP r).map (i :: ·)
  | _ => none
def boolsP : List PV → Option (List Bool)
  | [] => some []
  | .bl i :: r => (boolsP r).map (i :: ·)
  | _ => none
def flat : PV → Bool
  | .non => true
  | .bl _ => true
  | .int _ => true
  | .str _ => true
  | _ => false
def flatIn (x : PV) (xs : List PV) : Option Bool := match x.dat, PV.datL xs with
  | some d, some ds => some (ds.any fun z => PyData.eqv z d)
  | _, _ => none
def inSeq (x : PV) (xs : List PV) : Option Bool := match x.dat, PV.datL xs with
  | some d, some ds => if SeqAt.shaped d && SeqAt.shaped (.list ds) then some (ds.any fun z => PyData.eqv z d) else none
  | _, _ => none
/-- a < b, by data -/
def ltD (p q : PV) : Option Bool := match p.dat, q.dat with
  | some d, some e => if PySem.W.alike d e && decide (min d.depth e.depth ≤ 64) then some (PySem.W.dataLt d e) else none
  | _, _ => none
def cmpN : CmpOp → PV → PV → Option Bool
  | .Eq, p, q => (cdat p q).map fun z => PyData.eqv z.1 z.2
  | .NotEq, p, q => (cdat p q).map fun z => !PyData.eqv z.1 z.2
  | .Lt, .int i, .int j => some (decide (i < j))
  | .LtE, .int i, .int j => some (decide (i ≤ j))
  | .Gt, .int i, .int j => some (decide (j < i))
  | .GtE, .int i, .int j => some (decide (j ≤ i))
  | .Lt, .str i, .str j => some (decide (i.cps.toList < j.cps.toList))
  | .Lt, .tup xs, .tup ys => ltD (.tup xs) (.tup ys)
  | .LtE, .str i, .str j => some (decide (i.cps.toList ≤ j.cps.toList))
  | .Is, p, .non => (match p with | .non => some true | _ => some false)
  | .IsNot, p, .non => (match p with | .non => some false | _ => some true)
  | .In, p, .lst _ xs => if flat p && xs.all flat then flatIn p xs else inSeq p xs
  | .In, p, .tup xs => if flat p && xs.all flat then flatIn p xs else none
  | .In, .str i, .str j => some (!(Builtin.Str.occurrences j i 0 j.length 1).isEmpty)
  | .NotIn, p, .lst _ xs => if flat p && xs.all flat then (flatIn p xs).map (!·) else (inSeq p xs).map (!·)
  | .NotIn, p, .tup xs => if flat p && xs.all flat then (flatIn p xs).map (!·) else none
  | .NotIn, .str i, .str j => some (Builtin.Str.occurrences j i 0 j.length 1).isEmpty
  | _, _, _ => none
def binN : Operator → PV → PV → Option PV
  | .Add, .int i, .int j => some (.int (i + j))
  | .Add, .str i, .str j => if okS (i.length + j.length) then some (.str (i ++ j)) else none
  | .Add, .lst _ xs, .lst _ ys => if okS (xs.length + ys.length) && PV.fzL xs && PV.fzL ys then some (.lst true (xs ++ ys)) else none
  | .Add, .tup xs, .tup ys => if okS (xs.length + ys.length) && PV.fzL xs && PV.fzL ys && !xs.isEmpty then some (.tup (xs ++ ys)) else none
  | .Sub, .int i, .int j => some (.int (i - j))
  | .Mult, .int i, .int j => if decide ((-(2 ^ 64) < i ∧ i < 2 ^ 64) ∨ (-(2 ^ 64) < j ∧ j < 2 ^ 64)) then some (.int (i * j)) else none
  | .Mult, .str x, .int n => if decide (MulOk x n) then some (.str (Txt.mul x n)) else none
  | .Mult, .lst _ xs, .int k => if okS (xs.length * k.toNat) && decide (-(2 ^ 63) ≤ k ∧ k < 2 ^ 63) && PV.fzL xs then some (.lst true (List.replicate k.toNat xs).flatten) else none
  | .Mod, .int i, .int j => if decide (0 < j) then some (.int (i % j)) else none
  | .FloorDiv, .int i, .int j => if decide (0 < j ∧ j.natAbs.log2 < 9000) then some (.int (i / j)) else none
  | .Pow, .int i, .int j => if decide (0 ≤ j ∧ j ≤ 1000000 ∧ i.natAbs < 2 ^ 64) then some (.int (i ^ j.toNat)) else none
  | _, _, _ => none
/-- a list's, a tuple's items -/
def seqOf : PV → Option (List PV)
  | .lst _ xs => some xs
  | .lck xs => some xs
  | .tup xs => some xs
  | _ => none
def cutP {α : Type} (xs : List α) (lo hi : Option Int) : List α := (xs.drop (HT.sIx xs.length 0 lo)).take (HT.sIx xs.length xs.length hi - HT.sIx xs.length 0 lo)
def sliceN (p : PV) (lo hi : Option Int) : Option PV := match p with
  | .lst _ xs => if PV.fzL xs then some (.lst true (cutP xs lo hi)) else none
  | .lck xs => if PV.fzL xs then some (.lst true (cutP xs lo hi)) else none
  | .str z => if okS z.length then some (.str (L2.cutS z lo hi)) else none
  | _ => none
def partN : PV → Option Int
  | .int i => some i
  | _ => none
def tyN : PV → Option String
  | .non => some "NoneType"
  | .bl _ => some "bool"
  | .int _ => some "int"
  | .str _ => some "str"
  | .lst _ _ => some "list"
  | .tup _ => some "tuple"
  | _ => none
def isiT (t : String) (T : String) : Bool := t == T || (t == "bool" && T == "int")
def maxI : Int → List Int → Int
  | a, [] => a
  | a, b :: r => maxI (if b > a then b else a) r
def strLe (a b : Str) : Bool := decide (a.cps.toList ≤ b.cps.toList)
def ixP : PV → PV → Option PV
  | p, .int i => (match p with
    | .str z => if okS z.length then (L2.atI z.cps.toList i).map fun c => .str ⟨#[c]⟩ else none
    | p => match seqOf p with
      | some xs => (match L2.atI xs i with
        | some x => if x.fz then some x else none
        | none => none)
      | none => none)
  | _, _ => none
def lenP : PV → Option PV
  | .str x => if okS x.length then some (.int x.length) else none
  | p => (seqOf p).map fun xs => .int xs.length
def listP (p : PV) : Option PV := match seqOf p with
  | some xs => if PV.fzL xs then some (.lst true xs) else none
  | none => none
def tupleP : PV → Option PV
  | .lst _ xs => if PV.fzL xs then some (.tup xs) else none
  | .tup xs => if PV.fzL xs then some (.tup xs) else none
  | _ => none
def intP : PV → Option PV
  | .int i => some (.int i)
  | .bl b => some (.int (if b then 1 else 0))
  | _ => none
def strP : PV → Option PV
  | .int i => if decide (i.natAbs.log2 < 1920) then some (.str (toString i)) else none
  | _ => none
def lstOf : PV → Option (List PV)
  | .lst _ xs => some xs
  | _ => none
def maxP (p : PV) : Option PV := match (lstOf p).bind intsP with
  | some (n :: ns) => some (.int (maxI n ns))
  | _ => none
def intLe (a b : Int) : Bool := decide (a ≤ b)
def sortedP (p : PV) : Option PV := (lstOf p).bind fun xs => match intsP xs with
    | some ns => some (.lst true ((ns.mergeSort intLe).map .int))
    | none => (strsP xs).map fun ys => .lst true ((ys.mergeSort strLe).map .str)
def isiOk : List String := ["int", "str", "bool", "list", "tuple"]
def isiP (p q : PV) : Option PV := match tyN p, q with
  | some t, .ty T => if isiOk.contains T then some (.bl (isiT t T)) else none
  | _, _ => none
def joinP (p q : PV) : Option PV := match p, (lstOf q).bind strsP with
  | .str z, some ys => if decide ((ys.map (·.length)).sum + ys.length * z.length ≤ 16777216) then some (.str (Txt.join z ys)) else none
  | _, _ => none
def opN : Op → List PV → Option PV
  | .bin o, [p, q] => binN o p q
  | .cmp o, [p, q] => (cmpN o p q).map .bl
  | .neg, [p] => (match p with
    | .int i => some (.int (-i))
    | _ => none)
  | .not, [p] => (match p with
    | .bl b => some (.bl (!b))
    | _ => none)
  | .ix, [p, q] => ixP p q
  | .slice false false, [p] => sliceN p none none
  | .slice true false, [p, a] => (partN a).bind fun i => sliceN p (some i) none
  | .slice false true, [p, b] => (partN b).bind fun j => sliceN p none (some j)
  | .back, [p] => (lstOf p).bind fun xs => if PV.fzL xs then some (.lst true xs.reverse) else none
  | .len, [p] => lenP p
  | .list, [p] => listP p
  | .tuple, [p] => tupleP p
  | .int, [p] => intP p
  | .str, [p] => strP p
  | .all, [p] => ((lstOf p).bind boolsP).map fun bs => .bl (bs.all id)
  | .any, [p] => ((lstOf p).bind boolsP).map fun bs => .bl (bs.any id)
  | .sum, [p] => ((lstOf p).bind intsP).map fun ns => .int ns.sum
  | .max, [p] => maxP p
  | .sorted, [p] => sortedP p
  | .isi, [p, q] => isiP p q
  | .join, [p, q] => joinP p q
  | .min2, [p, q] => (match p, q with
    | .int i, .int j => some (.int (if j < i then j else i))
    | _, _ => none)
  | _, _ => none

/-! ### the evaluator -/
/-- what it asks: the calls of the text's defs (one level less), which of their parameters may be lent, turns for a while -/
structure Cf where
  call : Str → List PV → CR
  lend : Str → List Bool
  fuel : Nat
  cur : Option PX

/-- an operand: a name that is read, or a value -/
inductive OV where
  | vw (i : Nat) | vl (p : PV) | vi (i k : Nat)
def Fr.at (ρ : Fr) (i : Nat) : Option PV := ρ.getD i none
def rsv (ρ : Fr) : OV → Option PV
  | .vw i => ρ.at i
  | .vl p => some p
  | .vi i k => (match ρ.at i with
    | some (.tup xs) => xs[k]?
    | _ => none)
def rsvL (ρ : Fr) : List OV → Option (List PV)
  | [] => some []
  | o :: r => match rsv ρ o, rsvL ρ r with
    | some p, some ps => some (p :: ps)
    | _, _ => none
def opnd (e : IE) (run : Fr → Res PV) (ρ : Fr) : Res OV := match e with
  | .loc i => (match ρ.at i with
    | some _ => .ok (.vw i) ρ
    | none => .bad)
  | .it i k => (match ρ.at i with
    | some (.tup xs) => if k < xs.length then .ok (.vi i k) ρ else .bad
    | _ => .bad)
  | _ => (run ρ).bind fun p ρ' => .ok (.vl p.frz) ρ'
def truth : PV → Option Bool
  | .non => some false
  | .bl b => some b
  | .int i => some (i != 0)
  | .str x => if okS x.length then some ((x.length : Int) != 0) else none
  | .lst _ xs => some (!xs.isEmpty)
  | .lck xs => some (!xs.isEmpty)
  | .tup xs => some (!xs.isEmpty)
  | _ => none
/-- a value that is to be a bool -/
def asB (r : Res PV) : Res Bool := r.bind fun p ρ => match p with
  | .bl b => .ok b ρ
  | _ => .bad
mutual
def asg : IT → PV → Fr → Option Fr
  | .nm i, p, ρ => if i < ρ.length then some (ρ.set i (some p)) else none
  | .tp ts, p, ρ => match p with
    | .tup xs => asgL ts xs ρ
    | _ => none
def asgL : List IT → List PV → Fr → Option Fr
  | [], [], ρ => some ρ
  | t :: ts, x :: xs, ρ => (asg t x ρ).bind fun ρ1 => asgL ts xs ρ1
  | _, _, _ => none
end
def putL : List Nat → List PV → Fr → Option Fr
  | [], [], ρ => some ρ
  | i :: is, x :: xs, ρ => if i < ρ.length then putL is xs (ρ.set i (some x)) else none
  | _, _, _ => none
/-- the slots of a comprehension's own names: emptied -/
def wipeF (ρ : Fr) : List Nat → Fr
  | [] => ρ
  | i :: r => (wipeF ρ r).set i none
def frzAt (ρ : Fr) : List Nat → Fr
  | [] => ρ
  | i :: r => (frzAt ρ r).set i (((frzAt ρ r).at i).map PV.frz)
def putAt (ρ0 ρ : Fr) : List Nat → Fr
  | [] => ρ
  | i :: r => match ρ0.at i with
    | some p => (putAt ρ0 ρ r).set i (some p)
    | none => putAt ρ0 ρ r
def backAt (ρ0 ρ : Fr) (own : List Nat) : Fr := putAt ρ0 (wipeF ρ own) own
/-- the comprehension's loop: turn gives the item, or nothing (a test failed) -/
def compL (turn : PV → Fr → Res (Option PV)) (own : List Nat) : List PV → Fr → List PV → Res (List PV)
  | [], ρ, acc => .ok acc ρ
  | x :: r, ρ, acc => match turn x ρ with
    | .ok (some y) ρ1 => if acc.length < sizeLine then compL turn own r (wipeF ρ1 own) (acc ++ [y.frz]) else .bad
    | .ok none ρ1 => compL turn own r (wipeF ρ1 own) acc
    | _ => .bad
def vwLen (ρ : Fr) (i n : Nat) : Bool := match ρ.at i with
  | some (.lst _ xs) => decide (xs.length = n)
  | _ => false
/-- the j-th item of the list in slot i, whose length is n -/
def vwAt (ρ : Fr) (i n j : Nat) : Option PV := match ρ.at i with
  | some (.lst _ xs) => if xs.length = n then (match xs[j]? with
    | some x => if x.fz then some x else none
    | none => none) else none
  | _ => none
def compV (turn : PV → Fr → Res (Option PV)) (own : List Nat) (i n : Nat) : Nat → Fr → List PV → Res (List PV)
  | 0, ρ, acc => if vwLen ρ i n then .ok acc ρ else .bad
  | k + 1, ρ, acc => match vwAt ρ i n (n - (k + 1)) with
    | some x => (match turn x ρ with
      | .ok (some y) ρ1 => if acc.length < sizeLine then compV turn own i n k (wipeF ρ1 own) (acc ++ [y.frz]) else .bad
      | .ok none ρ1 => compV turn own i n k (wipeF ρ1 own) acc
      | _ => .bad)
    | none => .bad
def forV (turn : PV → Fr → Res Fl) (i n : Nat) : Nat → Fr → Res Fl
  | 0, ρ => if vwLen ρ i n then .ok .nx ρ else .bad
  | k + 1, ρ => match vwAt ρ i n (n - (k + 1)) with
    | some x => (match turn x ρ with
      | .ok .nx ρ1 => forV turn i n k ρ1
      | .ok .ct ρ1 => forV turn i n k ρ1
      | .ok .bk ρ1 => .ok .nx ρ1
      | z => z)
    | none => .bad
def lenAt (ρ : Fr) (i : Nat) : Option Nat := match ρ.at i with
  | some (.lst _ xs) => some xs.length
  | _ => none
/-- a for's loop -/
def forL (turn : PV → Fr → Res Fl) : List PV → Fr → Res Fl
  | [], ρ => .ok .nx ρ
  | x :: r, ρ => match turn x ρ with
    | .ok .nx ρ1 => forL turn r ρ1
    | .ok .ct ρ1 => forL turn r ρ1
    | .ok .bk ρ1 => .ok .nx ρ1
    | z => z
def whlL (t : Fr → Res Bool) (body : Fr → Res Fl) : Nat → Fr → Res Fl
  | 0, _ => .bad
  | n + 1, ρ => (t ρ).bind fun b ρ1 => if b then (match body ρ1 with
    | .ok .nx ρ2 => whlL t body n ρ2
    | .ok .ct ρ2 => whlL t body n ρ2
    | .ok .bk ρ2 => .ok .nx ρ2
    | z => z) else .ok .nx ρ1
/-- an argument: lent from its slot (left empty meanwhile), or a value -/
def argd (lend : Bool) (e : IE) (run : Fr → Res PV) (ρ : Fr) : Res (PV × Option Nat) := match lend, e with
  | true, .loc i => (match ρ.at i with
    | some p => if p.fz then .ok (p, none) ρ else .ok (p, some i) (ρ.set i none)
    | none => .bad)
  | _, _ => (run ρ).bind fun p ρ' => .ok (p.frz, none) ρ'
/-- an argument of a call, as it is reckoned: a name that may be lent stays a name -/
def opA (lend : Bool) (e : IE) (run : Fr → Res PV) (ρ : Fr) : Res OV := match lend with
  | true => opnd e run ρ
  | false => (run ρ).bind fun p ρ' => .ok (.vl p.frz) ρ'
/-- all are reckoned: what is lent is taken out of its slot -/
def takeA : List OV → Fr → Option (List (PV × Option Nat) × Fr)
  | [], ρ => some ([], ρ)
  | .vl p :: r, ρ => (takeA r ρ).map fun z => ((p, none) :: z.1, z.2)
  | .vw i :: r, ρ => match ρ.at i with
    | some p => if p.fz then (takeA r ρ).map fun z => ((p, none) :: z.1, z.2) else (takeA r (ρ.set i none)).map fun z => ((p, some i) :: z.1, z.2)
    | none => none
  | .vi _ _ :: _, _ => none
def give : List (Option Nat) → Fr → Fr → Fr
  | some i :: r, a :: as, ρ => give r as (ρ.set i a)
  | none :: r, _ :: as, ρ => give r as ρ
  | _, _, ρ => ρ
def callR (c : Cf) (k : Str) (as : List (PV × Option Nat)) (ρ : Fr) : Res PV := match c.call k (as.map (·.1)) with
  | .ok r as' => .ok r (give (as.map (·.2)) as' ρ)
  | .ex x as' => .ex x (give (as.map (·.2)) as' ρ)
  | .bad => .bad
def rngI (lo : Int) : Nat → List PV
  | 0 => []
  | n + 1 => .int lo :: rngI (lo + 1) n
def small62 (i : Int) : Bool := decide (-(2 ^ 62) ≤ i ∧ i < 2 ^ 62)
def rngN : List PV → Option (List PV)
  | [.int j] => if small62 j then some (rngI 0 j.toNat) else none
  | [.int i, .int j] => if small62 i && small62 j then some (rngI i (j - i).toNat) else none
  | _ => none
def enmN (k : Int) : List PV → List PV
  | [] => []
  | x :: r => .tup [.int k, x] :: enmN (k + 1) r
def zipN : List PV → List PV → List PV
  | x :: r, y :: s => .tup [x, y] :: zipN r s
  | _, _ => []

def srcOf : PV → Option (List PV)
  | .str x => some (x.cps.toList.map fun k => .str ⟨#[k]⟩)
  | p => seqOf p
def enmP : List PV → Option (List PV)
  | [.lst _ xs] => some (enmN 0 xs)
  | [.lck xs] => some (enmN 0 xs)
  | _ => none
def zipP : List PV → Option (List PV)
  | [.lst _ xs, .lst _ ys] => some (zipN xs ys)
  | _ => none
/-- the slots that a target stores -/
def IT.slots : IT → List Nat
  | .nm i => [i]
  | .tp ts => slotsL ts
where slotsL : List IT → List Nat
  | [] => []
  | t :: ts => t.slots ++ slotsL ts

/-- what a display of these is worth (none: it is none) -/
def dspP : Option Bool → List PV → Option PV
  | none, ps => (match ps with
    | [p] => some p
    | _ => none)
  | some true, ps => some (.tup ps)
  | some false, ps => some (.lst false ps)
def fitO (os : List OV) (ρ : Fr) : Res (List OV) := if okS os.length then .ok os ρ else .bad
mutual
def evE (c : Cf) : IE → Fr → Res PV
  | .cst p, ρ => .ok p ρ
  | .loc i, ρ => (match ρ.at i with
    | some p => .ok p.frz (ρ.set i (some p.frz))
    | none => .bad)
  | .mov i, ρ => (match ρ.at i with
    | some p => .ok p (ρ.set i none)
    | none => .bad)
  | .op f es, ρ => (evO c es ρ).bind fun os ρ1 => match rsvL ρ1 os with
    | some ps => (match opN f ps with
      | some r => .ok r ρ1
      | none => .bad)
    | none => .bad
  | .chain f g a b d, ρ => (opnd a (evE c a) ρ).bind fun x ρ1 => (opnd b (evE c b) ρ1).bind fun y ρ2 =>
      match rsv ρ2 x, rsv ρ2 y with
      | some p, some q => (match cmpN f p q with
        | some true => (opnd d (evE c d) ρ2).bind fun z ρ3 => (match rsv ρ3 y, rsv ρ3 z with
          | some q, some r => (match cmpN g q r with
            | some k => .ok (.bl k) ρ3
            | none => .bad)
          | _, _ => .bad)
        | some false => .ok (.bl false) ρ2
        | none => .bad)
      | _, _ => .bad
  | .dcmp f t es u ds, ρ => ((evO c es ρ).bind fitO).bind fun x ρ1 => ((evO c ds ρ1).bind fitO).bind fun y ρ2 => match (rsvL ρ2 x).bind (dspP t), (rsvL ρ2 y).bind (dspP u) with
      | some p, some q => (match cmpN f p q with
        | some k => .ok (.bl k) ρ2
        | none => .bad)
      | _, _ => .bad
  | .slc e a b, ρ => (opnd e (evE c e) ρ).bind fun x ρ1 => (opnd a (evE c a) ρ1).bind fun y ρ2 => (match (rsv ρ2 y).bind partN with
      | some i => (opnd b (evE c b) ρ2).bind fun z ρ3 => (match rsv ρ3 x, (rsv ρ3 z).bind partN with
        | some p, some j => (match sliceN p (some i) (some j) with
          | some r => .ok r ρ3
          | none => .bad)
        | _, _ => .bad)
      | none => .bad)
  | .and a b, ρ => (asB (evE c a ρ)).bind fun k ρ1 => if k then evE c b ρ1 else .ok (.bl false) ρ1
  | .or a b, ρ => (asB (evE c a ρ)).bind fun k ρ1 => if k then .ok (.bl true) ρ1 else evE c b ρ1
  | .ite t a b, ρ => (evT c t (evE c t) ρ).bind fun k ρ1 => if k then evE c a ρ1 else evE c b ρ1
  | .lst es, ρ => (evL c es ρ).bind fun ps ρ1 => if okS ps.length then .ok (.lst true (PV.frzL ps)) ρ1 else .bad
  | .tup es, ρ => (evL c es ρ).bind fun ps ρ1 => if okS ps.length then .ok (.tup (PV.frzL ps)) ρ1 else .bad
  | .call k ls es, ρ => (evA c ls es ρ).bind fun os ρ1 => match takeA os ρ1 with
      | some z => callR c k z.1 z.2
      | none => .bad
  | .comp elt tg src ifs own, ρ => (evSrc c src ρ).bind fun xs ρ1 =>
      match compL (fun x ρ => match asg tg x ρ with
        | some ρ2 => (evIfs c ifs ρ2).bind fun k ρ3 => if k then (evE c elt ρ3).bind fun y ρ4 => .ok (some y) ρ4 else .ok none ρ3
        | none => .bad) own xs (wipeF (frzAt ρ1 own) own) [] with
      | .ok ys ρ2 => .ok (.lst true ys) (backAt (frzAt ρ1 own) ρ2 own)
      | _ => .bad
  | .compv elt tg i ifs own, ρ => (match lenAt ρ i, own.contains i with
    | some n, false => (match compV (fun x ρ => match asg tg x ρ with
        | some ρ2 => (evIfs c ifs ρ2).bind fun k ρ3 => if k then (evE c elt ρ3).bind fun y ρ4 => .ok (some y) ρ4 else .ok none ρ3
        | none => .bad) own i n n (wipeF (frzAt ρ own) own) [] with
      | .ok ys ρ2 => .ok (.lst true ys) (backAt (frzAt ρ own) ρ2 own)
      | _ => .bad)
    | _, _ => .bad)
  | .tupo es, ρ => (evL c es ρ).bind fun ps ρ1 => if okS ps.length then .ok (.tup ps) ρ1 else .bad
  | .it _ _, _ => .bad
  | .xf f, ρ => (match c.cur.bind fun x => x.fs.lookup f with
    | some p => .ok p ρ
    | none => .bad)
  | .xi T, ρ => (match c.cur.bind fun x => x.xd.ty.lookup T with
    | some b => .ok (.bl b) ρ
    | none => .bad)
/-- a test; run: its value -/
def evT (c : Cf) : IE → (Fr → Res PV) → Fr → Res Bool
  | .and a b, _, ρ => (evT c a (evE c a) ρ).bind fun k ρ1 => if k then evT c b (evE c b) ρ1 else .ok false ρ1
  | .or a b, _, ρ => (evT c a (evE c a) ρ).bind fun k ρ1 => if k then .ok true ρ1 else evT c b (evE c b) ρ1
  | .op .not [e], _, ρ => (evT c e (evE c e) ρ).bind fun k ρ1 => .ok (!k) ρ1
  | .op f es, run, ρ => asB (run ρ)
  | .chain _ _ _ _ _, run, ρ => asB (run ρ)
  | .dcmp _ _ _ _ _, run, ρ => asB (run ρ)
  | e, run, ρ => (opnd e run ρ).bind fun o ρ1 => match rsv ρ1 o with
    | some p => (match truth p with
      | some k => .ok k ρ1
      | none => .bad)
    | none => .bad
def evIfs (c : Cf) : List IE → Fr → Res Bool
  | [], ρ => .ok true ρ
  | [e], ρ => evT c e (evE c e) ρ
  | _, _ => .bad
def evO (c : Cf) : List IE → Fr → Res (List OV)
  | [], ρ => .ok [] ρ
  | e :: es, ρ => (opnd e (evE c e) ρ).bind fun o ρ1 => (evO c es ρ1).bind fun os ρ2 => .ok (o :: os) ρ2
def evL (c : Cf) : List IE → Fr → Res (List PV)
  | [], ρ => .ok [] ρ
  | e :: es, ρ => (evE c e ρ).bind fun p ρ1 => (evL c es ρ1).bind fun ps ρ2 => .ok (p :: ps) ρ2
def evA (c : Cf) : List Bool → List IE → Fr → Res (List OV)
  | _, [], ρ => .ok [] ρ
  | ls, e :: es, ρ => (opA (ls.headD false) e (evE c e) ρ).bind fun o ρ1 => (evA c ls.tail es ρ1).bind fun os ρ2 => .ok (o :: os) ρ2
def evSrc (c : Cf) : ISrc → Fr → Res (List PV)
  | .it e, ρ => (evE c e ρ).bind fun p ρ1 => match srcOf p.frz with
    | some xs => .ok xs ρ1
    | none => .bad
  | .rng es, ρ => (evO c es ρ).bind fun os ρ1 => match (rsvL ρ1 os).bind rngN with
    | some xs => .ok xs ρ1
    | none => .bad
  | .enm e, ρ => (argd false e (evE c e) ρ).bind fun a ρ1 => match enmP [a.1] with
    | some xs => .ok xs ρ1
    | none => .bad
  | .zp a b, ρ => (argd false a (evE c a) ρ).bind fun x ρ1 => (argd false b (evE c b) ρ1).bind fun y ρ2 => match zipP [x.1, y.1] with
    | some xs => .ok xs ρ2
    | none => .bad
end
/-- an end of an except suite: its name's slot is emptied; it raises nothing -/
def sufR (i : Option Nat) (r : Res Fl) : Res Fl := match r, i with
  | .ok f ρ, some i => .ok f (ρ.set i none)
  | .ok f ρ, none => .ok f ρ
  | _, _ => .bad
def Cf.held (c : Cf) (i : Option Nat) (x : PX) : Cf := match i with
  | some _ => { c with cur := some x }
  | none => c
def dropI (i : Option Nat) (ρ : Fr) : Fr := match i with
  | some i => ρ.set i none
  | none => ρ
def fitI (i : Option Nat) (ρ : Fr) : Bool := match i with
  | some i => decide (i < ρ.length)
  | none => true
def isLst : Option PV → Bool
  | some (.lst _ _) => true
  | _ => false
mutual
def evS (c : Cf) : IS → Fr → Res Fl
  | .set i e, ρ => (evE c e ρ).bind fun p ρ1 => if i < ρ1.length then .ok .nx (ρ1.set i (some p)) else .bad
  | .par is es, ρ => (evL c es ρ).bind fun ps ρ1 => match putL is ps ρ1 with
    | some ρ2 => .ok .nx ρ2
    | none => .bad
  | .asg tg e, ρ => (evE c e ρ).bind fun p ρ1 => match asg tg p.frz ρ1 with
    | some ρ2 => .ok .nx ρ2
    | none => .bad
  | .aug i o e, ρ => (match ρ.at i with
    | some q => (evE c e ρ).bind fun p ρ1 => (match q, p with
      | .int a, .int b => (match o with
        | .Add => .ok .nx (ρ1.set i (some (.int (a + b))))
        | .Sub => .ok .nx (ρ1.set i (some (.int (a - b))))
        | _ => .bad)
      | _, _ => .bad)
    | none => .bad)
  | .sub i ix e, ρ => (evE c e ρ).bind fun p ρ1 => if isLst (ρ1.at i) then (opnd ix (evE c ix) ρ1).bind fun o ρ2 => (match ρ2.at i, rsv ρ2 o with
    | some (.lst true xs), some (.int k) => (match L2.ixN xs.length k with
      | some j => .ok .nx (ρ2.set i (some (.lst true (xs.set j p.frz))))
      | none => .bad)
    | _, _ => .bad) else .bad
  | .app i e, ρ => if isLst (ρ.at i) then (evE c e ρ).bind fun p ρ1 => (match ρ1.at i with
    | some (.lst true xs) => if xs.length < sizeLine then .ok .nx (ρ1.set i (some (.lst true (xs ++ [p.frz])))) else .bad
    | _ => .bad) else .bad
  | .ext i e, ρ => if isLst (ρ.at i) then (evE c e ρ).bind fun p ρ1 => (match ρ1.at i, p.frz with
    | some (.lst true xs), .lst _ ys => if xs.length + ys.length ≤ sizeLine then .ok .nx (ρ1.set i (some (.lst true (xs ++ ys)))) else .bad
    | _, _ => .bad) else .bad
  | .exp e, ρ => (evE c e ρ).bind fun _ ρ1 => .ok .nx ρ1
  | .ret e, ρ => (evE c e ρ).bind fun p ρ1 => .ok (.rt p) ρ1
  | .retN, ρ => .ok (.rt .non) ρ
  | .ife t a b, ρ => (evT c t (evE c t) ρ).bind fun k ρ1 => if k then evB c a ρ1 else evB c b ρ1
  | .fors tg src body, ρ => (evSrc c src ρ).bind fun xs ρ1 => forL (fun x ρ => match asg tg x ρ with
      | some ρ2 => evB c body ρ2
      | none => .bad) xs ρ1
  | .forv tg i body, ρ => (match lenAt ρ i with
    | some n => forV (fun x ρ => match asg tg x ρ with
      | some ρ2 => evB c body ρ2
      | none => .bad) i n n ρ
    | none => .bad)
  | .whl t body, ρ => whlL (evT c t (evE c t)) (evB c body) c.fuel ρ
  | .brk, ρ => .ok .bk ρ
  | .cnt, ρ => .ok .ct ρ
  | .pas, ρ => .ok .nx ρ
  | .rai d es, ρ => (evL c es ρ).bind fun ps ρ1 => if ps.length = d.fs.length then .ex ⟨d, d.fs.zip (PV.frzL ps)⟩ ρ1 else .bad
  | .tryx body hs, ρ => (match evB c body ρ with
    | .ex x ρ1 => evH c hs x ρ1
    | z => z)
  | .appi i k x, ρ => (match ρ.at i with
    | some (.tup xs) => (match xs[k]? with
      | some (.lst true ys) => if ys.length < sizeLine then .ok .nx (ρ.set i (some (.tup (xs.set k (.lst true (ys ++ [.str x])))))) else .bad
      | _ => .bad)
    | _ => .bad)
def evH (c : Cf) : IH → PX → Fr → Res Fl
  | .nil, x, ρ => .ex x ρ
  | .cons k i suite r, x, ρ => (match x.xd.rel.lookup k with
    | some true => if fitI i ρ then sufR i (evB (c.held i x) suite (dropI i ρ)) else .bad
    | some false => evH c r x ρ
    | none => .bad)
def evB (c : Cf) : List IS → Fr → Res Fl
  | [], ρ => .ok .nx ρ
  | s :: r, ρ => match evS c s ρ with
    | .ok .nx ρ1 => evB c r ρ1
    | z => z
end
/-- a def of the text: how many slots, how many parameters, its body -/
structure Fd where
  n : Nat
  ps : Nat
  lend : List Bool
  body : List IS
/-- what a caller sees again: the slots that were lent -/
def maskF : List Bool → Fr → Fr
  | _, [] => []
  | [], _ :: r => none :: maskF [] r
  | b :: bs, x :: r => (if b then x else none) :: maskF bs r
def runF (c : Cf) (d : Fd) (as : List PV) : CR :=
  if as.length = d.ps then (match evB c d.body (as.map some ++ List.replicate (d.n - d.ps) none) with
    | .ok (.rt p) ρ => .ok p (maskF d.lend (ρ.take d.ps))
    | .ok .nx ρ => .ok .non (maskF d.lend (ρ.take d.ps))
    | .ok _ _ => .bad
    | .ex x ρ => .ex x (maskF d.lend (ρ.take d.ps))
    | .bad => .bad) else .bad
/-- the defs of the text by their keys -/
abbrev Tb := Str → Option Fd
def lendOf (T : Tb) (k : Str) : List Bool := match T k with
  | some d => d.lend
  | none => []
def callN (T : Tb) (fuel : Nat) : Nat → Str → List PV → CR
  | 0, _, _ => .bad
  | n + 1, k, as => match T k with
    | some d => runF ⟨callN T fuel n, lendOf T, fuel, none⟩ d as
    | none => .bad
mutual
theorem PV.frz_fz : ∀ (p : PV), p.frz.fz = true
  | .non => rfl
  | .bl b => rfl
  | .int i => rfl
  | .str x => rfl
  | .ty n => rfl
  | .fn k => rfl
  | .lst o xs => by simp only [PV.frz, PV.fz, PV.frzL_fz xs]; rfl
  | .lck xs => by simp only [PV.frz, PV.fz, PV.frzL_fz xs]
  | .tup xs => by simp only [PV.frz, PV.fz, PV.frzL_fz xs]
theorem PV.frzL_fz : ∀ (p : List PV), PV.fzL (PV.frzL p) = true
  | [] => rfl
  | x :: r => by simp only [PV.frzL, PV.fzL, PV.frz_fz x, PV.frzL_fz r]; rfl
end
mutual
theorem PV.fz_frz : ∀ (p : PV), p.fz = true → p.frz = p
  | .non, _ => rfl
  | .bl b, _ => rfl
  | .int i, _ => rfl
  | .str x, _ => rfl
  | .ty n, _ => rfl
  | .fn k, _ => rfl
  | .lst o xs, h => by
    simp only [PV.fz, Bool.and_eq_true, Bool.not_eq_true'] at h
    simp only [PV.frz, PV.fzL_frzL xs h.2, h.1]
  | .lck xs, h => by simp only [PV.fz] at h; simp only [PV.frz, PV.fzL_frzL xs h]
  | .tup xs, h => by simp only [PV.fz] at h; simp only [PV.frz, PV.fzL_frzL xs h]
theorem PV.fzL_frzL : ∀ (p : List PV), PV.fzL p = true → PV.frzL p = p
  | [], _ => rfl
  | x :: r, h => by
    simp only [PV.fzL, Bool.and_eq_true] at h
    simp only [PV.frzL, PV.fz_frz x h.1, PV.fzL_frzL r h.2]
end
end Y
end
section
set_option Elab.async false
set_option linter.all false
set_option maxRecDepth 100000
set_option maxHeartbeats 1000000
/-! Y2: pure values in the abstract heap: a frozen part G, cells that are held alone. -/
namespace Y
open PySem L2

abbrev Cell := Addr × HO
/-- the exception that an except suite holds: its name's slot, where it stands, its dict, what it is -/
structure Xc where
  i : Nat
  a : Addr
  d : Addr
  x : PX
/-- where the defs and classes of the text stand; the exception that is held -/
structure Ad where
  fn : Str → Addr
  cur : Option Xc
instance : CoeFun Ad fun _ => Str → Addr := ⟨Ad.fn⟩
def Ad.base (a : Ad) : Ad := ⟨a.fn, none⟩
mutual
/-- p stands as v: what is frozen lies in G, what is held alone in the cells -/
inductive Rep (ad : Ad) (K : PySem.W.Frag) (G : Hp) : PV → V → List Cell → Prop
  | non : Rep ad K G .non .non []
  | bl (b : Bool) : Rep ad K G (.bl b) (.bl b) []
  | int (i : Int) : Rep ad K G (.int i) (.int i) []
  | str (x : Str) : Rep ad K G (.str x) (.str x) []
  | ty (n : String) : Rep ad K G (.ty n) (.ty n) []
  | fn (k : Str) : Rep ad K G (.fn k) (.ref (ad k)) []
  | lstF {a : Addr} {xs : List PV} {vs : List V} {cs : List Cell} : G a = some (.lst vs) → RepL ad K G xs vs cs → Rep ad K G (.lst false xs) (.ref a) cs
  | lstO {a : Addr} {xs : List PV} {vs : List V} {cs : List Cell} : RepL ad K G xs vs cs → Rep ad K G (.lst true xs) (.ref a) ((a, .lst vs) :: cs)
  | lck {a : Addr} {xs : List PV} {vs : List V} : SqL K G a vs → RepL ad K G xs vs [] → Rep ad K G (.lck xs) (.ref a) []
  | tup {a : Addr} {xs : List PV} {vs : List V} {cs : List Cell} : G a = some (.tup vs) → RepL ad K G xs vs cs → Rep ad K G (.tup xs) (.ref a) cs
inductive RepL (ad : Ad) (K : PySem.W.Frag) (G : Hp) : List PV → List V → List Cell → Prop
  | nil : RepL ad K G [] [] []
  | cons {x : PV} {xs : List PV} {v : V} {vs : List V} {c cs : List Cell} : Rep ad K G x v c → RepL ad K G xs vs cs → RepL ad K G (x :: xs) (v :: vs) (c ++ cs)
end
def Sub (G G' : Hp) : Prop := ∀ p o, G p = some o → G' p = some o
theorem Sub.refl (G : Hp) : Sub G G := fun _ _ h => h
theorem Sub.trans {G G1 G2 : Hp} (a : Sub G G1) (b : Sub G1 G2) : Sub G G2 := fun p o h => b p o (a p o h)
theorem Sub.rd {G G' : Hp} (s : Sub G G') {a : Addr} {u : HO} (h : Rd G a u) : Rd G' a u := h.elim (fun z => .inl (s _ _ z)) fun ⟨o, z⟩ => .inr ⟨o, s _ _ z⟩
theorem Sub.sql {K : PySem.W.Frag} {G G' : Hp} (s : Sub G G') {a : Addr} {vs : List V} (h : SqL K G a vs) : SqL K G' a vs := h.elim (fun z => .inl (s.rd z)) .inr

variable {ad : Ad} {K : PySem.W.Frag} {G G' G1 G2 H H' H1 H2 : Hp}
mutual
theorem Rep.mono (s : Sub G G') : ∀ {p : PV} {v : V} {c : List Cell}, Rep ad K G p v c → Rep ad K G' p v c
  | _, _, _, .non => .non
  | _, _, _, .bl b => .bl b
  | _, _, _, .int i => .int i
  | _, _, _, .str x => .str x
  | _, _, _, .ty n => .ty n
  | _, _, _, .fn k => .fn k
  | _, _, _, .lstF h r => .lstF (s _ _ h) (RepL.mono s r)
  | _, _, _, .lstO r => .lstO (RepL.mono s r)
  | _, _, _, .lck h r => .lck (s.sql h) (RepL.mono s r)
  | _, _, _, .tup h r => .tup (s _ _ h) (RepL.mono s r)
theorem RepL.mono (s : Sub G G') : ∀ {p : List PV} {v : List V} {c : List Cell}, RepL ad K G p v c → RepL ad K G' p v c
  | _, _, _, .nil => .nil
  | _, _, _, .cons r t => .cons (Rep.mono s r) (RepL.mono s t)
end
mutual
/-- frozen: the cells have come into the frozen part -/
theorem Rep.frz (s : Sub G G') : ∀ {p : PV} {v : V} {c : List Cell}, Rep ad K G p v c → (∀ z ∈ c, G' z.1 = some z.2) → Rep ad K G' p.frz v []
  | _, _, _, .non, _ => .non
  | _, _, _, .bl b, _ => .bl b
  | _, _, _, .int i, _ => .int i
  | _, _, _, .str x, _ => .str x
  | _, _, _, .ty n, _ => .ty n
  | _, _, _, .fn k, _ => .fn k
  | _, _, _, .lstF h r, hc => .lstF (s _ _ h) (RepL.frz s r hc)
  | _, _, _, .lstO r, hc => .lstF (hc _ List.mem_cons_self) (RepL.frz s r fun z hz => hc z (List.mem_cons_of_mem _ hz))
  | _, _, _, .lck h r, _ => .lck (s.sql h) (RepL.frz s r fun _ z => nomatch z)
  | _, _, _, .tup h r, hc => .tup (s _ _ h) (RepL.frz s r hc)
theorem RepL.frz (s : Sub G G') : ∀ {p : List PV} {v : List V} {c : List Cell}, RepL ad K G p v c → (∀ z ∈ c, G' z.1 = some z.2) → RepL ad K G' (PV.frzL p) v []
  | _, _, _, .nil, _ => .nil
  | _, _, _, .cons r t, hc => .cons (c := []) (cs := []) (Rep.frz s r fun z hz => hc z (List.mem_append_left _ hz)) (RepL.frz s t fun z hz => hc z (List.mem_append_right _ hz))
end
mutual
theorem Rep.nocell : ∀ {p : PV} {v : V} {c : List Cell}, Rep ad K G p v c → p.fz = true → c = []
  | _, _, _, .non, _ => rfl
  | _, _, _, .bl b, _ => rfl
  | _, _, _, .int i, _ => rfl
  | _, _, _, .str x, _ => rfl
  | _, _, _, .ty n, _ => rfl
  | _, _, _, .fn k, _ => rfl
  | _, _, _, .lstF h r, e => RepL.nocell r (by simpa [PV.fz] using e)
  | _, _, _, .lstO r, h => absurd h (by simp [PV.fz])
  | _, _, _, .lck h r, _ => rfl
  | _, _, _, .tup (xs := xs) _ r, h => RepL.nocell r h
theorem RepL.nocell : ∀ {p : List PV} {v : List V} {c : List Cell}, RepL ad K G p v c → PV.fzL p = true → c = []
  | _, _, _, .nil, _ => rfl
  | _, _, _, .cons r t, h => by
    simp only [PV.fzL, Bool.and_eq_true] at h
    rw [Rep.nocell r h.1, RepL.nocell t h.2]
    rfl
end
theorem RepL.length : ∀ {p : List PV} {v : List V} {c : List Cell}, RepL ad K G p v c → p.length = v.length
  | _, _, _, .nil => rfl
  | _, _, _, .cons _ t => by simp [RepL.length t]
theorem RepL.get : ∀ {p : List PV} {v : List V} {c : List Cell}, RepL ad K G p v c → ∀ {i : Nat} {x : PV}, p[i]? = some x → ∃ w d, v[i]? = some w ∧ Rep ad K G x w d ∧ ∀ z ∈ d, z ∈ c
  | _, _, _, .nil, i, x, h => by simp at h
  | _, _, _, .cons r t, 0, x, h => by
    simp at h
    subst h
    exact ⟨_, _, rfl, r, fun z hz => List.mem_append_left _ hz⟩
  | _, _, _, .cons r t, i + 1, x, h => by
    obtain ⟨w, d, e1, e2, e3⟩ := RepL.get t (i := i) (x := x) (by simpa using h)
    exact ⟨w, d, by simpa using e1, e2, fun z hz => List.mem_append_right _ (e3 z hz)⟩
theorem RepL.append : ∀ {p q : List PV} {v w : List V} {c d : List Cell}, RepL ad K G p v c → RepL ad K G q w d → RepL ad K G (p ++ q) (v ++ w) (c ++ d)
  | _, _, _, _, _, _, .nil, s => s
  | _, _, _, _, _, _, .cons r t, s => by
    rw [List.append_assoc]
    exact .cons r (RepL.append t s)
theorem RepL.app0 {p q : List PV} {v w : List V} (a : RepL ad K G p v []) (b : RepL ad K G q w []) : RepL ad K G (p ++ q) (v ++ w) [] := RepL.append a b
theorem RepL.cons0 {x : PV} {xs : List PV} {v : V} {vs : List V} (a : Rep ad K G x v []) (b : RepL ad K G xs vs []) : RepL ad K G (x :: xs) (v :: vs) [] := .cons (c := []) (cs := []) a b
theorem RepL.inv0 {x : PV} {xs : List PV} {v : V} {vs : List V} (a : RepL ad K G (x :: xs) (v :: vs) []) : Rep ad K G x v [] ∧ RepL ad K G xs vs [] := by
  generalize e : ([] : List Cell) = c at a
  cases a with
  | cons r t =>
    obtain ⟨rfl, rfl⟩ := List.append_eq_nil_iff.mp e.symm
    exact ⟨r, t⟩
theorem RepL.inv0' {x : PV} {xs : List PV} {vs : List V} (a : RepL ad K G (x :: xs) vs []) : ∃ v ws, vs = v :: ws ∧ Rep ad K G x v [] ∧ RepL ad K G xs ws [] := by
  cases vs with
  | nil => nomatch a
  | cons v ws => exact ⟨v, ws, rfl, a.inv0⟩
theorem RepL.nil' {vs : List V} {c : List Cell} (a : RepL ad K G [] vs c) : vs = [] ∧ c = [] := by
  cases a
  exact ⟨rfl, rfl⟩
theorem RepL.take0 : ∀ (n : Nat) {p : List PV} {v : List V}, RepL ad K G p v [] → RepL ad K G (p.take n) (v.take n) []
  | 0, _, _, _ => .nil
  | n + 1, [], _, h => by obtain ⟨rfl, _⟩ := h.nil'; exact .nil
  | n + 1, x :: p, _, h => by
    obtain ⟨v, ws, rfl, h1, h2⟩ := h.inv0'
    exact .cons0 h1 (RepL.take0 n h2)
theorem RepL.drop0 : ∀ (n : Nat) {p : List PV} {v : List V}, RepL ad K G p v [] → RepL ad K G (p.drop n) (v.drop n) []
  | 0, _, _, h => h
  | n + 1, [], _, h => by obtain ⟨rfl, _⟩ := h.nil'; exact .nil
  | n + 1, x :: p, _, h => by
    obtain ⟨v, ws, rfl, h1, h2⟩ := h.inv0'
    exact RepL.drop0 n h2
theorem RepL.rev0 : ∀ {p : List PV} {v : List V}, RepL ad K G p v [] → RepL ad K G p.reverse v.reverse []
  | [], _, h => by obtain ⟨rfl, _⟩ := h.nil'; exact .nil
  | x :: p, _, h => by
    obtain ⟨v, ws, rfl, h1, h2⟩ := h.inv0'
    rw [List.reverse_cons, List.reverse_cons]
    exact (RepL.rev0 h2).app0 (.cons0 h1 .nil)
theorem RepL.rep0 {p : List PV} {v : List V} (h : RepL ad K G p v []) : ∀ n : Nat, RepL ad K G (List.replicate n p).flatten (List.replicate n v).flatten []
  | 0 => .nil
  | n + 1 => by
    rw [List.replicate_succ, List.replicate_succ, List.flatten_cons, List.flatten_cons]
    exact h.app0 (RepL.rep0 h n)
theorem RepL.set0 : ∀ (i : Nat) {p : List PV} {v : List V} {x : PV} {w : V}, RepL ad K G p v [] → Rep ad K G x w [] → RepL ad K G (p.set i x) (v.set i w) []
  | _, [], _, x, w, h, _ => by obtain ⟨rfl, _⟩ := h.nil'; exact .nil
  | 0, y :: p, _, x, w, h, r => by
    obtain ⟨v, ws, rfl, h1, h2⟩ := h.inv0'
    exact .cons0 r h2
  | i + 1, y :: p, _, x, w, h, r => by
    obtain ⟨v, ws, rfl, h1, h2⟩ := h.inv0'
    exact .cons0 h1 (RepL.set0 i h2 r)

mutual
theorem Rep.re {ad' : Ad} (h : ad.fn = ad'.fn) : ∀ {p : PV} {v : V} {c : List Cell}, Rep ad K G p v c → Rep ad' K G p v c
  | _, _, _, .non => .non
  | _, _, _, .bl b => .bl b
  | _, _, _, .int i => .int i
  | _, _, _, .str x => .str x
  | _, _, _, .ty n => .ty n
  | _, _, _, .fn k => by
    have e : ad.fn k = ad'.fn k := congrFun h k
    show Rep ad' K G (.fn k) (.ref (ad.fn k)) []
    rw [e]
    exact .fn k
  | _, _, _, .lstF g r => .lstF g (RepL.re h r)
  | _, _, _, .lstO r => .lstO (RepL.re h r)
  | _, _, _, .lck g r => .lck g (RepL.re h r)
  | _, _, _, .tup g r => .tup g (RepL.re h r)
theorem RepL.re {ad' : Ad} (h : ad.fn = ad'.fn) : ∀ {p : List PV} {v : List V} {c : List Cell}, RepL ad K G p v c → RepL ad' K G p v c
  | _, _, _, .nil => .nil
  | _, _, _, .cons r t => .cons (Rep.re h r) (RepL.re h t)
end
/-- the exception's dict stands at d -/
inductive RepFs (ad : Ad) (K : PySem.W.Frag) (G : Hp) : List (Str × PV) → List (Str × V) → Prop
  | nil : RepFs ad K G [] []
  | cons {f : Str} {p : PV} {fs : List (Str × PV)} {v : V} {vs : List (Str × V)} : Rep ad K G p v [] → RepFs ad K G fs vs → RepFs ad K G ((f, p) :: fs) ((f, v) :: vs)
/-- what the written part says of a class of exceptions -/
structure XdOk (ad : Ad) (K : PySem.W.Frag) (d : XD) : Prop where
  xf : XfC K (ad d.cls)
  ec : ExcC K (ad d.cls)
  fno : ∀ f ∈ d.fs, PySem.W.findIn K (.ref (ad d.cls)) f = some none
  rel : ∀ k b, d.rel.lookup k = some b → PySem.W.exmOne K (.ref (ad d.cls)) (.ref (ad k)) = some b
  ty : ∀ t b, d.ty.lookup t = some b → PySem.W.kitOne K (.ref (ad d.cls)) (.type t) = some b
theorem XdOk.re {ad' : Ad} (h : ad.fn = ad'.fn) {d : XD} (x : XdOk ad K d) : XdOk ad' K d := by
  obtain ⟨h1, h2, h3, h4, h5⟩ := x
  rw [h] at h1 h2 h3 h4 h5
  exact ⟨h1, h2, h3, h4, h5⟩
def XRep (ad : Ad) (K : PySem.W.Frag) (G : Hp) (x : PX) (d : Addr) : Prop := ∃ fvs, G d = some (.xd fvs) ∧ RepFs ad K G x.fs fvs ∧ XdOk ad K x.xd ∧ ∀ f ∈ x.fs.map (·.1), f ∈ x.xd.fs
theorem RepFs.mono (s : Sub G G') : ∀ {x : List (Str × PV)} {v : List (Str × V)}, RepFs ad K G x v → RepFs ad K G' x v
  | _, _, .nil => .nil
  | _, _, .cons r t => .cons (r.mono s) (RepFs.mono s t)
theorem RepFs.re {ad' : Ad} (h : ad.fn = ad'.fn) : ∀ {x : List (Str × PV)} {v : List (Str × V)}, RepFs ad K G x v → RepFs ad' K G x v
  | _, _, .nil => .nil
  | _, _, .cons r t => .cons (r.re h) (RepFs.re h t)
theorem XRep.mono (s : Sub G G') {x : PX} {d : Addr} (h : XRep ad K G x d) : XRep ad K G' x d := by
  obtain ⟨fvs, e, r, z⟩ := h
  exact ⟨fvs, s _ _ e, r.mono s, z⟩
theorem XRep.re {ad' : Ad} (h : ad.fn = ad'.fn) {x : PX} {d : Addr} (r : XRep ad K G x d) : XRep ad' K G x d := by
  obtain ⟨fvs, e, r, z, z2⟩ := r
  exact ⟨fvs, e, r.re h, z.re h, z2⟩

/-! ### the slots -/
inductive Slots0 (ad : Ad) (K : PySem.W.Frag) (G : Hp) : Fr → St → List Cell → Prop
  | nil : Slots0 ad K G [] [] []
  | none {v : Option V} {ρ : Fr} {σ : St} {c : List Cell} : Slots0 ad K G ρ σ c → Slots0 ad K G (none :: ρ) (v :: σ) c
  | some {p : PV} {v : V} {ρ : Fr} {σ : St} {c cs : List Cell} : Rep ad K G p v c → Slots0 ad K G ρ σ cs → Slots0 ad K G (some p :: ρ) (some v :: σ) (c ++ cs)
theorem Slots0.length : ∀ {ρ : Fr} {σ : St} {c : List Cell}, Slots0 ad K G ρ σ c → ρ.length = σ.length
  | _, _, _, .nil => rfl
  | _, _, _, .none t => by simp [Slots0.length t]
  | _, _, _, .some _ t => by simp [Slots0.length t]
theorem Slots0.mono (s : Sub G G') : ∀ {ρ : Fr} {σ : St} {c : List Cell}, Slots0 ad K G ρ σ c → Slots0 ad K G' ρ σ c
  | _, _, _, .nil => .nil
  | _, _, _, .none t => .none (Slots0.mono s t)
  | _, _, _, .some r t => .some (r.mono s) (Slots0.mono s t)
theorem at_cons_zero {x : Option PV} {ρ : Fr} : Fr.at (x :: ρ) 0 = x := rfl
theorem at_cons_succ {x : Option PV} {ρ : Fr} {i : Nat} : Fr.at (x :: ρ) (i + 1) = Fr.at ρ i := rfl
/-- the i-th slot is taken out -/
theorem Slots0.out : ∀ {ρ : Fr} {σ : St} {c : List Cell}, Slots0 ad K G ρ σ c → ∀ {i : Nat} {p : PV}, Fr.at ρ i = Option.some p →
    ∃ v d r, σ[i]? = Option.some (Option.some v) ∧ Rep ad K G p v d ∧ Slots0 ad K G (ρ.set i Option.none) σ r ∧ c.Perm (d ++ r)
  | _, _, _, .nil, i, p, h => by cases i <;> cases h
  | _, _, _, .none (v := v) t, 0, p, h => by cases h
  | _, _, _, .none (v := v) t, i + 1, p, h => by
    obtain ⟨w, d, r, e1, e2, e3, e4⟩ := Slots0.out t (i := i) (p := p) h
    exact ⟨w, d, r, by simpa using e1, e2, .none e3, e4⟩
  | _, _, _, .some (p := q) (v := v) r t, 0, p, h => by
    have e : q = p := Option.some.inj h
    subst e
    exact ⟨v, _, _, rfl, r, .none t, List.Perm.refl _⟩
  | _, _, _, .some (c := c) (cs := cs) r t, i + 1, p, h => by
    obtain ⟨w, d, s, e1, e2, e3, e4⟩ := Slots0.out t (i := i) (p := p) h
    refine ⟨w, d, c ++ s, by simpa using e1, e2, .some r e3, ?_⟩
    refine (e4.append_left c).trans ?_
    rw [← List.append_assoc, ← List.append_assoc]
    exact List.perm_append_comm.append_right s
/-- the i-th slot is emptied: its cells go -/
theorem Slots0.drop : ∀ {ρ : Fr} {σ : St} {c : List Cell}, Slots0 ad K G ρ σ c → ∀ (i : Nat), ∃ d r, Slots0 ad K G (ρ.set i Option.none) σ r ∧ c.Perm (d ++ r)
  | _, _, _, .nil, i => ⟨[], [], by cases i <;> exact .nil, List.Perm.refl _⟩
  | _, _, _, .none (v := v) t, 0 => ⟨[], _, .none t, List.Perm.refl _⟩
  | _, _, _, .none (v := v) t, i + 1 => by
    obtain ⟨d, r, e3, e4⟩ := Slots0.drop t i
    exact ⟨d, r, .none e3, e4⟩
  | _, _, _, .some r t, 0 => ⟨_, _, .none t, List.Perm.refl _⟩
  | _, _, _, .some (c := c) (cs := cs) r t, i + 1 => by
    obtain ⟨d, s, e3, e4⟩ := Slots0.drop t i
    refine ⟨d, c ++ s, .some r e3, ?_⟩
    refine (e4.append_left c).trans ?_
    rw [← List.append_assoc, ← List.append_assoc]
    exact List.perm_append_comm.append_right s
/-- an empty slot takes a value -/
theorem Slots0.put : ∀ {ρ : Fr} {σ : St} {c : List Cell}, Slots0 ad K G ρ σ c → ∀ {i : Nat} {p : PV} {v : V} {d : List Cell}, Fr.at ρ i = Option.none → i < ρ.length → Rep ad K G p v d →
    ∃ r, Slots0 ad K G (ρ.set i (Option.some p)) (σ.set i (Option.some v)) r ∧ r.Perm (d ++ c)
  | _, _, _, .nil, i, p, v, d, _, hi, _ => by simp at hi
  | _, _, _, .none t, 0, p, v, d, _, _, r => ⟨_, .some r t, List.Perm.refl _⟩
  | _, _, _, .none t, i + 1, p, v, d, h, hi, r => by
    obtain ⟨s, e1, e2⟩ := Slots0.put t (i := i) h (by simpa using hi) r
    exact ⟨s, .none e1, e2⟩
  | _, _, _, .some _ t, 0, p, v, d, h, _, _ => by cases h
  | _, _, _, .some (c := c) (cs := cs) q t, i + 1, p, v, d, h, hi, r => by
    obtain ⟨s, e1, e2⟩ := Slots0.put t (i := i) h (by simpa using hi) r
    refine ⟨c ++ s, .some q e1, ?_⟩
    refine (e2.append_left c).trans ?_
    rw [← List.append_assoc, ← List.append_assoc]
    exact List.perm_append_comm.append_right _
theorem at_set_same {ρ : Fr} {i : Nat} {x : Option PV} (h : i < ρ.length) : Fr.at (ρ.set i x) i = x := by
  unfold Fr.at
  simp [List.getD, h]
theorem at_set_none {ρ : Fr} {i : Nat} : Fr.at (ρ.set i none) i = none := by
  unfold Fr.at
  rw [List.getD_eq_getElem?_getD, List.getElem?_set]
  split <;> (try split) <;> simp_all
theorem at_lt {ρ : Fr} {i : Nat} {p : PV} (h : Fr.at ρ i = some p) : i < ρ.length := by
  unfold Fr.at at h
  rw [List.getD_eq_getElem?_getD] at h
  cases q : ρ[i]? with
  | none => rw [q] at h; cases h
  | some x => exact (List.getElem?_eq_some_iff.mp q).1
theorem set_set_none {ρ : Fr} {i : Nat} {x y : Option PV} : (ρ.set i x).set i y = ρ.set i y := List.set_set ..
theorem set_same {α : Type} {σ : List α} {i : Nat} {v : α} (h : σ[i]? = some v) : σ.set i v = σ := by
  apply List.ext_getElem?
  intro j
  rw [List.getElem?_set]
  by_cases e : i = j
  · subst e
    rw [if_pos rfl]
    rw [if_pos (List.getElem?_eq_some_iff.mp h).1, h]
  · rw [if_neg e]
/-- any slot takes a value; what it held goes -/
theorem Slots0.set {ρ : Fr} {σ : St} {c : List Cell} (s : Slots0 ad K G ρ σ c) {i : Nat} {p : PV} {v : V} {d : List Cell} (hi : i < ρ.length) (r : Rep ad K G p v d) :
    ∃ g r', Slots0 ad K G (ρ.set i (Option.some p)) (σ.set i (Option.some v)) r' ∧ (d ++ c).Perm (g ++ r') := by
  obtain ⟨g, r1, s1, p1⟩ := s.drop i
  obtain ⟨r2, s2, p2⟩ := s1.put (i := i) at_set_none (by simpa using hi) r
  rw [set_set_none] at s2
  refine ⟨g, r2, s2, ?_⟩
  refine (p1.append_left d).trans ?_
  refine List.Perm.trans ?_ ((p2.append_left g).symm)
  rw [← List.append_assoc, ← List.append_assoc]
  exact List.perm_append_comm.append_right r1

theorem Slots0.re {ad' : Ad} (h : ad.fn = ad'.fn) : ∀ {ρ : Fr} {σ : St} {c : List Cell}, Slots0 ad K G ρ σ c → Slots0 ad' K G ρ σ c
  | _, _, _, .nil => .nil
  | _, _, _, .none t => .none (Slots0.re h t)
  | _, _, _, .some r t => .some (r.re h) (Slots0.re h t)
theorem Rep.toB {p : PV} {v : V} {c : List Cell} (h : Rep ad K G p v c) : Rep ad.base K G p v c := Rep.re (ad := ad) (ad' := ad.base) rfl h
theorem Rep.ofB {p : PV} {v : V} {c : List Cell} (h : Rep ad.base K G p v c) : Rep ad K G p v c := Rep.re (ad := ad.base) (ad' := ad) rfl h
theorem RepL.toB {p : List PV} {v : List V} {c : List Cell} (h : RepL ad K G p v c) : RepL ad.base K G p v c := RepL.re (ad := ad) (ad' := ad.base) rfl h
theorem RepL.ofB {p : List PV} {v : List V} {c : List Cell} (h : RepL ad.base K G p v c) : RepL ad K G p v c := RepL.re (ad := ad.base) (ad' := ad) rfl h
theorem Slots0.ofB {ρ : Fr} {σ : St} {c : List Cell} (h : Slots0 ad.base K G ρ σ c) : Slots0 ad K G ρ σ c := Slots0.re (ad := ad.base) (ad' := ad) rfl h
theorem XRep.toB {x : PX} {d : Addr} (h : XRep ad K G x d) : XRep ad.base K G x d := XRep.re (ad := ad) (ad' := ad.base) rfl h
theorem XRep.ofB {x : PX} {d : Addr} (h : XRep ad.base K G x d) : XRep ad K G x d := XRep.re (ad := ad.base) (ad' := ad) rfl h
/-- what the slots say of the exception that is held -/
def XcOk (ad : Ad) (K : PySem.W.Frag) (σ : St) (G : Hp) : Prop := match ad.cur with
  | Option.none => True
  | Option.some z => σ[z.i]? = Option.some (Option.some (.ref z.a)) ∧ XRep ad.base K G z.x z.d
/-- slot i may be stored -/
def Free (ad : Ad) (i : Nat) : Prop := ∀ z, ad.cur = Option.some z → z.i ≠ i
theorem Free.of_none {i : Nat} (h : ad.cur = Option.none) : Free ad i := fun z e => by rw [h] at e; cases e
theorem XcOk.mono {σ : St} (s : Sub G G') (h : XcOk ad K σ G) : XcOk ad K σ G' := by
  unfold XcOk at h ⊢
  split
  · trivial
  · rename_i z e
    rw [e] at h
    exact ⟨h.1, h.2.mono s⟩
theorem XcOk.set {σ : St} {i : Nat} {x : Option V} (h : XcOk ad K σ G) (f : Free ad i) : XcOk ad K (σ.set i x) G := by
  unfold XcOk at h ⊢
  split
  · trivial
  · rename_i z e
    rw [e] at h
    exact ⟨by rw [List.getElem?_set_ne (Ne.symm (f z e))]; exact h.1, h.2⟩
theorem XcOk.of_none {σ : St} (h : ad.cur = Option.none) : XcOk ad K σ G := by
  unfold XcOk
  rw [h]
  trivial
structure Slots (ad : Ad) (K : PySem.W.Frag) (G : Hp) (ρ : Fr) (σ : St) (c : List Cell) : Prop where
  b : Slots0 ad K G ρ σ c
  x : XcOk ad K σ G
section
variable {ρ : Fr} {σ : St} {c : List Cell}
theorem Slots.length (s : Slots ad K G ρ σ c) : ρ.length = σ.length := s.b.length
theorem Slots.mono (h : Sub G G') (s : Slots ad K G ρ σ c) : Slots ad K G' ρ σ c := ⟨s.b.mono h, s.x.mono h⟩
theorem Slots.out (s : Slots ad K G ρ σ c) {i : Nat} {p : PV} (h : Fr.at ρ i = Option.some p) :
    ∃ v d r, σ[i]? = Option.some (Option.some v) ∧ Rep ad K G p v d ∧ Slots ad K G (ρ.set i Option.none) σ r ∧ c.Perm (d ++ r) := by
  obtain ⟨v, d, r, e1, e2, e3, e4⟩ := s.b.out h
  exact ⟨v, d, r, e1, e2, ⟨e3, s.x⟩, e4⟩
theorem Slots.drop (s : Slots ad K G ρ σ c) (i : Nat) : ∃ d r, Slots ad K G (ρ.set i Option.none) σ r ∧ c.Perm (d ++ r) := by
  obtain ⟨d, r, e3, e4⟩ := s.b.drop i
  exact ⟨d, r, ⟨e3, s.x⟩, e4⟩
/-- an empty slot is told of: it held v all along -/
theorem Slots.tell (s : Slots ad K G ρ σ c) {i : Nat} {p : PV} {v : V} {d : List Cell} (h : Fr.at ρ i = Option.none) (hi : i < ρ.length) (hv : σ[i]? = Option.some (Option.some v)) (r : Rep ad K G p v d) :
    ∃ r, Slots ad K G (ρ.set i (Option.some p)) σ r ∧ r.Perm (d ++ c) := by
  obtain ⟨r', e1, e2⟩ := s.b.put h hi r
  rw [set_same hv] at e1
  exact ⟨r', ⟨e1, s.x⟩, e2⟩
theorem Slots.put (s : Slots ad K G ρ σ c) {i : Nat} {p : PV} {v : V} {d : List Cell} (f : Free ad i) (h : Fr.at ρ i = Option.none) (hi : i < ρ.length) (r : Rep ad K G p v d) :
    ∃ r, Slots ad K G (ρ.set i (Option.some p)) (σ.set i (Option.some v)) r ∧ r.Perm (d ++ c) := by
  obtain ⟨r', e1, e2⟩ := s.b.put h hi r
  exact ⟨r', ⟨e1, s.x.set f⟩, e2⟩
theorem Slots.set (s : Slots ad K G ρ σ c) {i : Nat} {p : PV} {v : V} {d : List Cell} (f : Free ad i) (hi : i < ρ.length) (r : Rep ad K G p v d) :
    ∃ g r', Slots ad K G (ρ.set i (Option.some p)) (σ.set i (Option.some v)) r' ∧ (d ++ c).Perm (g ++ r') := by
  obtain ⟨g, r', e1, e2⟩ := s.b.set hi r
  exact ⟨g, r', ⟨e1, s.x.set f⟩, e2⟩
/-- .. what it held is told anew -/
theorem Slots.retell (s : Slots ad K G ρ σ c) {i : Nat} {p : PV} {v : V} {d : List Cell} (hi : i < ρ.length) (hv : σ[i]? = Option.some (Option.some v)) (r : Rep ad K G p v d) :
    ∃ g r', Slots ad K G (ρ.set i (Option.some p)) σ r' ∧ (d ++ c).Perm (g ++ r') := by
  obtain ⟨g, r', e1, e2⟩ := s.b.set hi r
  rw [set_same hv] at e1
  exact ⟨g, r', ⟨e1, s.x⟩, e2⟩
end

/-! ### the heap: frozen and held -/
def keys (c : List Cell) : List Addr := c.map (·.1)
structure Hold (G : Hp) (c : List Cell) (H : Hp) : Prop where
  fz : Sub G H
  at_ : ∀ z ∈ c, H z.1 = some z.2
  no : ∀ z ∈ c, G z.1 = none
  nd : (keys c).Nodup
structure Step (G : Hp) (c : List Cell) (H G' : Hp) (c' : List Cell) (H' : Hp) : Prop where
  fz : Sub G G'
  kp : ∀ p o, H p = some o → p ∉ keys c → H' p = some o
  nw : ∀ p, (G' p ≠ none ∨ p ∈ keys c') → G p ≠ none ∨ p ∈ keys c ∨ H p = none
theorem keys_perm {c d : List Cell} (h : c.Perm d) : (keys c).Perm (keys d) := h.map _
theorem keys_append {c d : List Cell} : keys (c ++ d) = keys c ++ keys d := by simp [keys]
theorem Hold.perm {c d : List Cell} (h : Hold G c H) (p : c.Perm d) : Hold G d H :=
  ⟨h.fz, fun z hz => h.at_ z (p.mem_iff.mpr hz), fun z hz => h.no z (p.mem_iff.mpr hz), (keys_perm p).nodup_iff.mp h.nd⟩
theorem Hold.left {c d : List Cell} (h : Hold G (c ++ d) H) : Hold G c H :=
  ⟨h.fz, fun z hz => h.at_ z (List.mem_append_left _ hz), fun z hz => h.no z (List.mem_append_left _ hz), by
    have := h.nd
    rw [keys_append] at this
    exact (List.nodup_append.mp this).1⟩
theorem Hold.right {c d : List Cell} (h : Hold G (c ++ d) H) : Hold G d H :=
  ⟨h.fz, fun z hz => h.at_ z (List.mem_append_right _ hz), fun z hz => h.no z (List.mem_append_right _ hz), by
    have := h.nd
    rw [keys_append] at this
    exact (List.nodup_append.mp this).2.1⟩
theorem Step.refl : Step G c H G c H := ⟨Sub.refl G, fun _ _ h _ => h, fun _ h => h.elim .inl fun h => .inr (.inl h)⟩
theorem Step.perm {c d c' d' : List Cell} (s : Step G c H G' c' H') (p : c.Perm d) (q : c'.Perm d') : Step G d H G' d' H' :=
  ⟨s.fz, fun a o h n => s.kp a o h fun z => n ((keys_perm p).mem_iff.mp z), fun a h => (s.nw a (h.elim .inl fun z => .inr ((keys_perm q).mem_iff.mpr z))).elim .inl fun z => .inr (z.elim (fun z => .inl ((keys_perm p).mem_iff.mp z)) .inr)⟩
/-- cells that are no longer told of -/
theorem Step.less {c c' d' : List Cell} (s : Step G c H G' c' H') (q : ∀ z ∈ d', z ∈ c') : Step G c H G' d' H' :=
  ⟨s.fz, s.kp, fun a h => s.nw a (h.elim .inl fun z => .inr (by
    obtain ⟨x, hx, rfl⟩ := List.mem_map.mp z
    exact List.mem_map.mpr ⟨x, q x hx, rfl⟩))⟩
theorem mem_keys {z : Cell} {c : List Cell} (h : z ∈ c) : z.1 ∈ keys c := List.mem_map.mpr ⟨z, h, rfl⟩
theorem Hold.key {c : List Cell} (h : Hold G c H) {p : Addr} (hp : p ∈ keys c) : G p = none ∧ ∃ o, H p = some o ∧ (p, o) ∈ c := by
  obtain ⟨z, hz, rfl⟩ := List.mem_map.mp hp
  exact ⟨h.no z hz, z.2, h.at_ z hz, hz⟩
theorem Hold.apart {c d : List Cell} (h : Hold G (c ++ d) H) {p : Addr} (hp : p ∈ keys c) : p ∉ keys d := by
  have := h.nd
  rw [keys_append] at this
  exact fun hd => (List.nodup_append.mp this).2.2 p hp p hd rfl
theorem Step.trans {c c1 c2 : List Cell} (a : Step G c H G1 c1 H1) (b : Step G1 c1 H1 G2 c2 H2) (h1 : Hold G1 c1 H1) : Step G c H G2 c2 H2 :=
  ⟨a.fz.trans b.fz, fun p o h n => b.kp p o (a.kp p o h n) fun z => (a.nw p (.inr z)).elim (fun g => by
      cases q : G p with
      | none => exact g q
      | some u =>
        have := a.fz p u q
        rw [(h1.key z).1] at this
        cases this) fun g => g.elim n fun g => (by rw [h] at g; cases g), fun p h => (b.nw p h).elim (fun g => a.nw p (.inl g)) fun g => g.elim (fun g => a.nw p (.inr g)) fun g => by
      cases q : H p with
      | none => exact .inr (.inr rfl)
      | some o =>
        by_cases hn : p ∈ keys c
        · exact .inr (.inl hn)
        · rw [a.kp p o q hn] at g; cases g⟩
/-- what happens beside the cells t leaves them -/
theorem Hold.frame {c1 c2 t : List Cell} (h1 : Hold G1 (c1 ++ t) H1) (b : Step G1 c1 H1 G2 c2 H2) (h2 : Hold G2 c2 H2) : Hold G2 (c2 ++ t) H2 := by
  have out : ∀ p, p ∈ keys t → ¬ (G2 p ≠ none ∨ p ∈ keys c2) := fun p hp hq => by
    obtain ⟨g, o, e, _⟩ := h1.right.key hp
    rcases b.nw p hq with z | z | z
    · exact z g
    · exact h1.apart z hp
    · rw [e] at z; cases z
  refine ⟨h2.fz, fun z hz => ?_, fun z hz => ?_, ?_⟩
  · rcases List.mem_append.mp hz with hz | hz
    · exact h2.at_ z hz
    · exact b.kp _ _ (h1.right.at_ z hz) fun q => h1.apart q (mem_keys hz)
  · rcases List.mem_append.mp hz with hz | hz
    · exact h2.no z hz
    · cases q : G2 z.1 with
      | none => rfl
      | some o => exact (out z.1 (mem_keys hz) (.inl (by rw [q]; exact fun e => by cases e))).elim
  · rw [keys_append]
    refine List.nodup_append.mpr ⟨h2.nd, h1.right.nd, fun p hp q hq e => ?_⟩
    subst e
    exact out p hq (.inr hp)
theorem Step.frame {c c1 c2 t : List Cell} (a : Step G c H G1 (c1 ++ t) H1) (b : Step G1 c1 H1 G2 c2 H2) (h1 : Hold G1 (c1 ++ t) H1) : Step G c H G2 (c2 ++ t) H2 := by
  have a1 : Step G c H G1 c1 H1 := a.less fun z hz => List.mem_append_left _ hz
  have r := a1.trans b h1.left
  refine ⟨r.fz, r.kp, fun p hp => ?_⟩
  rcases hp with hp | hp
  · exact r.nw p (.inl hp)
  · rw [keys_append] at hp
    rcases List.mem_append.mp hp with hp | hp
    · exact r.nw p (.inr hp)
    · exact a.nw p (.inr (by rw [keys_append]; exact List.mem_append_right _ hp))
theorem Step.fr0 {c1 c2 t : List Cell} (b : Step G1 c1 H1 G2 c2 H2) (h1 : Hold G1 (c1 ++ t) H1) : Step G1 (c1 ++ t) H1 G2 (c2 ++ t) H2 :=
  Step.frame (Step.refl (c := c1 ++ t)) b h1

/-! ### cells are frozen -/
def addc (G : Hp) (t : List Cell) : Hp := fun p => match t.lookup p with
  | some o => some o
  | none => G p
theorem lookup_mem : ∀ {t : List Cell} {p : Addr} {o : HO}, t.lookup p = some o → (p, o) ∈ t
  | [], _, _, h => by cases h
  | (q, u) :: t, p, o, h => by
    rw [List.lookup_cons] at h
    cases e : p == q with
    | true =>
      rw [e] at h
      have e1 : p = q := by simpa using e
      have e2 : u = o := Option.some.inj h
      rw [e1, e2]
      exact List.mem_cons_self
    | false =>
      rw [e] at h
      exact List.mem_cons_of_mem _ (lookup_mem h)
theorem lookup_of_mem : ∀ {t : List Cell}, (keys t).Nodup → ∀ {z : Cell}, z ∈ t → t.lookup z.1 = some z.2
  | [], _, z, h => by cases h
  | (q, u) :: t, nd, z, h => by
    rw [List.lookup_cons]
    have nd' := List.nodup_cons.mp (show (q :: keys t).Nodup from nd)
    rcases List.mem_cons.mp h with h2 | h2
    · rw [h2]; simp
    · have hk : z.1 ∈ keys t := mem_keys h2
      have : (z.1 == q) = false := by
        simp only [beq_eq_false_iff_ne, ne_eq]
        intro e
        exact nd'.1 (e ▸ hk)
      rw [this]
      exact lookup_of_mem nd'.2 h2
theorem lookup_none {t : List Cell} {p : Addr} (h : t.lookup p = none) : p ∉ keys t := fun hp => by
  induction t with
  | nil => cases hp
  | cons z t ih =>
    obtain ⟨q, u⟩ := z
    rw [List.lookup_cons] at h
    cases e : p == q with
    | true => rw [e] at h; cases h
    | false =>
      rw [e] at h
      rcases List.mem_cons.mp (show p ∈ q :: keys t from hp) with z | z
      · rw [z] at e; simp at e
      · exact ih h z
theorem addc_sub {c : List Cell} (h : Hold G c H) : Sub G (addc G c) := fun p o e => by
  unfold addc
  cases q : c.lookup p with
  | none => exact e
  | some u =>
    have := h.no _ (lookup_mem q)
    rw [show G p = none from this] at e
    cases e
theorem addc_at {c : List Cell} (h : Hold G c H) : ∀ z ∈ c, addc G c z.1 = some z.2 := fun z hz => by
  unfold addc
  rw [lookup_of_mem h.nd hz]
theorem Hold.absorb {c t : List Cell} (h : Hold G (c ++ t) H) : Hold (addc G t) c H := by
  refine ⟨fun p o e => ?_, h.left.at_, fun z hz => ?_, h.left.nd⟩
  · unfold addc at e
    cases q : t.lookup p with
    | none => rw [q] at e; exact h.fz p o e
    | some u =>
      rw [q] at e
      cases e
      exact h.right.at_ _ (lookup_mem q)
  · unfold addc
    cases q : t.lookup z.1 with
    | none => exact h.left.no z hz
    | some u => exact (h.apart (mem_keys hz) (mem_keys (z := (z.1, u)) (lookup_mem q))).elim
theorem Step.absorb {c c' t : List Cell} (s : Step G c H G' (c' ++ t) H') (h : Hold G' (c' ++ t) H') : Step G c H (addc G' t) c' H' := by
  refine ⟨s.fz.trans (addc_sub h.right), s.kp, fun p hp => s.nw p ?_⟩
  rcases hp with hp | hp
  · unfold addc at hp
    cases q : t.lookup p with
    | none => rw [q] at hp; exact .inl hp
    | some u => exact .inr (by rw [keys_append]; exact List.mem_append_right _ (mem_keys (lookup_mem q)))
  · exact .inr (by rw [keys_append]; exact List.mem_append_left _ hp)
theorem Rep.absorb {c t : List Cell} {p : PV} {v : V} (h : Hold G (c ++ t) H) (r : Rep ad K G p v t) : Rep ad K (addc G t) p.frz v [] := r.frz (addc_sub h.right) (addc_at h.right)

/-! ### a new object -/
theorem Hold.newF {c : List Cell} (h : Hold G c H) {p : Addr} (hp : H p = none) (o : HO) : Hold (upd G p o) c (upd H p o) ∧ Step G c H (upd G p o) c (upd H p o) := by
  have gp : G p = none := by
    cases q : G p with
    | none => rfl
    | some u => rw [h.fz p u q] at hp; cases hp
  have sub : Sub G (upd G p o) := fun a u e => by rw [upd_ne (ne_of_none e gp)]; exact e
  refine ⟨⟨fun a u e => ?_, fun z hz => ?_, fun z hz => ?_, h.nd⟩, ⟨sub, fun a u e _ => by rw [upd_ne (ne_of_none e hp)]; exact e, fun a ha => ?_⟩⟩
  · by_cases q : a = p
    · subst q; rw [upd_same] at e ⊢; exact e
    · rw [upd_ne q] at e ⊢; exact h.fz a u e
  · rw [upd_ne (ne_of_none (h.at_ z hz) hp)]; exact h.at_ z hz
  · rw [upd_ne (ne_of_none (h.at_ z hz) hp)]; exact h.no z hz
  · rcases ha with ha | ha
    · by_cases q : a = p
      · subst q; exact .inr (.inr hp)
      · rw [upd_ne q] at ha; exact .inl ha
    · exact .inr (.inl ha)
theorem Hold.newO {c : List Cell} (h : Hold G c H) {p : Addr} (hp : H p = none) (o : HO) : Hold G (c ++ [(p, o)]) (upd H p o) ∧ Step G c H G (c ++ [(p, o)]) (upd H p o) := by
  have gp : G p = none := by
    cases q : G p with
    | none => rfl
    | some u => rw [h.fz p u q] at hp; cases hp
  refine ⟨⟨fun a u e => by rw [upd_ne (ne_of_none e gp)]; exact h.fz a u e, fun z hz => ?_, fun z hz => ?_, ?_⟩, ⟨Sub.refl G, fun a u e _ => by rw [upd_ne (ne_of_none e hp)]; exact e, fun a ha => ?_⟩⟩
  · rcases List.mem_append.mp hz with hz | hz
    · rw [upd_ne (ne_of_none (h.at_ z hz) hp)]; exact h.at_ z hz
    · have e : z = (p, o) := by simpa using hz
      rw [e]; exact upd_same
  · rcases List.mem_append.mp hz with hz | hz
    · exact h.no z hz
    · have e : z = (p, o) := by simpa using hz
      rw [e]; exact gp
  · rw [keys_append]
    refine List.nodup_append.mpr ⟨h.nd, by simp [keys], fun a ha b hb e => ?_⟩
    subst e
    have e2 : a = p := by simpa [keys] using hb
    subst e2
    obtain ⟨_, u, e3, _⟩ := h.key ha
    rw [hp] at e3; cases e3
  · rcases ha with ha | ha
    · exact .inl ha
    · rw [keys_append] at ha
      rcases List.mem_append.mp ha with ha | ha
      · exact .inr (.inl ha)
      · have e2 : a = p := by simpa [keys] using ha
        subst e2
        exact .inr (.inr hp)
/-- a held cell is rewritten -/
theorem Hold.write {c : List Cell} {p : Addr} {o : HO} (h : Hold G ((p, o) :: c) H) (u : HO) : Hold G ((p, u) :: c) (upd H p u) ∧ Step G ((p, o) :: c) H G ((p, u) :: c) (upd H p u) := by
  have gp : G p = none := h.no (p, o) List.mem_cons_self
  have nd := List.nodup_cons.mp (show (p :: keys c).Nodup from h.nd)
  refine ⟨⟨fun a w e => by rw [upd_ne (ne_of_none e gp)]; exact h.fz a w e, fun z hz => ?_, fun z hz => ?_, h.nd⟩, ⟨Sub.refl G, fun a w e n => by
    rw [upd_ne fun q => n (by rw [q]; exact List.mem_cons_self)]; exact e, fun a ha => ha.elim .inl fun z => .inr (.inl z)⟩⟩
  · rcases List.mem_cons.mp hz with hz | hz
    · rw [hz]; exact upd_same
    · rw [upd_ne fun q => nd.1 (by rw [← q]; exact mem_keys hz)]; exact h.at_ z (List.mem_cons_of_mem _ hz)
  · rcases List.mem_cons.mp hz with hz | hz
    · rw [hz]; exact gp
    · exact h.no z (List.mem_cons_of_mem _ hz)
end Y
end
section
set_option Elab.async false
set_option linter.all false
set_option maxRecDepth 100000
set_option maxHeartbeats 4000000
set_option autoImplicit false
/-! Y2e: == and != of data without dicts (the texts may hold any signs). -/
namespace Y
open PySem PySem.SeqAt
mutual
def nod : PyData → Bool
  | .dict _ => false
  | .list ds => nodL ds
  | .tuple ds => nodL ds
  | _ => true
def nodL : List PyData → Bool
  | [] => true
  | d :: ds => nod d && nodL ds
end
mutual
theorem dat_nod : ∀ {p : PV} {d : PyData}, p.dat = some d → nod d = true
  | .non, _, e => by cases e; rfl
  | .bl b, _, e => by cases e; rfl
  | .int b, _, e => by cases e; rfl
  | .str b, _, e => by cases e; rfl
  | .ty b, _, e => by cases e
  | .fn b, _, e => by cases e
  | .lst o xs, _, e => by
    simp only [PV.dat] at e
    obtain ⟨ds, e1, e2⟩ := Option.map_eq_some_iff.mp e
    subst e2
    exact datL_nod e1
  | .lck xs, _, e => by
    simp only [PV.dat] at e
    obtain ⟨ds, e1, e2⟩ := Option.map_eq_some_iff.mp e
    subst e2
    exact datL_nod e1
  | .tup xs, _, e => by
    simp only [PV.dat] at e
    obtain ⟨ds, e1, e2⟩ := Option.map_eq_some_iff.mp e
    subst e2
    exact datL_nod e1
theorem datL_nod : ∀ {ps : List PV} {ds : List PyData}, PV.datL ps = some ds → nodL ds = true
  | [], _, e => by cases e; rfl
  | p :: ps, _, e => by
    simp only [PV.datL] at e
    split at e
    · rename_i d ds e1 e2
      cases e
      simp only [nodL, dat_nod e1, datL_nod e2, Bool.and_self]
    · cases e
end
section
variable {h : Heap}
mutual
/-- a value reads as one datum only -/
theorem one_dat : ∀ {d e : PyData} {v : Value} {as bs : List Addr}, nod d = true → Reads h v d as → Reads h v e bs → d = e
  | .none, _, _, _, _, _, r, q => by cases r; cases q; rfl
  | .bool _, _, _, _, _, _, r, q => by cases r; cases q; rfl
  | .int _, _, _, _, _, _, r, q => by cases r; cases q; rfl
  | .str _, _, _, _, _, _, r, q => by cases r; cases q; rfl
  | .dict _, _, _, _, _, z, _, _ => by cases z
  | .list ds, _, _, _, _, z, .list a1 a2 a3 a4, q => by
    cases q with
    | list b1 b2 b3 b4 =>
      have e1 := Option.some.inj (a1.symm.trans b1)
      subst e1
      have e3 := a3.symm.trans b3
      cases e3
      exact congrArg _ (all_dat z a4 b4)
    | tuple b1 b2 b3 b4 =>
      have e1 := Option.some.inj (a1.symm.trans b1)
      subst e1
      exact absurd (a2.symm.trans b2) (by simp)
    | dict b1 b2 b3 b4 b5 =>
      have e1 := Option.some.inj (a1.symm.trans b1)
      subst e1
      exact absurd (a2.symm.trans b2) (by simp)
  | .tuple ds, _, _, _, _, z, .tuple a1 a2 a3 a4, q => by
    cases q with
    | tuple b1 b2 b3 b4 =>
      have e1 := Option.some.inj (a1.symm.trans b1)
      subst e1
      have e3 := a3.symm.trans b3
      cases e3
      exact congrArg _ (all_dat z a4 b4)
    | list b1 b2 b3 b4 =>
      have e1 := Option.some.inj (a1.symm.trans b1)
      subst e1
      exact absurd (a2.symm.trans b2) (by simp)
    | dict b1 b2 b3 b4 b5 =>
      have e1 := Option.some.inj (a1.symm.trans b1)
      subst e1
      exact absurd (a2.symm.trans b2) (by simp)
theorem all_dat : ∀ {ds es : List PyData} {vs : List Value} {as bs : List Addr}, nodL ds = true → ReadsAll h vs ds as → ReadsAll h vs es bs → ds = es
  | [], _, _, _, _, _, r, q => by cases r; cases q; rfl
  | d :: ds, _, _, _, _, z, .cons r rs, .cons q qs => by
    simp only [nodL, Bool.and_eq_true] at z
    rw [one_dat z.1 r q, all_dat z.2 rs qs]
end
end
mutual
theorem eqv_one : ∀ {d : PyData}, nod d = true → PyData.eqv d d = true
  | .none, _ => rfl
  | .bool b, _ => by simp [PyData.eqv]
  | .int i, _ => by simp [PyData.eqv]
  | .str x, _ => by simp [PyData.eqv]
  | .list ds, z => by simp only [PyData.eqv]; exact eqv_all z
  | .tuple ds, z => by simp only [PyData.eqv]; exact eqv_all z
  | .dict _, z => by cases z
theorem eqv_all : ∀ {ds : List PyData}, nodL ds = true → PyData.eqvAll ds ds = true
  | [], _ => rfl
  | d :: ds, z => by
    simp only [nodL, Bool.and_eq_true] at z
    simp only [PyData.eqvAll, eqv_one z.1, eqv_all z.2, Bool.and_self]
end
/-- every pair of kinds but list with list and tuple with tuple -/
theorem eq_far {d e : PyData} {A : Around} {s : Shared} {a b : Value} {as bs : List Addr} (zd : nod d = true) (ze : nod e = true) (r : Reads s.heap a d as) (q : Reads s.heap b e bs) (hu : A.units < cLine)
    (f1 : ∀ xs ys, d = .list xs → e = .list ys → False) (f2 : ∀ xs ys, d = .tuple xs → e = .tuple ys → False) : EqAt A s a b (PyData.eqv d e) ∧ RcAt A s a b (PyData.eqv d e) ∧ RcNeAt A s a b (!PyData.eqv d e) := by
  cases r with
  | none =>
    cases q with
    | none => exact ⟨.same _, .none_none, .none_none⟩
    | bool => exact ⟨.none_bool _, .none_bool _, .none_bool _⟩
    | int => exact ⟨.none_int _ _, .none_int _ _, .none_int _ _⟩
    | str => exact ⟨.none_str _ _, .none_str _ _, .none_str _ _⟩
    | list q1 q2 q3 => exact ⟨.none_list ⟨_, q1, q2, _, q3⟩ hu, .none_list ⟨_, q1, q2, _, q3⟩ hu, .none_list ⟨_, q1, q2, _, q3⟩ hu⟩
    | tuple q1 q2 q3 => exact ⟨.none_tuple ⟨_, q1, q2, _, q3⟩ hu, .none_tuple ⟨_, q1, q2, _, q3⟩ hu, .none_tuple ⟨_, q1, q2, _, q3⟩ hu⟩
    | dict => cases ze
  | bool =>
    cases q with
    | none => exact ⟨.bool_none _, .bool_none _, .bool_none _⟩
    | bool => exact ⟨.bool_bool _ _, .bool_bool _ _, .bool_bool _ _⟩
    | int => exact ⟨.bool_int _ _ _, .bool_int _ _ _, .bool_int _ _ _⟩
    | str => exact ⟨.bool_str _ _ _, .bool_str _ _ _, .bool_str _ _ _⟩
    | list q1 q2 q3 => exact ⟨.bool_list _ ⟨_, q1, q2, _, q3⟩ hu, .bool_list _ ⟨_, q1, q2, _, q3⟩ hu, .bool_list _ ⟨_, q1, q2, _, q3⟩ hu⟩
    | tuple q1 q2 q3 => exact ⟨.bool_tuple _ ⟨_, q1, q2, _, q3⟩ hu, .bool_tuple _ ⟨_, q1, q2, _, q3⟩ hu, .bool_tuple _ ⟨_, q1, q2, _, q3⟩ hu⟩
    | dict => cases ze
  | int =>
    cases q with
    | none => exact ⟨.int_none _ _, .int_none _ _, .int_none _ _⟩
    | bool => exact ⟨.int_bool _ _ _, .int_bool _ _ _, .int_bool _ _ _⟩
    | int => exact ⟨.int_int _ _ _ _, .int_int _ _ _ _, .int_int _ _ _ _⟩
    | str => exact ⟨.int_str _ _ _ _, .int_str _ _ _ _, .int_str _ _ _ _⟩
    | list q1 q2 q3 => exact ⟨.int_list _ _ ⟨_, q1, q2, _, q3⟩ hu, .int_list _ _ ⟨_, q1, q2, _, q3⟩ hu, .int_list _ _ ⟨_, q1, q2, _, q3⟩ hu⟩
    | tuple q1 q2 q3 => exact ⟨.int_tuple _ _ ⟨_, q1, q2, _, q3⟩ hu, .int_tuple _ _ ⟨_, q1, q2, _, q3⟩ hu, .int_tuple _ _ ⟨_, q1, q2, _, q3⟩ hu⟩
    | dict => cases ze
  | str =>
    cases q with
    | none => exact ⟨.str_none _ _, .str_none _ _, .str_none _ _⟩
    | bool => exact ⟨.str_bool _ _ _, .str_bool _ _ _, .str_bool _ _ _⟩
    | int => exact ⟨.str_int _ _ _ _, .str_int _ _ _ _, .str_int _ _ _ _⟩
    | str => exact ⟨.str_str _ _ _ _, .str_str _ _ _ _, .str_str _ _ _ _⟩
    | list q1 q2 q3 => exact ⟨.str_list _ _ ⟨_, q1, q2, _, q3⟩ hu, .str_list _ _ ⟨_, q1, q2, _, q3⟩ hu, .str_list _ _ ⟨_, q1, q2, _, q3⟩ hu⟩
    | tuple q1 q2 q3 => exact ⟨.str_tuple _ _ ⟨_, q1, q2, _, q3⟩ hu, .str_tuple _ _ ⟨_, q1, q2, _, q3⟩ hu, .str_tuple _ _ ⟨_, q1, q2, _, q3⟩ hu⟩
    | dict => cases ze
  | list r1 r2 r3 =>
    cases q with
    | none => exact ⟨.list_none ⟨_, r1, r2, _, r3⟩ hu, .list_none ⟨_, r1, r2, _, r3⟩ hu, .list_none ⟨_, r1, r2, _, r3⟩ hu⟩
    | bool => exact ⟨.list_bool _ ⟨_, r1, r2, _, r3⟩ hu, .list_bool _ ⟨_, r1, r2, _, r3⟩ hu, .list_bool _ ⟨_, r1, r2, _, r3⟩ hu⟩
    | int => exact ⟨.list_int _ _ ⟨_, r1, r2, _, r3⟩ hu, .list_int _ _ ⟨_, r1, r2, _, r3⟩ hu, .list_int _ _ ⟨_, r1, r2, _, r3⟩ hu⟩
    | str => exact ⟨.list_str _ _ ⟨_, r1, r2, _, r3⟩ hu, .list_str _ _ ⟨_, r1, r2, _, r3⟩ hu, .list_str _ _ ⟨_, r1, r2, _, r3⟩ hu⟩
    | list => exact (f1 _ _ rfl rfl).elim
    | tuple q1 q2 q3 => exact ⟨.list_tuple ⟨_, r1, r2, _, r3⟩ ⟨_, q1, q2, _, q3⟩ hu, .list_tuple ⟨_, r1, r2, _, r3⟩ ⟨_, q1, q2, _, q3⟩ hu, .list_tuple ⟨_, r1, r2, _, r3⟩ ⟨_, q1, q2, _, q3⟩ hu⟩
    | dict => cases ze
  | tuple r1 r2 r3 =>
    cases q with
    | none => exact ⟨.tuple_none ⟨_, r1, r2, _, r3⟩ hu, .tuple_none ⟨_, r1, r2, _, r3⟩ hu, .tuple_none ⟨_, r1, r2, _, r3⟩ hu⟩
    | bool => exact ⟨.tuple_bool _ ⟨_, r1, r2, _, r3⟩ hu, .tuple_bool _ ⟨_, r1, r2, _, r3⟩ hu, .tuple_bool _ ⟨_, r1, r2, _, r3⟩ hu⟩
    | int => exact ⟨.tuple_int _ _ ⟨_, r1, r2, _, r3⟩ hu, .tuple_int _ _ ⟨_, r1, r2, _, r3⟩ hu, .tuple_int _ _ ⟨_, r1, r2, _, r3⟩ hu⟩
    | str => exact ⟨.tuple_str _ _ ⟨_, r1, r2, _, r3⟩ hu, .tuple_str _ _ ⟨_, r1, r2, _, r3⟩ hu, .tuple_str _ _ ⟨_, r1, r2, _, r3⟩ hu⟩
    | list q1 q2 q3 => exact ⟨.tuple_list ⟨_, r1, r2, _, r3⟩ ⟨_, q1, q2, _, q3⟩ hu, .tuple_list ⟨_, r1, r2, _, r3⟩ ⟨_, q1, q2, _, q3⟩ hu, .tuple_list ⟨_, r1, r2, _, r3⟩ ⟨_, q1, q2, _, q3⟩ hu⟩
    | tuple => exact (f2 _ _ rfl rfl).elim
    | dict => cases ze
  | dict => cases zd
/-- the items of two sequences, pair by pair -/
def Items (A : Around) (s : Shared) (vs ws : List Value) (ds es : List PyData) : Prop := ∀ j (h1 : j < vs.length) (h2 : j < ws.length), EqAt A s vs[j] ws[j] (pairEq ds es j)
theorem Items.at {A : Around} {s : Shared} {vs ws : Array Value} {ds es : List PyData} (I : Items A s vs.toList ws.toList ds es) (j : Nat) (a : j < vs.size) (b : j < ws.size) : EqAt A s vs[j] ws[j] (pairEq ds es j) := by
  have := I j (by simpa using a) (by simpa using b)
  simpa using this
theorem rc_lists {A : Around} {s : Shared} {l l' : Addr} {o o' : Obj} {vs ws : Array Value} {n n' : Nat} {ds es : List PyData} {as bs : List Addr} (h1 : s.heap.get? l = some o) (h2 : o.cls = .type "list") (h3 : o.data = .seq vs n) (h4 : ReadsAll s.heap vs.toList ds as)
    (k1 : s.heap.get? l' = some o') (k2 : o'.cls = .type "list") (k3 : o'.data = .seq ws n') (k4 : ReadsAll s.heap ws.toList es bs) (hu : A.units < cLine) (I : Items A.in1 s vs.toList ws.toList ds es) :
    RcAt A s (.ref l) (.ref l') (PyData.eqvAll ds es) ∧ RcNeAt A s (.ref l) (.ref l') (!PyData.eqvAll ds es) := by
  have z1 : vs.size = ds.length := by rw [← ReadsAll.length _ _ _ h4]; simp
  have z2 : ws.size = es.length := by rw [← ReadsAll.length _ _ _ k4]; simp
  by_cases hz : vs.size = ws.size
  · have e : PyData.eqvAll ds es = (List.range vs.size).all (pairEq ds es) := by
      rw [z1, eqvAll_same_length (by omega)]
    rw [e]
    exact ⟨.lists ⟨_, h1, h2, _, h3⟩ ⟨_, k1, k2, _, k3⟩ hz hu fun j a b => I.at j a b,
      .lists ⟨_, h1, h2, _, h3⟩ ⟨_, k1, k2, _, k3⟩ hz hu fun j a b => I.at j a b⟩
  · have e : PyData.eqvAll ds es = false := eqvAll_other_length (by omega)
    rw [e]
    exact ⟨.lists_lengths ⟨_, h1, h2, _, h3⟩ ⟨_, k1, k2, _, k3⟩ (by simpa using hz) hu, .lists_lengths ⟨_, h1, h2, _, h3⟩ ⟨_, k1, k2, _, k3⟩ (by simpa using hz) hu⟩
theorem rc_tuples {A : Around} {s : Shared} {l l' : Addr} {o o' : Obj} {vs ws : Array Value} {n n' : Nat} {ds es : List PyData} {as bs : List Addr} (h1 : s.heap.get? l = some o) (h2 : o.cls = .type "tuple") (h3 : o.data = .seq vs n) (h4 : ReadsAll s.heap vs.toList ds as)
    (k1 : s.heap.get? l' = some o') (k2 : o'.cls = .type "tuple") (k3 : o'.data = .seq ws n') (k4 : ReadsAll s.heap ws.toList es bs) (hu : A.units < cLine) (I : Items A.in1 s vs.toList ws.toList ds es) :
    RcAt A s (.ref l) (.ref l') (PyData.eqvAll ds es) ∧ RcNeAt A s (.ref l) (.ref l') (!PyData.eqvAll ds es) := by
  have z1 : vs.size = ds.length := by rw [← ReadsAll.length _ _ _ h4]; simp
  have z2 : ws.size = es.length := by rw [← ReadsAll.length _ _ _ k4]; simp
  have e : PyData.eqvAll ds es = ((List.range (min vs.size ws.size)).all (pairEq ds es) && vs.size == ws.size) := by
    rw [z1, z2]
    exact (eqvAll_eq ds es).symm
  rw [e]
  exact ⟨.tuples ⟨_, h1, h2, _, h3⟩ ⟨_, k1, k2, _, k3⟩ hu fun j a b => I.at j a b,
    .tuples ⟨_, h1, h2, _, h3⟩ ⟨_, k1, k2, _, k3⟩ hu fun j a b => I.at j a b⟩
mutual
theorem eq_any : ∀ {d e : PyData} {A : Around} {s : Shared} {a b : Value} {as bs : List Addr}, nod d = true → nod e = true → Reads s.heap a d as → Reads s.heap b e bs → A.units + d.depth < cLine → EqAt A s a b (PyData.eqv d e)
  | .list ds, .list es, A, s, .ref l, .ref l', _, _, zd, ze, .list h1 h2 h3 h4, .list k1 k2 k3 k4, hu => by
    simp only [PyData.depth] at hu
    by_cases e : l = l'
    · subst e
      have := one_dat zd (.list h1 h2 h3 h4) (.list k1 k2 k3 k4)
      rw [← this, eqv_one zd]
      exact .same _
    · simp only [PyData.eqv]
      exact .of_refs e (rc_lists h1 h2 h3 h4 k1 k2 k3 k4 (by omega) (eq_items zd ze h4 k4 (by show A.units + 1 + _ < _; omega))).1
  | .tuple ds, .tuple es, A, s, .ref l, .ref l', _, _, zd, ze, .tuple h1 h2 h3 h4, .tuple k1 k2 k3 k4, hu => by
    simp only [PyData.depth] at hu
    by_cases e : l = l'
    · subst e
      have := one_dat zd (.tuple h1 h2 h3 h4) (.tuple k1 k2 k3 k4)
      rw [← this, eqv_one zd]
      exact .same _
    · simp only [PyData.eqv]
      exact .of_refs e (rc_tuples h1 h2 h3 h4 k1 k2 k3 k4 (by omega) (eq_items zd ze h4 k4 (by show A.units + 1 + _ < _; omega))).1
  | .none, e, A, s, a, b, _, _, zd, ze, r, q, hu => (eq_far zd ze r q (by omega) (fun _ _ z => by cases z) fun _ _ z => by cases z).1
  | .bool _, e, A, s, a, b, _, _, zd, ze, r, q, hu => (eq_far zd ze r q (by omega) (fun _ _ z => by cases z) fun _ _ z => by cases z).1
  | .int _, e, A, s, a, b, _, _, zd, ze, r, q, hu => (eq_far zd ze r q (by omega) (fun _ _ z => by cases z) fun _ _ z => by cases z).1
  | .str _, e, A, s, a, b, _, _, zd, ze, r, q, hu => (eq_far zd ze r q (by omega) (fun _ _ z => by cases z) fun _ _ z => by cases z).1
  | .dict _, e, A, s, a, b, _, _, zd, ze, r, q, hu => by cases zd
  | .list _, .none, A, s, a, b, _, _, zd, ze, r, q, hu => (eq_far zd ze r q (by omega) (fun _ _ _ z => by cases z) fun _ _ z => by cases z).1
  | .list _, .bool _, A, s, a, b, _, _, zd, ze, r, q, hu => (eq_far zd ze r q (by omega) (fun _ _ _ z => by cases z) fun _ _ z => by cases z).1
  | .list _, .int _, A, s, a, b, _, _, zd, ze, r, q, hu => (eq_far zd ze r q (by omega) (fun _ _ _ z => by cases z) fun _ _ z => by cases z).1
  | .list _, .str _, A, s, a, b, _, _, zd, ze, r, q, hu => (eq_far zd ze r q (by omega) (fun _ _ _ z => by cases z) fun _ _ z => by cases z).1
  | .list _, .tuple _, A, s, a, b, _, _, zd, ze, r, q, hu => (eq_far zd ze r q (by omega) (fun _ _ _ z => by cases z) fun _ _ z => by cases z).1
  | .list _, .dict _, A, s, a, b, _, _, zd, ze, r, q, hu => by cases ze
  | .tuple _, .none, A, s, a, b, _, _, zd, ze, r, q, hu => (eq_far zd ze r q (by omega) (fun _ _ z => by cases z) fun _ _ _ z => by cases z).1
  | .tuple _, .bool _, A, s, a, b, _, _, zd, ze, r, q, hu => (eq_far zd ze r q (by omega) (fun _ _ z => by cases z) fun _ _ _ z => by cases z).1
  | .tuple _, .int _, A, s, a, b, _, _, zd, ze, r, q, hu => (eq_far zd ze r q (by omega) (fun _ _ z => by cases z) fun _ _ _ z => by cases z).1
  | .tuple _, .str _, A, s, a, b, _, _, zd, ze, r, q, hu => (eq_far zd ze r q (by omega) (fun _ _ z => by cases z) fun _ _ _ z => by cases z).1
  | .tuple _, .list _, A, s, a, b, _, _, zd, ze, r, q, hu => (eq_far zd ze r q (by omega) (fun _ _ z => by cases z) fun _ _ _ z => by cases z).1
  | .tuple _, .dict _, A, s, a, b, _, _, zd, ze, r, q, hu => by cases ze
theorem eq_items : ∀ {ds es : List PyData} {A : Around} {s : Shared} {vs ws : List Value} {as bs : List Addr}, nodL ds = true → nodL es = true → ReadsAll s.heap vs ds as → ReadsAll s.heap ws es bs → A.units + PyData.depthAll ds < cLine → Items A s vs ws ds es
  | [], _, A, s, _, _, _, _, _, _, .nil, _, _ => fun j h1 _ => absurd h1 (Nat.not_lt_zero _)
  | _ :: _, [], A, s, _, _, _, _, _, _, _, .nil, _ => fun j _ h2 => absurd h2 (Nat.not_lt_zero _)
  | d :: ds, e :: es, A, s, _, _, _, _, zd, ze, .cons r rs, .cons q qs, hu => fun j h1 h2 => by
    simp only [nodL, Bool.and_eq_true] at zd ze
    simp only [PyData.depthAll] at hu
    have m1 := Nat.le_max_left d.depth (PyData.depthAll ds)
    have m2 := Nat.le_max_right d.depth (PyData.depthAll ds)
    have u1 : A.units + d.depth < cLine := by omega
    have u2 : A.units + PyData.depthAll ds < cLine := by omega
    cases j with
    | zero => exact eq_any zd.1 ze.1 r q u1
    | succ j => exact eq_items zd.2 ze.2 rs qs u2 j (Nat.lt_of_succ_lt_succ h1) (Nat.lt_of_succ_lt_succ h2)
end
theorem cmp_any {d e : PyData} {A : Around} {s : Shared} {a b : Value} {as bs : List Addr} (zd : nod d = true) (ze : nod e = true) (r : Reads s.heap a d as) (q : Reads s.heap b e bs) (hu : A.units + d.depth < cLine) :
    RcAt A s a b (PyData.eqv d e) ∧ RcNeAt A s a b (!PyData.eqv d e) := by
  by_cases f1 : ∃ xs ys, d = .list xs ∧ e = .list ys
  · obtain ⟨xs, ys, rfl, rfl⟩ := f1
    cases r with
    | list h1 h2 h3 h4 =>
      cases q with
      | list k1 k2 k3 k4 =>
        simp only [PyData.depth] at hu
        simp only [PyData.eqv]
        exact rc_lists h1 h2 h3 h4 k1 k2 k3 k4 (by omega) (eq_items zd ze h4 k4 (by show A.units + 1 + _ < _; omega))
  · by_cases f2 : ∃ xs ys, d = .tuple xs ∧ e = .tuple ys
    · obtain ⟨xs, ys, rfl, rfl⟩ := f2
      cases r with
      | tuple h1 h2 h3 h4 =>
        cases q with
        | tuple k1 k2 k3 k4 =>
          simp only [PyData.depth] at hu
          simp only [PyData.eqv]
          exact rc_tuples h1 h2 h3 h4 k1 k2 k3 k4 (by omega) (eq_items zd ze h4 k4 (by show A.units + 1 + _ < _; omega))
    · exact (eq_far zd ze r q (by omega) (fun xs ys a b => f1 ⟨xs, ys, a, b⟩) fun xs ys a b => f2 ⟨xs, ys, a, b⟩).2
end Y
end
section
set_option Elab.async false
set_option linter.all false
set_option maxRecDepth 100000
set_option maxHeartbeats 2000000
/-! Y3: what an operation reads (views), and that each operation of the language is the model's. -/
namespace Y
open PySem L2
variable {ad : Ad} {K : PySem.W.Frag} {G G' G1 G2 H H' H1 H2 : Hp}

/-- p is to be read at v -/
def Vw (ad : Ad) (K : PySem.W.Frag) (G : Hp) (c : List Cell) (p : PV) (v : V) : Prop := ∃ d, Rep ad K G p v d ∧ ∀ z ∈ d, z ∈ c
inductive VwL (ad : Ad) (K : PySem.W.Frag) (G : Hp) (c : List Cell) : List PV → List V → Prop
  | nil : VwL ad K G c [] []
  | cons {p : PV} {ps : List PV} {v : V} {vs : List V} : Vw ad K G c p v → VwL ad K G c ps vs → VwL ad K G c (p :: ps) (v :: vs)
theorem Rep.vw {c : List Cell} {p : PV} {v : V} (r : Rep ad K G p v []) : Vw ad K G c p v := ⟨[], r, fun _ h => nomatch h⟩
theorem VwL.one {c : List Cell} {p : PV} {vs : List V} (h : VwL ad K G c [p] vs) : ∃ v, vs = [v] ∧ Vw ad K G c p v := by
  cases h with
  | cons a t => cases t; exact ⟨_, rfl, a⟩
theorem VwL.two {c : List Cell} {p q : PV} {vs : List V} (h : VwL ad K G c [p, q] vs) : ∃ v w, vs = [v, w] ∧ Vw ad K G c p v ∧ Vw ad K G c q w := by
  cases h with
  | cons a t =>
    obtain ⟨w, rfl, b⟩ := t.one
    exact ⟨_, _, rfl, a, b⟩
theorem VwL.length {c : List Cell} : ∀ {ps : List PV} {vs : List V}, VwL ad K G c ps vs → ps.length = vs.length
  | _, _, .nil => rfl
  | _, _, .cons _ t => by simp [VwL.length t]
section
variable {c : List Cell} {v : V}
theorem Vw.int {i : Int} (h : Vw ad K G c (.int i) v) : v = .int i := by obtain ⟨d, r, _⟩ := h; cases r; rfl
theorem Vw.str {x : Str} (h : Vw ad K G c (.str x) v) : v = .str x := by obtain ⟨d, r, _⟩ := h; cases r; rfl
theorem Vw.bl {b : Bool} (h : Vw ad K G c (.bl b) v) : v = .bl b := by obtain ⟨d, r, _⟩ := h; cases r; rfl
theorem Vw.non (h : Vw ad K G c .non v) : v = .non := by obtain ⟨d, r, _⟩ := h; cases r; rfl
theorem Vw.ty {n : String} (h : Vw ad K G c (.ty n) v) : v = .ty n := by obtain ⟨d, r, _⟩ := h; cases r; rfl
theorem Vw.lst {o : Bool} {xs : List PV} (h : Vw ad K G c (.lst o xs) v) (hh : Hold G c H) : ∃ a vs d, v = .ref a ∧ H a = some (.lst vs) ∧ RepL ad K G xs vs d ∧ ∀ z ∈ d, z ∈ c := by
  obtain ⟨d, r, k⟩ := h
  cases r with
  | lstF e r => exact ⟨_, _, _, rfl, hh.fz _ _ e, r, k⟩
  | lstO r => exact ⟨_, _, _, rfl, hh.at_ _ (k _ List.mem_cons_self), r, fun z hz => k z (List.mem_cons_of_mem _ hz)⟩
theorem Vw.lck {xs : List PV} (h : Vw ad K G c (.lck xs) v) (hh : Hold G c H) : ∃ a vs, v = .ref a ∧ SqL K H a vs ∧ RepL ad K G xs vs [] := by
  obtain ⟨d, r, k⟩ := h
  cases r with
  | lck e r => exact ⟨_, _, rfl, hh.fz.sql e, r⟩
theorem Vw.tup {xs : List PV} (h : Vw ad K G c (.tup xs) v) (hh : Hold G c H) : ∃ a vs d, v = .ref a ∧ H a = some (.tup vs) ∧ RepL ad K G xs vs d ∧ ∀ z ∈ d, z ∈ c := by
  obtain ⟨d, r, k⟩ := h
  cases r with
  | tup e r => exact ⟨_, _, _, rfl, hh.fz _ _ e, r, k⟩
theorem Vw.seq {p : PV} {xs : List PV} (h : Vw ad K G c p v) (hh : Hold G c H) (e : seqOf p = some xs) : ∃ a vs d, v = .ref a ∧ (SqL K H a vs ∨ SqT K H a vs) ∧ RepL ad K G xs vs d ∧ ∀ z ∈ d, z ∈ c := by
  cases p with
  | lst o ys =>
    obtain rfl : ys = xs := Option.some.inj e
    obtain ⟨a, vs, d, e1, e2, r, k⟩ := h.lst hh
    exact ⟨a, vs, d, e1, .inl (.of e2), r, k⟩
  | lck ys =>
    obtain rfl : ys = xs := Option.some.inj e
    obtain ⟨a, vs, e1, e2, r⟩ := h.lck hh
    exact ⟨a, vs, [], e1, .inl e2, r, fun _ z => nomatch z⟩
  | tup ys =>
    obtain rfl : ys = xs := Option.some.inj e
    obtain ⟨a, vs, d, e1, e2, r, k⟩ := h.tup hh
    exact ⟨a, vs, d, e1, .inr (.of e2), r, k⟩
  | _ => cases e
end
theorem RepL.fz0 {xs : List PV} {vs : List V} {d : List Cell} (r : RepL ad K G xs vs d) (h : PV.fzL xs = true) : RepL ad K G xs vs [] := by
  have e := r.nocell h
  subst e
  exact r
theorem intsP_map : ∀ {xs : List PV} {ns : List Int}, intsP xs = some ns → xs = ns.map .int
  | [], ns, h => by cases h; rfl
  | .int i :: r, ns, h => by
    unfold intsP at h
    cases q : intsP r with
    | none => rw [q] at h; cases h
    | some ms => rw [q] at h; cases h; rw [intsP_map q]; rfl
  | .non :: r, ns, h => by cases h
  | .bl _ :: r, ns, h => by cases h
  | .str _ :: r, ns, h => by cases h
  | .ty _ :: r, ns, h => by cases h
  | .fn _ :: r, ns, h => by cases h
  | .lst _ _ :: r, ns, h => by cases h
  | .lck _ :: r, ns, h => by cases h
  | .tup _ :: r, ns, h => by cases h
theorem strsP_map : ∀ {xs : List PV} {ns : List Str}, strsP xs = some ns → xs = ns.map .str
  | [], ns, h => by cases h; rfl
  | .str i :: r, ns, h => by
    unfold strsP at h
    cases q : strsP r with
    | none => rw [q] at h; cases h
    | some ms => rw [q] at h; cases h; rw [strsP_map q]; rfl
  | .non :: r, ns, h => by cases h
  | .bl _ :: r, ns, h => by cases h
  | .int _ :: r, ns, h => by cases h
  | .ty _ :: r, ns, h => by cases h
  | .fn _ :: r, ns, h => by cases h
  | .lst _ _ :: r, ns, h => by cases h
  | .lck _ :: r, ns, h => by cases h
  | .tup _ :: r, ns, h => by cases h
theorem boolsP_map : ∀ {xs : List PV} {ns : List Bool}, boolsP xs = some ns → xs = ns.map .bl
  | [], ns, h => by cases h; rfl
  | .bl i :: r, ns, h => by
    unfold boolsP at h
    cases q : boolsP r with
    | none => rw [q] at h; cases h
    | some ms => rw [q] at h; cases h; rw [boolsP_map q]; rfl
  | .non :: r, ns, h => by cases h
  | .str _ :: r, ns, h => by cases h
  | .int _ :: r, ns, h => by cases h
  | .ty _ :: r, ns, h => by cases h
  | .fn _ :: r, ns, h => by cases h
  | .lst _ _ :: r, ns, h => by cases h
  | .lck _ :: r, ns, h => by cases h
  | .tup _ :: r, ns, h => by cases h
theorem RepL.ints : ∀ {ns : List Int} {vs : List V} {d : List Cell}, RepL ad K G (ns.map .int) vs d → vs = ns.map .int
  | [], _, _, h => (h.nil').1
  | n :: ns, _, _, h => by
    cases h with
    | cons r t => cases r; rw [RepL.ints t]; rfl
theorem RepL.strs : ∀ {ns : List Str} {vs : List V} {d : List Cell}, RepL ad K G (ns.map .str) vs d → vs = ns.map .str
  | [], _, _, h => (h.nil').1
  | n :: ns, _, _, h => by
    cases h with
    | cons r t => cases r; rw [RepL.strs t]; rfl
theorem RepL.bls : ∀ {ns : List Bool} {vs : List V} {d : List Cell}, RepL ad K G (ns.map .bl) vs d → vs = ns.map .bl
  | [], _, _, h => (h.nil').1
  | n :: ns, _, _, h => by
    cases h with
    | cons r t => cases r; rw [RepL.bls t]; rfl
theorem repL_ints (ns : List Int) : RepL ad K G (ns.map .int) (ns.map .int) [] := by
  induction ns with
  | nil => exact .nil
  | cons n ns ih => exact .cons0 (.int n) ih
theorem repL_strs (ns : List Str) : RepL ad K G (ns.map .str) (ns.map .str) [] := by
  induction ns with
  | nil => exact .nil
  | cons n ns ih => exact .cons0 (.str n) ih
mutual
theorem Rep.dp (s : Sub G H) {c : List Cell} (hc : ∀ z ∈ c, H z.1 = some z.2) : ∀ {p : PV} {v : V} {d : List Cell} {x : PyData}, Rep ad K G p v d → (∀ z ∈ d, z ∈ c) → p.dat = some x → Dp K H v x
  | _, _, _, x, .non, _, e => by cases e; exact .non
  | _, _, _, x, .bl b, _, e => by cases e; exact .bl b
  | _, _, _, x, .int i, _, e => by cases e; exact .int i
  | _, _, _, x, .str i, _, e => by cases e; exact .str i
  | _, _, _, x, .ty _, _, e => by cases e
  | _, _, _, x, .fn _, _, e => by cases e
  | _, _, _, x, .lstF (xs := xs) h r, k, e => by
    simp only [PV.dat] at e
    cases q : PV.datL xs with
    | none => rw [q] at e; cases e
    | some ds => rw [q] at e; cases e; exact .lst (.of (s _ _ h)) (RepL.dp s hc r k q)
  | _, _, _, x, .lstO (xs := xs) r, k, e => by
    simp only [PV.dat] at e
    cases q : PV.datL xs with
    | none => rw [q] at e; cases e
    | some ds => rw [q] at e; cases e; exact .lst (.of (hc _ (k _ List.mem_cons_self))) (RepL.dp s hc r (fun z hz => k z (List.mem_cons_of_mem _ hz)) q)
  | _, _, _, x, .lck (xs := xs) h r, k, e => by
    simp only [PV.dat] at e
    cases q : PV.datL xs with
    | none => rw [q] at e; cases e
    | some ds => rw [q] at e; cases e; exact .lst (s.sql h) (RepL.dp s hc r (fun _ z => nomatch z) q)
  | _, _, _, x, .tup (xs := xs) h r, k, e => by
    simp only [PV.dat] at e
    cases q : PV.datL xs with
    | none => rw [q] at e; cases e
    | some ds => rw [q] at e; cases e; exact .tup (.of (s _ _ h)) (RepL.dp s hc r k q)
theorem RepL.dp (s : Sub G H) {c : List Cell} (hc : ∀ z ∈ c, H z.1 = some z.2) : ∀ {p : List PV} {v : List V} {d : List Cell} {x : List PyData}, RepL ad K G p v d → (∀ z ∈ d, z ∈ c) → PV.datL p = some x → DpAll K H v x
  | _, _, _, x, .nil, _, e => by cases e; exact .nil
  | _, _, _, x, .cons (x := y) (xs := ys) r t, k, e => by
    simp only [PV.datL] at e
    cases q : y.dat with
    | none => rw [q] at e; cases e
    | some d =>
      cases q2 : PV.datL ys with
      | none => rw [q, q2] at e; cases e
      | some ds =>
        rw [q, q2] at e
        cases e
        exact .cons (Rep.dp s hc r (fun z hz => k z (List.mem_append_left _ hz)) q) (RepL.dp s hc t (fun z hz => k z (List.mem_append_right _ hz)) q2)
end
theorem Vw.dp {c : List Cell} {p : PV} {v : V} {x : PyData} (h : Vw ad K G c p v) (hh : Hold G c H) (e : p.dat = some x) : Dp K H v x := by
  obtain ⟨d, r, k⟩ := h
  exact r.dp hh.fz hh.at_ k e

/-- what an operation's reading asks: its arguments are to be read, the language knows the answer, and what follows holds of it -/
def RN (ad : Ad) (K : PySem.W.Frag) (g : List PV → Option PV) : List V → Hp → VK → Prop := fun vs H Q => ∃ ps G c r, VwL ad K G c ps vs ∧ Hold G c H ∧ g ps = some r ∧
  ∀ v H' G' t, Step G c H G' (c ++ t) H' → Hold G' (c ++ t) H' → Rep ad K G' r v t → Q v H'
section
variable {c : List Cell} {Q : VK} {r : PV}
/-- the answer is a value that leaves the heap -/
theorem done0 (hh : Hold G c H) (k : ∀ v H' G' t, Step G c H G' (c ++ t) H' → Hold G' (c ++ t) H' → Rep ad K G' r v t → Q v H') {v : V} (hr : Rep ad K G r v []) : Q v H :=
  k v H G [] (by rw [List.append_nil]; exact Step.refl) (by rw [List.append_nil]; exact hh) hr
/-- .. a new list, held alone -/
theorem doneL (hh : Hold G c H) {xs : List PV} {vs : List V} (hr : RepL ad K G xs vs []) (k : ∀ v H' G' t, Step G c H G' (c ++ t) H' → Hold G' (c ++ t) H' → Rep ad K G' (.lst true xs) v t → Q v H') {p : Addr} (hp : H p = none) :
    Q (.ref p) (upd H p (.lst vs)) := by
  obtain ⟨h1, h2⟩ := hh.newO hp (.lst vs)
  exact k _ _ _ _ h2 h1 (.lstO hr)
/-- .. a new tuple -/
theorem doneT (hh : Hold G c H) {xs : List PV} {vs : List V} (hr : RepL ad K G xs vs []) (k : ∀ v H' G' t, Step G c H G' (c ++ t) H' → Hold G' (c ++ t) H' → Rep ad K G' (.tup xs) v t → Q v H') {p : Addr} (hp : H p = none) :
    Q (.ref p) (upd H p (.tup vs)) := by
  obtain ⟨h1, h2⟩ := hh.newF hp (.tup vs)
  exact k _ _ _ [] (by rw [List.append_nil]; exact h2) (by rw [List.append_nil]; exact h1) (.tup upd_same (hr.mono h2.fz))
end
theorem okS_le {n : Nat} (h : okS n = true) : n ≤ sizeLine := of_decide_eq_true h

section
variable {X : Cx}
theorem rn2 {f : Value → Value → Sem Value} {g : PV → PV → Option PV}
    (h : ∀ (p q r : PV), g p q = some r → ∀ (pins : List (Addr × Obj)) (s : Shared) (σ : St) (G H : Hp) (c : List Cell) (x y : V) (v u : Value) (Q : VK), Inv X pins σ H s → RelV x v → RelV y u → Vw ad X.K G c p x → Vw ad X.K G c q y → Hold G c H →
      (∀ w H' G' t, Step G c H G' (c ++ t) H' → Hold G' (c ++ t) H' → Rep ad X.K G' r w t → Q w H') → wpAny (model X.prog X.w) X.A (f v u) (EP X pins σ Q) X.xe s) {gl : List PV → Option PV} (hg : ∀ p q, gl [p, q] = g p q) :
    OpR X f fun x y H Q => RN ad X.K gl [x, y] H Q := by
  intro pins s σ H x y v u Q I rx ry ⟨ps, G, c, r, hv, hh, e, k⟩
  cases hv with
  | cons a t =>
    cases t with
    | cons b t =>
      cases t
      rw [hg] at e
      exact h _ _ r e pins s σ G H c x y v u Q I rx ry a b hh k
theorem cdat_some {p q : PV} {z : PyData × PyData} (h : cdat p q = some z) : p.dat = some z.1 ∧ q.dat = some z.2 ∧ z.1.depth ≤ 60 := by
  unfold cdat at h
  cases e1 : p.dat with
  | none => rw [e1] at h; cases h
  | some d =>
    cases e2 : q.dat with
    | none => rw [e1, e2] at h; cases h
    | some e =>
      rw [e1, e2] at h
      dsimp only at h
      split at h
      · rename_i hs
        cases h
        exact ⟨rfl, rfl, of_decide_eq_true hs⟩
      · cases h
theorem flatIn_some {p : PV} {xs : List PV} {b : Bool} (h : flatIn p xs = some b) : ∃ d ds, p.dat = some d ∧ PV.datL xs = some ds ∧ b = ds.any fun z => PyData.eqv z d := by
  unfold flatIn at h
  cases e1 : p.dat with
  | none => rw [e1] at h; cases h
  | some d =>
    cases e2 : PV.datL xs with
    | none => rw [e1, e2] at h; cases h
    | some ds =>
      rw [e1, e2] at h
      exact ⟨d, ds, rfl, rfl, (Option.some.inj h).symm⟩
theorem inSeq_some {p : PV} {xs : List PV} {b : Bool} (h : inSeq p xs = some b) : ∃ d ds, p.dat = some d ∧ PV.datL xs = some ds ∧ SeqAt.shaped d = true ∧ SeqAt.shaped (.list ds) = true ∧ b = ds.any fun z => PyData.eqv z d := by
  unfold inSeq at h
  cases e1 : p.dat with
  | none => rw [e1] at h; cases h
  | some d =>
    cases e2 : PV.datL xs with
    | none => rw [e1, e2] at h; cases h
    | some ds =>
      rw [e1, e2] at h
      dsimp only at h
      split at h
      · rename_i hs
        rw [Bool.and_eq_true] at hs
        exact ⟨d, ds, rfl, rfl, hs.1, hs.2, (Option.some.inj h).symm⟩
      · cases h
theorem op_bin (o : Operator) : OpR X (binaryOp o) fun x y H Q => RN ad X.K (opN (.bin o)) [x, y] H Q := by
  refine rn2 (g := binN o) ?_ fun _ _ => rfl
  intro p q r e pins s σ G H c x y v u Q I rx ry vp vq hh k
  unfold binN at e
  split at e
  · -- int + int
    cases e
    obtain rfl := vp.int
    obtain rfl := vq.int
    exact op_add pins s σ H _ _ v u Q I rx ry ⟨_, _, rfl, rfl, done0 hh k (.int _)⟩
  · -- str + str
    split at e
    · rename_i hz
      cases e
      obtain rfl := vp.str
      obtain rfl := vq.str
      exact op_add_str pins s σ H _ _ v u Q I rx ry ⟨_, _, rfl, rfl, okS_le hz, done0 hh k (.str _)⟩
    · cases e
  · -- list + list
    split at e
    · rename_i hz
      cases e
      simp only [Bool.and_eq_true] at hz
      obtain ⟨a, vs, d, rfl, h1, r1, _⟩ := vp.lst hh
      obtain ⟨b, ws, d', rfl, h2, r2, _⟩ := vq.lst hh
      have r1' := r1.fz0 hz.1.2
      have r2' := r2.fz0 hz.2
      refine op_cat pins s σ H _ _ v u Q I rx ry ⟨a, b, vs, ws, rfl, rfl, h1, h2, ?_, fun l hl => doneL hh (r1'.app0 r2') k hl⟩
      rw [← r1.length, ← r2.length]
      exact okS_le hz.1.1
    · cases e
  · -- tuple + tuple
    split at e
    · rename_i hz
      cases e
      simp only [Bool.and_eq_true, Bool.not_eq_true'] at hz
      rename_i xs ys
      obtain ⟨a, vs, d, rfl, h1, r1, _⟩ := vp.tup hh
      obtain ⟨b, ws, d', rfl, h2, r2, k2⟩ := vq.tup hh
      have r1' := r1.fz0 hz.1.1.2
      have r2' := r2.fz0 hz.1.2
      have hlen : vs.length + ws.length ≤ sizeLine := by
        rw [← r1.length, ← r2.length]
        exact okS_le hz.1.1.1
      have hne : vs ≠ [] := fun z => by
        have := r1.length
        rw [z] at this
        have : xs = [] := List.eq_nil_of_length_eq_zero this
        rw [this] at hz
        exact absurd hz.2 (by simp)
      obtain ⟨e0, re0, _⟩ := vp
      refine op_catA pins s σ H _ _ v u Q I rx ry ⟨a, b, vs, ws, rfl, rfl, .of h1, .of h2, hlen, fun z => absurd z hne, fun _ z => ?_, fun _ _ l hl => doneT hh (r1'.app0 r2') k hl⟩
      subst z
      have : ys = [] := List.eq_nil_of_length_eq_zero (r2.length.trans rfl)
      subst this
      rw [List.append_nil] at k
      refine done0 hh k ?_
      cases re0 with
      | tup g r => exact .tup g (r.fz0 hz.1.1.2)
    · cases e
  · cases e
    obtain rfl := vp.int
    obtain rfl := vq.int
    exact op_sub pins s σ H _ _ v u Q I rx ry ⟨_, _, rfl, rfl, done0 hh k (.int _)⟩
  · split at e
    · rename_i hz
      cases e
      obtain rfl := vp.int
      obtain rfl := vq.int
      exact op_mul pins s σ H _ _ v u Q I rx ry ⟨_, _, rfl, rfl, (by have hz' := of_decide_eq_true hz; exact hz'), done0 hh k (.int _)⟩
    · cases e
  · split at e
    · rename_i hz
      cases e
      obtain rfl := vp.str
      obtain rfl := vq.int
      obtain ⟨t1, rfl⟩ := rx
      obtain ⟨t2, rfl⟩ := ry
      exact PySem.SB.mul (of_decide_eq_true hz) fun t' k' => ⟨.str _, H, I.tok _, ⟨_, rfl⟩, done0 hh k (.str _)⟩
    · cases e
  · split at e
    · rename_i hz
      cases e
      simp only [Bool.and_eq_true] at hz
      obtain ⟨a, vs, d, rfl, h1, r1, _⟩ := vp.lst hh
      obtain rfl := vq.int
      have hb := of_decide_eq_true hz.1.2
      refine op_rep pins s σ H _ _ v u Q I rx ry ⟨a, _, vs, rfl, rfl, h1, hb.1, hb.2, ?_, fun l hl => doneL hh ((r1.fz0 hz.2).rep0 _) k hl⟩
      rw [← r1.length]
      exact okS_le hz.1.1
    · cases e
  · split at e
    · rename_i hz
      cases e
      obtain rfl := vp.int
      obtain rfl := vq.int
      exact op_mod pins s σ H _ _ v u Q I rx ry ⟨_, _, rfl, rfl, (by have hz' := of_decide_eq_true hz; exact hz'), done0 hh k (.int _)⟩
    · cases e
  · split at e
    · rename_i hz
      cases e
      obtain rfl := vp.int
      obtain rfl := vq.int
      exact op_fdivW pins s σ H _ _ v u Q I rx ry ⟨_, _, rfl, rfl, (by have hz' := of_decide_eq_true hz; exact hz'), done0 hh k (.int _)⟩
    · cases e
  · split at e
    · rename_i hz
      cases e
      obtain rfl := vp.int
      obtain rfl := vq.int
      exact op_pow pins s σ H _ _ v u Q I rx ry ⟨_, _, rfl, rfl, (by have hz' := of_decide_eq_true hz; exact hz'), done0 hh k (.int _)⟩
    · cases e
  · cases e
theorem eqv_flat {p q : PV} {d e : PyData} (fp : flat p = true) (fq : flat q = true) (hp : p.dat = some d) (hq : q.dat = some e) {x y : V} {c : List Cell} (vp : Vw ad K G c p x) (vq : Vw ad K G c q y) : flatV x = true ∧ flatV y = true ∧ eqV x y = PyData.eqv d e := by
  cases p <;> first
    | exact absurd (show false = true from fp) Bool.false_ne_true
    | skip
  all_goals cases q <;> first
    | exact absurd (show false = true from fq) Bool.false_ne_true
    | skip
  all_goals
    cases hp
    cases hq
    obtain ⟨_, r1, _⟩ := vp
    obtain ⟨_, r2, _⟩ := vq
    cases r1
    cases r2
    refine ⟨rfl, rfl, ?_⟩
    simp [eqV, PyData.eqv]
theorem any_flat {p : PV} {d : PyData} (fp : flat p = true) (hp : p.dat = some d) {x : V} {c : List Cell} (vp : Vw ad K G c p x) : ∀ {xs : List PV} {ds : List PyData} {vs : List V} {e : List Cell}, xs.all flat = true → PV.datL xs = some ds → RepL ad K G xs vs e → (∀ z ∈ e, z ∈ c) →
    vs.all flatV = true ∧ inV x vs = ds.any fun z => PyData.eqv z d
  | [], _, _, _, _, e, r, _ => by
    cases e
    obtain ⟨rfl, _⟩ := r.nil'
    exact ⟨rfl, rfl⟩
  | y :: ys, _, _, _, f, e, r, k => by
    simp only [List.all_cons, Bool.and_eq_true] at f
    simp only [PV.datL] at e
    cases q : y.dat with
    | none => rw [q] at e; cases e
    | some dy =>
      cases q2 : PV.datL ys with
      | none => rw [q, q2] at e; cases e
      | some ds =>
        rw [q, q2] at e
        cases e
        cases r with
        | cons r t =>
          obtain ⟨h1, h2⟩ := any_flat fp hp vp f.2 q2 t fun z hz => k z (List.mem_append_right _ hz)
          obtain ⟨h3, h4, h5⟩ := eqv_flat f.1 fp q hp (⟨_, r, fun z hz => k z (List.mem_append_left _ hz)⟩ : Vw ad K G c y _) vp
          refine ⟨by rw [List.all_cons, h3, h1]; rfl, ?_⟩
          unfold inV at h2 ⊢
          rw [List.any_cons, List.any_cons, h5, h2]
theorem done_bl {c : List Cell} {Q : VK} {b b' : Bool} (hh : Hold G c H) (k : ∀ v H' G' t, Step G c H G' (c ++ t) H' → Hold G' (c ++ t) H' → Rep ad K G' (.bl b) v t → Q v H') (e : b' = b) : Q (.bl b') H := by
  subst e
  exact done0 hh k (.bl _)
theorem op_cmpN (hu : X.A.units + 65 < cLine) (o : CmpOp) : OpR X (compareOp o) fun x y H Q => RN ad X.K (opN (.cmp o)) [x, y] H Q := by
  refine rn2 (g := fun p q => (cmpN o p q).map .bl) ?_ fun _ _ => rfl
  intro p q r e pins s σ G H c x y v u Q I rx ry vp vq hh k
  cases e0 : cmpN o p q with
  | none => rw [e0] at e; cases e
  | some b =>
    rw [e0] at e
    cases e
    unfold cmpN at e0
    split at e0
    · cases e1 : cdat p q with
      | none => rw [e1] at e0; cases e0
      | some z =>
        rw [e1] at e0
        cases e0
        obtain ⟨h1, h2, h3⟩ := cdat_some e1
        obtain ⟨as, r1⟩ := Dp.reads I _ x v (vp.dp hh h1) rx
        obtain ⟨bs, r2⟩ := Dp.reads I _ y u (vq.dp hh h2) ry
        exact (cmp_any (dat_nod h1) (dat_nod h2) r1 r2 (by omega)).1 _ _ _ _ ⟨.bl _, H, I, rfl, done0 hh k (.bl _)⟩
    · cases e1 : cdat p q with
      | none => rw [e1] at e0; cases e0
      | some z =>
        rw [e1] at e0
        cases e0
        obtain ⟨h1, h2, h3⟩ := cdat_some e1
        obtain ⟨as, r1⟩ := Dp.reads I _ x v (vp.dp hh h1) rx
        obtain ⟨bs, r2⟩ := Dp.reads I _ y u (vq.dp hh h2) ry
        exact (cmp_any (dat_nod h1) (dat_nod h2) r1 r2 (by omega)).2 _ _ _ _ ⟨.bl _, H, I, rfl, done0 hh k (.bl _)⟩
    · cases e0
      obtain rfl := vp.int
      obtain rfl := vq.int
      exact op_lt pins s σ H _ _ v u Q I rx ry ⟨_, _, rfl, rfl, done0 hh k (.bl _)⟩
    · cases e0
      obtain rfl := vp.int
      obtain rfl := vq.int
      exact op_le pins s σ H _ _ v u Q I rx ry ⟨_, _, rfl, rfl, done0 hh k (.bl _)⟩
    · cases e0
      obtain rfl := vp.int
      obtain rfl := vq.int
      exact op_gt pins s σ H _ _ v u Q I rx ry ⟨_, _, rfl, rfl, done0 hh k (.bl _)⟩
    · cases e0
      obtain rfl := vp.int
      obtain rfl := vq.int
      exact op_ge pins s σ H _ _ v u Q I rx ry ⟨_, _, rfl, rfl, done0 hh k (.bl _)⟩
    · cases e0
      obtain rfl := vp.str
      obtain rfl := vq.str
      exact op_lt_str pins s σ H _ _ v u Q I rx ry ⟨_, _, rfl, rfl, done0 hh k (.bl _)⟩
    · rename_i xs ys
      unfold ltD at e0
      cases e1 : (PV.tup xs).dat with
      | none => rw [e1] at e0; cases e0
      | some d =>
        cases e2 : (PV.tup ys).dat with
        | none => rw [e1, e2] at e0; cases e0
        | some e =>
          rw [e1, e2] at e0
          dsimp only at e0
          split at e0
          case isFalse => cases e0
          rename_i hc
          cases e0
          rw [Bool.and_eq_true, decide_eq_true_eq] at hc
          obtain ⟨as, r1⟩ := Dp.reads I d x v (vp.dp hh e1) rx
          obtain ⟨bs, r2⟩ := Dp.reads I e y u (vq.dp hh e2) ry
          refine PySem.W.lt_data r1 r2 hc.1 (fun z => ?_) (by omega) ⟨.bl _, H, I, rfl, done0 hh k (.bl _)⟩
          subst z
          simp only [PV.dat] at e1
          cases q : PV.datL xs with
          | none => rw [q] at e1; cases e1
          | some ds => rw [q] at e1; cases e1
    · cases e0
      obtain rfl := vp.str
      obtain rfl := vq.str
      refine op_le_str pins s σ H _ _ v u Q I rx ry ⟨_, _, rfl, rfl, done_bl hh k ?_⟩
      rename_i i j
      by_cases hlt : j.cps.toList < i.cps.toList
      · have : ¬ i.cps.toList ≤ j.cps.toList := fun z => z hlt
        simp [hlt, this]
      · have : i.cps.toList ≤ j.cps.toList := hlt
        simp [hlt, this]
    · -- is None
      obtain rfl := vq.non
      refine op_isN pins s σ H _ _ v u Q I rx ry ⟨rfl, ?_⟩
      refine done_bl hh k ?_
      obtain ⟨_, r, _⟩ := vp
      split at e0
      · cases e0; cases r; rfl
      · rename_i hne
        cases e0
        cases r <;> first
          | exact absurd rfl hne
          | simp
    · obtain rfl := vq.non
      refine op_notN pins s σ H _ _ v u Q I rx ry ⟨rfl, ?_⟩
      refine done_bl hh k ?_
      obtain ⟨_, r, _⟩ := vp
      split at e0
      · cases e0; cases r; rfl
      · rename_i hne
        cases e0
        cases r <;> first
          | exact absurd rfl hne
          | simp
    · -- in a list
      split at e0
      · rename_i hf
        rw [Bool.and_eq_true] at hf
        obtain ⟨d, ds, h1, h2, rfl⟩ := flatIn_some e0
        obtain ⟨a, vs, e, rfl, ha, ra, ka⟩ := vq.lst hh
        obtain ⟨q1, q2⟩ := any_flat hf.1 h1 vp hf.2 h2 ra ka
        refine op_in_seq pins s σ H _ _ v u Q I rx ry ⟨a, vs, rfl, .inl (.of ha), ?_, q1, ?_⟩
        · cases p <;> first
            | exact absurd (show false = true from hf.1) Bool.false_ne_true
            | (obtain ⟨_, r, _⟩ := vp; cases r; rfl)
        · rw [if_neg Bool.false_ne_true]
          exact done_bl hh k q2
      · obtain ⟨d, ds, h1, h2, h3, h4, rfl⟩ := inSeq_some e0
        exact op_inD (by omega) pins s σ H _ _ v u Q I rx ry ⟨d, ds, vp.dp hh h1, vq.dp hh (by simp only [PV.dat, h2]; rfl), h3, h4, done0 hh k (.bl _)⟩
    · split at e0
      · rename_i hf
        rw [Bool.and_eq_true] at hf
        obtain ⟨d, ds, h1, h2, rfl⟩ := flatIn_some e0
        obtain ⟨a, vs, e, rfl, ha, ra, ka⟩ := vq.tup hh
        obtain ⟨q1, q2⟩ := any_flat hf.1 h1 vp hf.2 h2 ra ka
        refine op_in_seq pins s σ H _ _ v u Q I rx ry ⟨a, vs, rfl, .inr (.of ha), ?_, q1, ?_⟩
        · cases p <;> first
            | exact absurd (show false = true from hf.1) Bool.false_ne_true
            | (obtain ⟨_, r, _⟩ := vp; cases r; rfl)
        · rw [if_neg Bool.false_ne_true]
          exact done_bl hh k q2
      · cases e0
    · cases e0
      obtain rfl := vp.str
      obtain rfl := vq.str
      exact op_in_str pins s σ H _ _ v u Q I rx ry ⟨_, _, rfl, rfl, done0 hh k (.bl _)⟩
    · split at e0
      · rename_i hf
        rw [Bool.and_eq_true] at hf
        obtain ⟨b', e1, rfl⟩ := Option.map_eq_some_iff.mp e0
        obtain ⟨d, ds, h1, h2, rfl⟩ := flatIn_some e1
        obtain ⟨a, vs, e, rfl, ha, ra, ka⟩ := vq.lst hh
        obtain ⟨q1, q2⟩ := any_flat hf.1 h1 vp hf.2 h2 ra ka
        refine op_notIn_seq pins s σ H _ _ v u Q I rx ry ⟨a, vs, rfl, .inl (.of ha), ?_, q1, ?_⟩
        · cases p <;> first
            | exact absurd (show false = true from hf.1) Bool.false_ne_true
            | (obtain ⟨_, r, _⟩ := vp; cases r; rfl)
        · rw [if_pos rfl]
          exact done_bl hh k (by rw [q2])
      · obtain ⟨b', e1, rfl⟩ := Option.map_eq_some_iff.mp e0
        obtain ⟨d, ds, h1, h2, h3, h4, rfl⟩ := inSeq_some e1
        exact op_notInD (by omega) pins s σ H _ _ v u Q I rx ry ⟨d, ds, vp.dp hh h1, vq.dp hh (by simp only [PV.dat, h2]; rfl), h3, h4, done0 hh k (.bl _)⟩
    · split at e0
      · rename_i hf
        rw [Bool.and_eq_true] at hf
        obtain ⟨b', e1, rfl⟩ := Option.map_eq_some_iff.mp e0
        obtain ⟨d, ds, h1, h2, rfl⟩ := flatIn_some e1
        obtain ⟨a, vs, e, rfl, ha, ra, ka⟩ := vq.tup hh
        obtain ⟨q1, q2⟩ := any_flat hf.1 h1 vp hf.2 h2 ra ka
        refine op_notIn_seq pins s σ H _ _ v u Q I rx ry ⟨a, vs, rfl, .inr (.of ha), ?_, q1, ?_⟩
        · cases p <;> first
            | exact absurd (show false = true from hf.1) Bool.false_ne_true
            | (obtain ⟨_, r, _⟩ := vp; cases r; rfl)
        · rw [if_pos rfl]
          exact done_bl hh k (by rw [q2])
      · cases e0
    · cases e0
      obtain rfl := vp.str
      obtain rfl := vq.str
      exact L2.op_notin_str pins s σ H _ _ v u Q I rx ry ⟨_, _, rfl, rfl, done_bl hh k (by simp)⟩
    · cases e0
theorem rn1 {c : List Cell} {g : List PV → Option PV} {x : V} {Q : VK} (h : RN ad K g [x] H Q) : ∃ p G c r, Vw ad K G c p x ∧ Hold G c H ∧ g [p] = some r ∧ ∀ v H' G' t, Step G c H G' (c ++ t) H' → Hold G' (c ++ t) H' → Rep ad K G' r v t → Q v H' := by
  obtain ⟨ps, G, c, r, hv, hh, e, k⟩ := h
  cases hv with
  | cons a t => cases t; exact ⟨_, G, c, r, a, hh, e, k⟩
theorem rn_2 {g : List PV → Option PV} {x y : V} {Q : VK} (h : RN ad K g [x, y] H Q) : ∃ p q G c r, Vw ad K G c p x ∧ Vw ad K G c q y ∧ Hold G c H ∧ g [p, q] = some r ∧ ∀ v H' G' t, Step G c H G' (c ++ t) H' → Hold G' (c ++ t) H' → Rep ad K G' r v t → Q v H' := by
  obtain ⟨ps, G, c, r, hv, hh, e, k⟩ := h
  cases hv with
  | cons a t => cases t with | cons b t => cases t; exact ⟨_, _, G, c, r, a, b, hh, e, k⟩
theorem atI_rep {xs : List PV} {vs : List V} {d : List Cell} {i : Int} {x : PV} (r : RepL ad K G xs vs d) (h : atI xs i = some x) : ∃ w e, atI vs i = some w ∧ Rep ad K G x w e ∧ ∀ z ∈ e, z ∈ d := by
  obtain ⟨j, h1, h2, h3, h4, h5⟩ := atI_get h
  obtain ⟨w, e, e1, e2, e3⟩ := r.get h2
  refine ⟨w, e, ?_, e2, e3⟩
  unfold atI at h ⊢
  rw [← r.length]
  cases q : ixN xs.length i with
  | none => rw [q] at h; cases h
  | some m =>
    have := (ixN_seq q).1
    rw [h1] at this
    cases this
    exact e1
theorem op_ixN : IxR X fun x y H Q => RN ad X.K (opN .ix) [x, y] H Q := by
  intro value slice pins s σ H x y v u Q I rx ry h hs
  obtain ⟨p, q, G, c, r, vp, vq, hh, e, k⟩ := rn_2 h
  change ixP p q = some r at e
  unfold ixP at e
  split at e
  · obtain rfl := vq.int
    split at e
    · split at e
      · rename_i hz
        obtain ⟨a, e1, rfl⟩ := Option.map_eq_some_iff.mp e
        obtain rfl := vp.str
        exact ix_str value slice pins s σ H _ _ v u Q I rx ry ⟨_, _, a, rfl, rfl, okS_le hz, e1, done0 hh k (.str _)⟩ hs
      · cases e
    · split at e
      · rename_i hq
        split at e
        · rename_i ha
          split at e
          · rename_i hf
            cases e
            obtain ⟨a, vs, d, rfl, h1, r1, k1⟩ := vp.seq hh hq
            obtain ⟨w, e, e1, e2, e3⟩ := atI_rep r1 ha
            have e4 := e2.nocell hf
            subst e4
            rcases h1 with h1 | h1
            · exact ix_list value slice pins s σ H _ _ v u Q I rx ry ⟨a, vs, _, w, rfl, rfl, h1, e1, done0 hh k e2⟩ hs
            · exact ix_tup value slice pins s σ H _ _ v u Q I rx ry ⟨a, vs, _, w, rfl, rfl, h1, e1, done0 hh k e2⟩ hs
          · cases e
        · cases e
      · cases e
  · cases e
theorem cut_rep {xs : List PV} {vs : List V} (r : RepL ad K G xs vs []) (lo hi : Option Int) : RepL ad K G (cutP xs lo hi) (cutV vs lo hi) [] := by
  unfold cutP cutV
  rw [r.length]
  exact (r.drop0 _).take0 _
/-- a slice, by its parts -/
theorem sl_N {p : PV} {r : PV} {lo hi : Option Int} {c : List Cell} {x : V} {Q : VK} (vp : Vw ad X.K G c p x) (hh : Hold G c H) (e : sliceN p lo hi = some r) (k : ∀ v H' G' t, Step G c H G' (c ++ t) H' → Hold G' (c ++ t) H' → Rep ad X.K G' r v t → Q v H') : rSlL X.K x lo hi H Q ∨ rSlS x lo hi H Q := by
  unfold sliceN at e
  split at e
  · split at e
    · rename_i hf
      cases e
      obtain ⟨a, vs, d, rfl, h1, r1, _⟩ := vp.lst hh
      exact .inl ⟨a, vs, rfl, .of h1, fun l hl => doneL hh (cut_rep (r1.fz0 hf) lo hi) k hl⟩
    · cases e
  · split at e
    · rename_i hf
      cases e
      obtain ⟨a, vs, rfl, h1, r1⟩ := vp.lck hh
      exact .inl ⟨a, vs, rfl, h1, fun l hl => doneL hh (cut_rep r1 lo hi) k hl⟩
    · cases e
  · split at e
    · rename_i hz
      cases e
      obtain rfl := vp.str
      exact .inr ⟨_, rfl, okS_le hz, done0 hh k (.str _)⟩
    · cases e
  · cases e
theorem callN_len : CallR X (.builtin "len") fun xs H Q => RN ad X.K (opN .len) xs H Q := by
  intro pins s σ H xs us Q I r h
  obtain ⟨ps, G, c, z, hv, hh, e, k⟩ := h
  match ps, hv with
  | [p], .cons vp .nil =>
    change lenP p = some z at e
    unfold lenP at e
    split at e
    · split at e
      · rename_i hz
        cases e
        obtain rfl := vp.str
        exact call_len pins s σ H _ us Q I r ⟨_, _, rfl, ⟨okS_le hz, rfl⟩, done0 hh k (.int _)⟩
      · cases e
    · obtain ⟨xs, e1, rfl⟩ := Option.map_eq_some_iff.mp e
      obtain ⟨a, vs, d, rfl, h1, r1, k1⟩ := vp.seq hh e1
      refine call_len pins s σ H _ us Q I r ⟨_, vs.length, rfl, ?_, ?_⟩
      · rcases h1 with h1 | h1
        · exact .inl ⟨vs, h1, rfl⟩
        · exact .inr ⟨vs, h1, rfl⟩
      · rw [← r1.length]
        exact done0 hh k (.int _)
  | [], _ => cases e
  | _ :: _ :: _, _ => cases e
theorem callN_list : CallR X (.type "list") fun xs H Q => RN ad X.K (opN .list) xs H Q := by
  intro pins s σ H xs us Q I r h
  obtain ⟨ps, G, c, z, hv, hh, e, k⟩ := h
  match ps, hv with
  | [p], .cons vp .nil =>
    change listP p = some z at e
    unfold listP at e
    split at e
    · rename_i e1
      split at e
      · rename_i hf
        cases e
        obtain ⟨a, vs, d, rfl, h1, r1, k1⟩ := vp.seq hh e1
        exact call_list_of pins s σ H _ us Q I r ⟨a, vs, rfl, h1, fun l hl => doneL hh (r1.fz0 hf) k hl⟩
      · cases e
    · cases e
  | [], _ => cases e
  | _ :: _ :: _, _ => cases e
theorem callN_tuple : CallR X (.type "tuple") fun xs H Q => RN ad X.K (opN .tuple) xs H Q := by
  intro pins s σ H xs us Q I r h
  obtain ⟨ps, G, c, z, hv, hh, e, k⟩ := h
  match ps, hv with
  | [p], .cons vp .nil =>
    change tupleP p = some z at e
    unfold tupleP at e
    split at e
    · split at e
      · rename_i hf
        cases e
        obtain ⟨a, vs, d, rfl, h1, r1, k1⟩ := vp.lst hh
        exact call_tuple_of pins s σ H _ us Q I r ⟨a, vs, rfl, .inl ⟨.of h1, fun l hl => doneT hh (r1.fz0 hf) k hl⟩⟩
      · cases e
    · split at e
      · rename_i hf
        cases e
        obtain ⟨d, r0, k0⟩ := vp
        cases r0 with
        | tup g r1 =>
          have r1' := r1.fz0 hf
          exact call_tuple_of pins s σ H _ us Q I r ⟨_, _, rfl, .inr ⟨.of (hh.fz _ _ g), done0 hh k (.tup g r1')⟩⟩
      · cases e
    · cases e
  | [], _ => cases e
  | _ :: _ :: _, _ => cases e
theorem callN_int : CallR X (.type "int") fun xs H Q => RN ad X.K (opN .int) xs H Q := by
  intro pins s σ H xs us Q I r h
  obtain ⟨ps, G, c, z, hv, hh, e, k⟩ := h
  match ps, hv with
  | [p], .cons vp .nil =>
    change intP p = some z at e
    unfold intP at e
    split at e
    · cases e
      obtain rfl := vp.int
      exact call_int1 pins s σ H _ us Q I r (.inl ⟨_, rfl, done0 hh k (.int _)⟩)
    · cases e
      obtain rfl := vp.bl
      exact call_int1 pins s σ H _ us Q I r (.inr ⟨_, rfl, done0 hh k (.int _)⟩)
    · cases e
  | [], _ => cases e
  | _ :: _ :: _, _ => cases e
theorem callN_str : CallR X (.type "str") fun xs H Q => RN ad X.K (opN .str) xs H Q := by
  intro pins s σ H xs us Q I r h
  obtain ⟨ps, G, c, z, hv, hh, e, k⟩ := h
  match ps, hv with
  | [p], .cons vp .nil =>
    change strP p = some z at e
    unfold strP at e
    split at e
    · split at e
      · rename_i hz
        cases e
        obtain rfl := vp.int
        exact call_str_int pins s σ H _ us Q I r ⟨_, rfl, of_decide_eq_true hz, done0 hh k (.str _)⟩
      · cases e
    · cases e
  | [], _ => cases e
  | _ :: _ :: _, _ => cases e
theorem lstOf_some {p : PV} {xs : List PV} (h : lstOf p = some xs) : ∃ o, p = .lst o xs := by
  cases p with
  | lst o ys => cases h; exact ⟨o, rfl⟩
  | _ => cases h
theorem callN_all (hc : X.calm = true) : CallR X (.builtin "all") fun xs H Q => RN ad X.K (opN .all) xs H Q := by
  intro pins s σ H xs us Q I r h
  obtain ⟨ps, G, c, z, hv, hh, e, k⟩ := h
  match ps, hv with
  | [p], .cons vp .nil =>
    obtain ⟨bs, e1, rfl⟩ := Option.map_eq_some_iff.mp (show ((lstOf p).bind boolsP).map _ = some z from e)
    obtain ⟨xs, e2, e3⟩ := Option.bind_eq_some_iff.mp e1
    obtain ⟨o, rfl⟩ := lstOf_some e2
    obtain rfl := boolsP_map e3
    obtain ⟨a, vs, d, rfl, h1, r1, k1⟩ := vp.lst hh
    obtain rfl := r1.bls
    exact cr_all hc pins s σ H _ us Q I r ⟨a, bs, rfl, .of h1, done0 hh k (.bl _)⟩
  | [], _ => cases e
  | _ :: _ :: _, _ => cases e
theorem callN_any (hc : X.calm = true) : CallR X (.builtin "any") fun xs H Q => RN ad X.K (opN .any) xs H Q := by
  intro pins s σ H xs us Q I r h
  obtain ⟨ps, G, c, z, hv, hh, e, k⟩ := h
  match ps, hv with
  | [p], .cons vp .nil =>
    obtain ⟨bs, e1, rfl⟩ := Option.map_eq_some_iff.mp (show ((lstOf p).bind boolsP).map _ = some z from e)
    obtain ⟨xs, e2, e3⟩ := Option.bind_eq_some_iff.mp e1
    obtain ⟨o, rfl⟩ := lstOf_some e2
    obtain rfl := boolsP_map e3
    obtain ⟨a, vs, d, rfl, h1, r1, k1⟩ := vp.lst hh
    obtain rfl := r1.bls
    exact cr_any hc pins s σ H _ us Q I r ⟨a, bs, rfl, .of h1, done0 hh k (.bl _)⟩
  | [], _ => cases e
  | _ :: _ :: _, _ => cases e
theorem callN_sum (hc : X.calm = true) : CallR X (.builtin "sum") fun xs H Q => RN ad X.K (opN .sum) xs H Q := by
  intro pins s σ H xs us Q I r h
  obtain ⟨ps, G, c, z, hv, hh, e, k⟩ := h
  match ps, hv with
  | [p], .cons vp .nil =>
    obtain ⟨bs, e1, rfl⟩ := Option.map_eq_some_iff.mp (show ((lstOf p).bind intsP).map _ = some z from e)
    obtain ⟨xs, e2, e3⟩ := Option.bind_eq_some_iff.mp e1
    obtain ⟨o, rfl⟩ := lstOf_some e2
    obtain rfl := intsP_map e3
    obtain ⟨a, vs, d, rfl, h1, r1, k1⟩ := vp.lst hh
    obtain rfl := r1.ints
    exact cr_sum hc pins s σ H _ us Q I r ⟨a, bs, rfl, .of h1, done0 hh k (.int _)⟩
  | [], _ => cases e
  | _ :: _ :: _, _ => cases e
theorem callN_min2 (hc : X.calm = true) : CallR X (.builtin "min") fun xs H Q => RN ad X.K (opN .min2) xs H Q := by
  intro pins s σ H xs us Q I r h
  obtain ⟨ps, G, c, z, hv, hh, e, k⟩ := h
  match ps, hv with
  | [p, q], .cons vp (.cons vq .nil) =>
    cases p with
    | int i =>
      cases q with
      | int j =>
        cases e
        obtain rfl := vp.int
        obtain rfl := vq.int
        exact call_min2 hc pins s σ H _ us Q I r ⟨_, _, rfl, done0 hh k (.int _)⟩
      | _ => cases e
    | _ => cases e
  | [], _ => cases e
  | [_], _ => cases e
  | _ :: _ :: _ :: _, _ => cases e
theorem maxI_mem : ∀ (a : Int) (r : List Int), maxI a r ∈ a :: r ∧ ∀ y ∈ a :: r, y ≤ maxI a r
  | a, [] => ⟨by simp [maxI], by simp [maxI]⟩
  | a, b :: r => by
    unfold maxI
    obtain ⟨h1, h2⟩ := maxI_mem (if b > a then b else a) r
    refine ⟨?_, fun y hy => ?_⟩
    · rcases List.mem_cons.mp h1 with h | h
      · rw [h]
        split <;> simp
      · simp [h]
    · rcases List.mem_cons.mp hy with h | h
      · have := h2 (if b > a then b else a) List.mem_cons_self
        generalize maxI (if b > a then b else a) r = m at this ⊢
        split at this <;> omega
      · rcases List.mem_cons.mp h with h | h
        · have := h2 (if b > a then b else a) List.mem_cons_self
          generalize maxI (if b > a then b else a) r = m at this ⊢
          split at this <;> omega
        · exact h2 y (List.mem_cons_of_mem _ h)
theorem callN_max (hc : X.calm = true) : CallR X (.builtin "max") fun xs H Q => RN ad X.K (opN .max) xs H Q := by
  intro pins s σ H xs us Q I r h
  obtain ⟨ps, G, c, z, hv, hh, e, k⟩ := h
  match ps, hv with
  | [p], .cons vp .nil =>
    change maxP p = some z at e
    unfold maxP at e
    split at e
    · rename_i n ns e1
      cases e
      obtain ⟨xs, e2, e3⟩ := Option.bind_eq_some_iff.mp e1
      obtain ⟨o, rfl⟩ := lstOf_some e2
      obtain rfl := intsP_map e3
      obtain ⟨a, vs, d, rfl, h1, r1, k1⟩ := vp.lst hh
      obtain rfl := r1.ints
      refine cr_max hc pins s σ H _ us Q I r ⟨a, n :: ns, rfl, .of h1, by simp, fun m hm hmax => ?_⟩
      obtain ⟨q1, q2⟩ := maxI_mem n ns
      have : m = maxI n ns := Int.le_antisymm (q2 m hm) (hmax _ q1)
      rw [this]
      exact done0 hh k (.int _)
    · cases e
  | [], _ => cases e
  | _ :: _ :: _, _ => cases e
section
variable {β : Type}
theorem each_vals (f : β → V) : ∀ {bs : List β} {us : List Value}, Vals (bs.map f) us → PySem.W.EachIs (fun v b => RelV (f b) v) us bs
  | [], _, h => by cases h; exact .nil
  | b :: bs, _, h => by
    cases h with
    | cons r t => exact .cons r (each_vals f t)
theorem vals_each (f : β → V) : ∀ {bs : List β} {us : List Value}, PySem.W.EachIs (fun v b => RelV (f b) v) us bs → Vals (bs.map f) us
  | _, _, .nil => .nil
  | _, _, .cons r t => .cons r (vals_each f t)
theorem each_imp {R R' : Value → β → Prop} (h : ∀ v b, R v b → R' v b) : ∀ {us : List Value} {bs : List β}, PySem.W.EachIs R us bs → PySem.W.EachIs R' us bs
  | _, _, .nil => .nil
  | _, _, .cons r t => .cons (h _ _ r) (each_imp h t)
theorem sorted_go {pins : List (Addr × Obj)} {s : Shared} {σ : St} {a : Addr} {Q : VK} (f : β → V) (enc : β → PyData) (bs : List β) (I : Inv X pins σ H s) (hs : H a = some (.lst (bs.map f)))
    (hr : ∀ (h : Heap) (v : Value) (b : β), RelV (f b) v → ∃ as, Reads h v (enc b) as) (hal : ∀ b b', PySem.W.alike (enc b) (enc b') = true) (hn : ∀ b, enc b ≠ .none ∧ ∀ xs, enc b ≠ .tuple xs) (hd : ∀ b, (enc b).depth = 0) (hu : X.A.units + 65 < cLine)
    (q : ∀ p, H p = none → Q (.ref p) (upd H p (.lst ((bs.mergeSort (PySem.W.dataLe false enc)).map f)))) : wpAny (model X.prog X.w) X.A (call (.builtin "sorted") [.ref a]) (EP X pins σ Q) X.xe s := by
  obtain ⟨its, rv, hl, hz⟩ := I.list (.of hs)
  rw [List.length_map] at hz
  have e1 := each_vals f rv
  refine PySem.W.sorted_data (R := fun v b => RelV (f b) v) (enc := enc) (bs := bs) hl.isList e1 (each_imp (fun v b => hr _ v b) e1) (PySem.W.AllAlike.of hal) (PySem.W.Sortable.others hn) hz (fun b _ => by rw [hd]; omega) fun out ho hR => ?_
  obtain ⟨ep, he'⟩ := PyProof.Rows.sortedAll_at s.heap its out.toArray
  have hlen : ((bs.mergeSort (PySem.W.dataLe false enc)).map f).length ≤ sizeLine := by rw [List.length_map, List.length_mergeSort]; exact hz
  exact ⟨.ref _, upd H (s.heap.objs.size + 1) (.lst ((bs.mergeSort (PySem.W.dataLe false enc)).map f)), I.laid (t' := s.toks) (fun _ _ => PyProof.Rows.sortedAll_old) (Nat.le_succ _) ⟨hlen, out, ep, vals_each f hR, he'⟩, rfl, q _ (I.hok.fresh (Nat.le_succ _))⟩
end
theorem callN_sorted (hu : X.A.units + 65 < cLine) : CallR X (.builtin "sorted") fun xs H Q => RN ad X.K (opN .sorted) xs H Q := by
  intro pins s σ H xs us Q I r h
  obtain ⟨ps, G, c, z, hv, hh, e, k⟩ := h
  match ps, hv with
  | [p], .cons vp .nil =>
    obtain ⟨xs, e1, e2⟩ := Option.bind_eq_some_iff.mp (show sortedP p = some z from e)
    obtain ⟨o, rfl⟩ := lstOf_some e1
    obtain ⟨a, vs, d, rfl, h1, r1, k1⟩ := vp.lst hh
    rw [Vals.ref1 r]
    split at e2
    · rename_i ns e3
      cases e2
      obtain rfl := intsP_map e3
      obtain rfl := r1.ints
      refine sorted_go V.int PyData.int ns I h1 (fun h v b ⟨t, e⟩ => by subst e; exact ⟨_, Reads.int b t⟩) (fun _ _ => by simp [PySem.W.alike]) (fun b => ⟨fun z => (by cases z), fun xs z => (by cases z)⟩) (fun b => by simp [PyData.depth]) hu fun p hp => ?_
      rw [PySem.W.dataLe_int (fun b => b)]
      exact doneL hh (repL_ints _) k hp
    · obtain ⟨ys, e3, rfl⟩ := Option.map_eq_some_iff.mp e2
      obtain rfl := strsP_map e3
      obtain rfl := r1.strs
      refine sorted_go V.str PyData.str ys I h1 (fun h v b ⟨t, e⟩ => by subst e; exact ⟨_, Reads.str b t⟩) (fun _ _ => by simp [PySem.W.alike]) (fun b => ⟨fun z => (by cases z), fun xs z => (by cases z)⟩) (fun b => by simp [PyData.depth]) hu fun p hp => ?_
      rw [PySem.W.dataLe_str (fun b => b)]
      exact doneL hh (repL_strs _) k hp
  | [], _ => cases e
  | _ :: _ :: _, _ => cases e
theorem isi_kit {t T : String} (ht : t = "NoneType" ∨ t = "bool" ∨ t = "int" ∨ t = "str" ∨ t = "list" ∨ t = "tuple") (hT : isiOk.contains T = true) : kitB t T = some (isiT t T) := by
  have hT' : T = "int" ∨ T = "str" ∨ T = "bool" ∨ T = "list" ∨ T = "tuple" := by simpa [isiOk] using hT
  rcases hT' with rfl | rfl | rfl | rfl | rfl <;> rcases ht with rfl | rfl | rfl | rfl | rfl | rfl <;> decide +kernel
theorem Vw.ty_ {c : List Cell} {p : PV} {x : V} {t : String} (vp : Vw ad X.K G c p x) (hh : Hold G c H) (e : tyN p = some t) : TyX X.K H x (.type t) ∧ (t = "NoneType" ∨ t = "bool" ∨ t = "int" ∨ t = "str" ∨ t = "list" ∨ t = "tuple") := by
  cases p with
  | non => cases e; obtain rfl := vp.non; exact ⟨.base .non, by simp⟩
  | bl b => cases e; obtain rfl := vp.bl; exact ⟨.base (.bl _), by simp⟩
  | int i => cases e; obtain rfl := vp.int; exact ⟨.base (.int _), by simp⟩
  | str i => cases e; obtain rfl := vp.str; exact ⟨.base (.str _), by simp⟩
  | lst o xs =>
    cases e
    obtain ⟨a, vs, d, rfl, h1, _⟩ := vp.lst hh
    exact ⟨.base (.lst h1), by simp⟩
  | tup xs =>
    cases e
    obtain ⟨a, vs, d, rfl, h1, _⟩ := vp.tup hh
    exact ⟨.base (.tup h1), by simp⟩
  | _ => cases e
theorem callN_isi : CallR X (.builtin "isinstance") fun xs H Q => RN ad X.K (opN .isi) xs H Q := by
  intro pins s σ H xs us Q I r h
  obtain ⟨ps, G, c, z, hv, hh, e, k⟩ := h
  match ps, hv with
  | [p, q], .cons vp (.cons vq .nil) =>
    change isiP p q = some z at e
    unfold isiP at e
    split at e
    · rename_i t T e1
      split at e
      · rename_i hT
        cases e
        obtain rfl := vq.ty
        obtain ⟨h1, h2⟩ := vp.ty_ hh e1
        exact call_isi pins s σ H _ us Q I r ⟨_, _, _, _, _, rfl, .ty T, h1, kit_ty (isi_kit h2 hT), done0 hh k (.bl _)⟩
      · cases e
    · cases e
  | [], _ => cases e
  | [_], _ => cases e
  | _ :: _ :: _ :: _, _ => cases e
theorem mtN_join : MtR X "str.join" fun x xs H Q => RN ad X.K (opN .join) (x :: xs) H Q := by
  intro pins s σ H x xs v us Q I rx rs h
  obtain ⟨ps, G, c, z, hv, hh, e, k⟩ := h
  match ps, hv with
  | [p, q], .cons vp (.cons vq .nil) =>
    change joinP p q = some z at e
    unfold joinP at e
    split at e
    · rename_i z' ys e1
      split at e
      · rename_i hz
        cases e
        obtain ⟨xs, e2, e3⟩ := Option.bind_eq_some_iff.mp e1
        obtain ⟨o, rfl⟩ := lstOf_some e2
        obtain rfl := strsP_map e3
        obtain rfl := vp.str
        obtain ⟨a, vs, d, rfl, h1, r1, k1⟩ := vq.lst hh
        obtain rfl := r1.strs
        exact mt_join pins s σ H _ _ v us Q I rx rs ⟨_, a, ys, rfl, rfl, .inl (.of h1), of_decide_eq_true hz, done0 hh k (.str _)⟩
      · cases e
    · cases e
  | [], _ => cases e
  | [_], _ => cases e
  | _ :: _ :: _ :: _, _ => cases e
/-- truth -/
theorem tru_N {c : List Cell} {p : PV} {x : V} {b : Bool} (vp : Vw ad X.K G c p x) (hh : Hold G c H) (e : truth p = some b) : TruV X.K x H b := by
  unfold truth at e
  cases p with
  | non => cases e; obtain rfl := vp.non; exact rfl
  | bl b => cases e; obtain rfl := vp.bl; exact rfl
  | int i => cases e; obtain rfl := vp.int; exact rfl
  | str i =>
    obtain rfl := vp.str
    dsimp only at e
    split at e
    · rename_i hz
      cases e
      exact ⟨okS_le hz, rfl⟩
    · cases e
  | lst o xs =>
    cases e
    obtain ⟨a, vs, d, rfl, h1, r1, _⟩ := vp.lst hh
    refine .inl ⟨vs, .of h1, ?_⟩
    cases r1 <;> rfl
  | lck xs =>
    cases e
    obtain ⟨a, vs, rfl, h1, r1⟩ := vp.lck hh
    refine .inl ⟨vs, h1, ?_⟩
    generalize ([] : List Cell) = z at r1
    cases r1 <;> rfl
  | tup xs =>
    cases e
    obtain ⟨a, vs, d, rfl, h1, r1, _⟩ := vp.tup hh
    refine .inr (.inl ⟨vs, .of h1, ?_⟩)
    cases r1 <;> rfl
  | _ => cases e
end
end Y
end
section
set_option Elab.async false
set_option linter.all false
set_option maxRecDepth 100000
set_option maxHeartbeats 2000000
set_option autoImplicit false
/-! Y4: judgements by the evaluator: expressions. -/
namespace Y
open PySem L2
variable {ad : Ad} {K : PySem.W.Frag} {G G' G1 G2 H H' H1 H2 : Hp}

abbrev RRel (α β : Type) := St → Hp → α → β → List Cell → Prop
/-- what is wanted behind the evaluator's result -/
def Aft (ad : Ad) (K : PySem.W.Frag) (W : WX) (σ : St) {α β : Type} (R : RRel α β) (G : Hp) (c : List Cell) (H : Hp) (Q : β → Hp → Prop) : Res α → Prop
  | .ok a ρ => ∀ v H' G' c' t, Step G c H G' (c' ++ t) H' → Slots ad K G' ρ σ c' → Hold G' (c' ++ t) H' → R σ G' a v t → Q v H'
  | .ex x ρ => ∀ d H' G' c', Step G c H G' c' H' → Slots ad K G' ρ σ c' → Hold G' c' H' → XRep ad K G' x d → W (.ref (ad x.cls)) (some d) σ H'
  | .bad => False
def rd (ad : Ad) (X : Cx) (W : WX) {α β : Type} (R : RRel α β) (m : Fr → Res α) : St → Hp → (β → Hp → Prop) → Prop := fun σ H Q => ∃ ρ G c, Slots ad X.K G ρ σ c ∧ Hold G c H ∧ Aft ad X.K W σ R G c H Q (m ρ)
def RelP (ad : Ad) (K : PySem.W.Frag) : RRel PV V := fun _ G p v t => Rep ad K G p v t
def RelL (ad : Ad) (K : PySem.W.Frag) : RRel (List PV) (List V) := fun _ G p v t => RepL ad K G p v t
/-- an operand stands as v -/
def OVal (ad : Ad) (K : PySem.W.Frag) (σ : St) (G : Hp) : OV → V → Prop
  | .vw i, v => σ[i]? = some (some v)
  | .vl p, v => Rep ad K G p v []
  | .vi i k, v => ∃ a vs, σ[i]? = some (some (.ref a)) ∧ G a = some (.tup vs) ∧ vs[k]? = some v
def RelO (ad : Ad) (K : PySem.W.Frag) : RRel OV V := fun σ G o v t => t = [] ∧ OVal ad K σ G o v
inductive OVals (ad : Ad) (K : PySem.W.Frag) (σ : St) (G : Hp) : List OV → List V → Prop
  | nil : OVals ad K σ G [] []
  | cons {o : OV} {os : List OV} {v : V} {vs : List V} : OVal ad K σ G o v → OVals ad K σ G os vs → OVals ad K σ G (o :: os) (v :: vs)
def RelOs (ad : Ad) (K : PySem.W.Frag) : RRel (List OV) (List V) := fun σ G o v t => t = [] ∧ OVals ad K σ G o v
def RelB : RRel Bool Bool := fun _ _ b b' t => t = [] ∧ b = b'
theorem OVal.mono {σ : St} (s : Sub G G') {o : OV} {v : V} (h : OVal ad K σ G o v) : OVal ad K σ G' o v := by
  cases o with
  | vw i => exact h
  | vl p => exact Rep.mono s h
  | vi i k =>
    obtain ⟨a, vs, e1, e2, e3⟩ := h
    exact ⟨a, vs, e1, s _ _ e2, e3⟩
theorem OVals.mono {σ : St} (s : Sub G G') : ∀ {o : List OV} {v : List V}, OVals ad K σ G o v → OVals ad K σ G' o v
  | _, _, .nil => .nil
  | _, _, .cons r t => .cons (r.mono s) (OVals.mono s t)

section
variable {W : WX} {σ : St} {α β γ δ : Type} {R : RRel α β} {R2 : RRel γ δ} {c c1 : List Cell} {Q : δ → Hp → Prop} {P : β → Hp → Prop}
/-- one after the other -/
theorem Aft.seq {r : Res α} {f : α → Fr → Res γ} (h : Aft ad K W σ R2 G c H Q (r.bind f))
    (k : ∀ a ρ v H1 G1 c1 t, Step G c H G1 (c1 ++ t) H1 → Slots ad K G1 ρ σ c1 → Hold G1 (c1 ++ t) H1 → R σ G1 a v t → Aft ad K W σ R2 G c H Q (f a ρ) → P v H1) : Aft ad K W σ R G c H P r := by
  cases r with
  | ok a ρ => exact fun v H' G' c' t s sl hh hr => k a ρ v H' G' c' t s sl hh hr h
  | ex x ρ => exact h
  | bad => exact h
theorem Aft.go {r : Res γ} (h : Aft ad K W σ R2 G c H Q r) (s : Step G c H G1 c1 H1) (h1 : Hold G1 c1 H1) : Aft ad K W σ R2 G1 c1 H1 Q r := by
  cases r with
  | ok a ρ => exact fun v H' G' c' t s2 sl hh hr => h v H' G' c' t (s.trans s2 h1) sl hh hr
  | ex x ρ => exact fun d H' G' c' s2 sl hh hr => h d H' G' c' (s.trans s2 h1) sl hh hr
  | bad => exact h
theorem Aft.go0 {r : Res γ} (h : Aft ad K W σ R2 G c H Q r) (s : Step G c H G1 (c1 ++ []) H1) (h1 : Hold G1 (c1 ++ []) H1) : Aft ad K W σ R2 G1 c1 H1 Q r := by
  rw [List.append_nil] at s h1
  exact h.go s h1
theorem perm_t {c t t2 : List Cell} : ((c ++ t2) ++ t).Perm (c ++ (t ++ t2)) := by
  rw [List.append_assoc]
  exact List.perm_append_comm.append_left c
/-- .. beside the cells t -/
theorem Aft.goT {t : List Cell} {R3 : RRel γ δ} {Q3 : δ → Hp → Prop} {r : Res γ} (h : Aft ad K W σ R2 G c H Q r) (s : Step G c H G1 (c1 ++ t) H1) (h1 : Hold G1 (c1 ++ t) H1)
    (k : ∀ a v G2 H2 c2 t2, Sub G1 G2 → Step G c H G2 (c2 ++ (t ++ t2)) H2 → Hold G2 (c2 ++ (t ++ t2)) H2 → R3 σ G2 a v t2 → (∀ ρ, r = .ok a ρ → Slots ad K G2 ρ σ c2 → (∀ w t', R2 σ G2 a w t' → Step G c H G2 (c2 ++ t') H2 → Hold G2 (c2 ++ t') H2 → Q w H2) → Q3 v H2)) : Aft ad K W σ R3 G1 c1 H1 Q3 r := by
  cases r with
  | ok a ρ =>
    intro v H' G' c' t2 s2 sl hh hr
    exact k a v G' H' c' t2 s2.fz ((s.frame s2 h1).perm (List.Perm.refl _) perm_t) ((h1.frame s2 hh).perm perm_t) hr ρ rfl sl fun w t' hw s' h' => h w H' G' c' t' s' sl h' hw
  | ex x ρ => exact fun d H' G' c' s2 sl hh hr => h d H' G' c' ((s.frame s2 h1).less fun z hz => List.mem_append_left _ hz) sl hh hr
  | bad => exact h
end

theorem _root_.L2.PE.imp {X : Cx} {e : Expr} {t t' : TE} (h : PE X e t) (i : ∀ σ H Q, t' σ H Q → t σ H Q) : PE X e t' := ⟨fun pins s σ H Q I hw => h.run pins s σ H Q I (i σ H Q hw)⟩
theorem _root_.L2.PT.imp {X : Cx} {e : Expr} {t t' : TT} (h : PT X e t) (i : ∀ σ H Q, t' σ H Q → t σ H Q) : PT X e t' := ⟨fun pins s σ H Q I hw => h.run pins s σ H Q I (i σ H Q hw)⟩
theorem _root_.L2.PA.imp {X : Cx} {e : List Expr} {t t' : TA} (h : PA X e t) (i : ∀ σ H Q, t' σ H Q → t σ H Q) : PA X e t' := ⟨fun pos pins s σ H Q I hw => h.run pos pins s σ H Q I (i σ H Q hw)⟩

/-! ### expressions -/
abbrev SE (ad : Ad) (X : Cx) (W : WX) (e : Expr) (m : Fr → Res PV) : Prop := PE X e (rd ad X W (RelP ad X.K) m)
abbrev SO (ad : Ad) (X : Cx) (W : WX) (e : Expr) (m : Fr → Res OV) : Prop := PE X e (rd ad X W (RelO ad X.K) m)
abbrev ST (ad : Ad) (X : Cx) (W : WX) (e : Expr) (m : Fr → Res Bool) : Prop := PT X e (rd ad X W RelB m)
abbrev SOs (ad : Ad) (X : Cx) (W : WX) (e : List Expr) (m : Fr → Res (List OV)) : Prop := PA X e (rd ad X W (RelOs ad X.K) m)
abbrev SLs (ad : Ad) (X : Cx) (W : WX) (e : List Expr) (m : Fr → Res (List PV)) : Prop := PA X e (rd ad X W (RelL ad X.K) m)
section
variable {X : Cx} {W : WX} {cf : Cf} {pos : Pos}
/-- a value that is written -/
theorem aft_val {σ : St} {c : List Cell} {Q : VK} {p : PV} {v : V} {ρ : Fr} (h : Aft ad X.K W σ (RelP ad X.K) G c H Q (.ok p ρ)) (sl : Slots ad X.K G ρ σ c) (hh : Hold G c H) (r : Rep ad X.K G p v []) : Q v H :=
  h v H G c [] (by rw [List.append_nil]; exact Step.refl) sl (by rw [List.append_nil]; exact hh) r
theorem se_cst {e : Expr} {p : PV} {v : V} (h : PE X e (tC v)) (r : ∀ G, Rep ad X.K G p v []) : SE ad X W e (evE cf (.cst p)) := h.imp fun σ H Q hq => by
  obtain ⟨ρ, G, c, sl, hh, ha⟩ := hq
  exact aft_val (W := W) (by simpa only [evE] using ha) sl hh (r G)
theorem slot_frz {σ : St} {ρ : Fr} {c : List Cell} {i : Nat} {p : PV} (sl : Slots ad K G ρ σ c) (hh : Hold G c H) (e : ρ.at i = some p) : ∃ v G' c', σ[i]? = some (some v) ∧ Step G c H G' c' H ∧ Hold G' c' H ∧ Slots ad K G' (ρ.set i (some p.frz)) σ c' ∧ Rep ad K G' p.frz v [] := by
  obtain ⟨v, d, r, e1, e2, e3, e4⟩ := sl.out e
  have h1 : Hold G (r ++ d) H := hh.perm (e4.trans List.perm_append_comm)
  have s1 : Step G c H G (r ++ d) H := (Step.refl (c := c)).perm (List.Perm.refl _) (e4.trans List.perm_append_comm)
  have r1 := e2.absorb h1
  obtain ⟨c', e5, e6⟩ := (e3.mono (addc_sub h1.right)).tell (i := i) at_set_none (by simpa using at_lt e) e1 r1
  rw [set_set_none] at e5
  exact ⟨v, addc G d, c', e1, (s1.absorb h1).perm (List.Perm.refl _) e6.symm, h1.absorb.perm e6.symm, e5, r1⟩
theorem se_loc {x : Str} {i : Nat} (h : PE X (.Name x pos) (tVar i)) : SE ad X W (.Name x pos) (evE cf (.loc i)) := h.imp fun σ H Q hq => by
  obtain ⟨ρ, G, c, sl, hh, ha⟩ := hq
  simp only [evE] at ha
  cases e : ρ.at i with
  | none => rw [e] at ha; exact ha.elim
  | some p =>
    rw [e] at ha
    obtain ⟨v, G', c', e1, s, h2, sl2, r⟩ := slot_frz sl hh e
    exact ⟨v, e1, ha v H G' c' [] (by rw [List.append_nil]; exact s) sl2 (by rw [List.append_nil]; exact h2) r⟩
theorem se_mov {x : Str} {i : Nat} (h : PE X (.Name x pos) (tVar i)) : SE ad X W (.Name x pos) (evE cf (.mov i)) := h.imp fun σ H Q hq => by
  obtain ⟨ρ, G, c, sl, hh, ha⟩ := hq
  simp only [evE] at ha
  cases e : ρ.at i with
  | none => rw [e] at ha; exact ha.elim
  | some p =>
    rw [e] at ha
    obtain ⟨v, d, r, e1, e2, e3, e4⟩ := sl.out e
    exact ⟨v, e1, ha v H G r d ((Step.refl (c := c)).perm (List.Perm.refl _) (e4.trans List.perm_append_comm)) e3 (hh.perm (e4.trans List.perm_append_comm)) e2⟩
/-- an operand that is read by its name -/
theorem so_loc {x : Str} {i : Nat} {run : Fr → Res PV} (h : PE X (.Name x pos) (tVar i)) : SO ad X W (.Name x pos) (opnd (.loc i) run) := h.imp fun σ H Q hq => by
  obtain ⟨ρ, G, c, sl, hh, ha⟩ := hq
  simp only [opnd] at ha
  cases e : ρ.at i with
  | none => rw [e] at ha; exact ha.elim
  | some p =>
    rw [e] at ha
    obtain ⟨v, d, r, e1, e2, e3, e4⟩ := sl.out e
    exact ⟨v, e1, ha v H G c [] (by rw [List.append_nil]; exact Step.refl) sl (by rw [List.append_nil]; exact hh) ⟨rfl, e1⟩⟩
def isLoc : IE → Bool
  | .loc _ => true
  | .it _ _ => true
  | _ => false
theorem opnd_val {ie : IE} {run : Fr → Res PV} (h : isLoc ie = false) (ρ : Fr) : opnd ie run ρ = (run ρ).bind fun p ρ' => .ok (.vl p.frz) ρ' := by
  cases ie <;> first
    | rfl
    | cases h
theorem so_val {e : Expr} {ie : IE} {run : Fr → Res PV} (hl : isLoc ie = false) (h : SE ad X W e run) : SO ad X W e (opnd ie run) := h.imp fun σ H Q hq => by
  obtain ⟨ρ, G, c, sl, hh, ha⟩ := hq
  rw [opnd_val hl] at ha
  refine ⟨ρ, G, c, sl, hh, ha.seq fun p ρ1 v H1 G1 c1 t s sl1 h1 r k => ?_⟩
  exact k v H1 (addc G1 t) c1 [] (by rw [List.append_nil]; exact s.absorb h1) (sl1.mono (addc_sub h1.right)) (by rw [List.append_nil]; exact h1.absorb) ⟨rfl, Rep.absorb h1 r⟩
theorem OVal.vw {σ : St} {ρ : Fr} {c : List Cell} {o : OV} {v : V} {p : PV} (h : OVal ad K σ G o v) (sl : Slots ad K G ρ σ c) (e : rsv ρ o = some p) : Vw ad K G c p v := by
  cases o with
  | vw i =>
    obtain ⟨w, d, r, e1, e2, e3, e4⟩ := sl.out (show ρ.at i = some p from e)
    have e5 : σ[i]? = some (some v) := h
    rw [e1] at e5
    cases e5
    exact ⟨d, e2, fun z hz => e4.symm.mem_iff.mp (List.mem_append_left _ hz)⟩
  | vl q =>
    cases e
    exact Rep.vw h
  | vi i k =>
    obtain ⟨a, vs, h1, h2, h3⟩ := h
    simp only [rsv] at e
    split at e
    · rename_i xs ex
      obtain ⟨w, d, r, e1, e2, e3, e4⟩ := sl.out ex
      rw [h1] at e1
      cases e1
      cases e2 with
      | tup g rl =>
        rw [h2] at g
        cases g
        obtain ⟨w, d', f1, f2, f3⟩ := rl.get e
        rw [h3] at f1
        cases f1
        exact ⟨d', f2, fun z hz => e4.symm.mem_iff.mp (List.mem_append_left _ (f3 z hz))⟩
    · cases e
theorem OVals.vw {σ : St} {ρ : Fr} {c : List Cell} (sl : Slots ad K G ρ σ c) : ∀ {os : List OV} {vs : List V} {ps : List PV}, OVals ad K σ G os vs → rsvL ρ os = some ps → VwL ad K G c ps vs
  | _, _, _, .nil, e => by cases e; exact .nil
  | _, _, _, .cons (o := o) (os := os) r t, e => by
    unfold rsvL at e
    cases e1 : rsv ρ o with
    | none => rw [e1] at e; cases e
    | some p =>
      cases e2 : rsvL ρ os with
      | none => rw [e1, e2] at e; cases e
      | some ps =>
        rw [e1, e2] at e
        cases e
        exact .cons (r.vw sl e1) (OVals.vw sl t e2)
/-- the operands are there: the operation -/
theorem fin_op {f : Op} {σ : St} {ρ : Fr} {c : List Cell} {os : List OV} {vs : List V} {Q : VK} (h : Aft ad X.K W σ (RelP ad X.K) G c H Q (match rsvL ρ os with
    | some ps => (match opN f ps with
      | some r => .ok r ρ
      | none => .bad)
    | none => .bad)) (sl : Slots ad X.K G ρ σ c) (hh : Hold G c H) (ho : OVals ad X.K σ G os vs) : RN ad X.K (opN f) vs H Q := by
  cases e1 : rsvL ρ os with
  | none => rw [e1] at h; exact h.elim
  | some ps =>
    rw [e1] at h
    dsimp only at h
    cases e2 : opN f ps with
    | none => rw [e2] at h; exact h.elim
    | some r =>
      rw [e2] at h
      exact ⟨ps, G, c, r, ho.vw sl e1, hh, e2, fun v H' G' t s h' hr => h v H' G' c t s (sl.mono s.fz) h' hr⟩
theorem rd_op1 {f : Op} {a : IE} {σ : St} {H : Hp} {Q : VK} (h : rd ad X W (RelP ad X.K) (evE cf (.op f [a])) σ H Q) : rd ad X W (RelO ad X.K) (opnd a (evE cf a)) σ H fun x H1 => RN ad X.K (opN f) [x] H1 Q := by
  obtain ⟨ρ, G, c, sl, hh, ha⟩ := h
  simp only [evE, evO] at ha
  refine ⟨ρ, G, c, sl, hh, ?_⟩
  cases e : opnd a (evE cf a) ρ with
  | bad => rw [e] at ha; exact ha
  | ex x ρ1 => rw [e] at ha; exact ha
  | ok o ρ1 =>
    rw [e] at ha
    simp only [Res.bind] at ha
    intro v H1 G1 c1 t s sl1 h1 ⟨et, hv⟩
    subst et
    have ha1 := ha.go0 s h1
    rw [List.append_nil] at h1
    exact fin_op ha1 sl1 h1 (.cons hv .nil)
theorem rd_op2 {f : Op} {a b : IE} {σ : St} {H : Hp} {Q : VK} (h : rd ad X W (RelP ad X.K) (evE cf (.op f [a, b])) σ H Q) :
    rd ad X W (RelO ad X.K) (opnd a (evE cf a)) σ H fun x H1 => rd ad X W (RelO ad X.K) (opnd b (evE cf b)) σ H1 fun y H2 => RN ad X.K (opN f) [x, y] H2 Q := by
  obtain ⟨ρ, G, c, sl, hh, ha⟩ := h
  simp only [evE, evO] at ha
  refine ⟨ρ, G, c, sl, hh, ?_⟩
  cases e : opnd a (evE cf a) ρ with
  | bad => rw [e] at ha; exact ha
  | ex x ρ1 => rw [e] at ha; exact ha
  | ok o ρ1 =>
    rw [e] at ha
    simp only [Res.bind] at ha
    intro v H1 G1 c1 t s sl1 h1 ⟨et, hv⟩
    subst et
    have ha1 := ha.go0 s h1
    rw [List.append_nil] at h1
    refine ⟨ρ1, G1, c1, sl1, h1, ?_⟩
    cases e2 : opnd b (evE cf b) ρ1 with
    | bad => rw [e2] at ha1; exact ha1
    | ex x ρ2 => rw [e2] at ha1; exact ha1
    | ok o2 ρ2 =>
      rw [e2] at ha1
      intro v2 H2 G2 c2 t2 s2 sl2 h2 ⟨et2, hv2⟩
      subst et2
      have ha2 := ha1.go0 s2 h2
      rw [List.append_nil] at h2
      exact fin_op ha2 sl2 h2 (.cons (hv.mono s2.fz) (.cons hv2 .nil))
theorem nilL {c : List Cell} {G H G' H' : Hp} {c' : List Cell} (s : Step G c H G' (c' ++ []) H') : Step G c H G' c' H' := by rwa [List.append_nil] at s
theorem nilH {c : List Cell} (h : Hold G (c ++ []) H) : Hold G c H := by rwa [List.append_nil] at h
theorem toL {c : List Cell} {G H G' H' : Hp} {c' : List Cell} (s : Step G c H G' c' H') : Step G c H G' (c' ++ []) H' := by rwa [List.append_nil]
theorem toH {c : List Cell} (h : Hold G c H) : Hold G (c ++ []) H := by rwa [List.append_nil]
theorem rd_os_nil {σ : St} {H : Hp} {Q : List V → Hp → Prop} (h : rd ad X W (RelOs ad X.K) (evO cf []) σ H Q) : Q [] H := by
  obtain ⟨ρ, G, c, sl, hh, ha⟩ := h
  simp only [evO] at ha
  exact ha [] H G c [] (toL Step.refl) sl (toH hh) ⟨rfl, .nil⟩
theorem rd_os_cons {a : IE} {es : List IE} {σ : St} {H : Hp} {Q : List V → Hp → Prop} (h : rd ad X W (RelOs ad X.K) (evO cf (a :: es)) σ H Q) :
    rd ad X W (RelO ad X.K) (opnd a (evE cf a)) σ H fun x H1 => rd ad X W (RelOs ad X.K) (evO cf es) σ H1 fun xs H2 => Q (x :: xs) H2 := by
  obtain ⟨ρ, G, c, sl, hh, ha⟩ := h
  simp only [evO] at ha
  refine ⟨ρ, G, c, sl, hh, ha.seq fun o ρ1 v H1 G1 c1 t s sl1 h1 ⟨et, hv⟩ k => ?_⟩
  subst et
  have k1 := k.go0 s h1
  refine ⟨ρ1, G1, c1, sl1, nilH h1, k1.seq fun os ρ2 vs H2 G2 c2 t2 s2 sl2 h2 ⟨et2, hv2⟩ k2 => ?_⟩
  subst et2
  exact k2 (v :: vs) H2 G2 c2 [] s2 sl2 h2 ⟨rfl, .cons (hv.mono s2.fz) hv2⟩
theorem sos_nil : SOs ad X W [] (evO cf []) := pa_nil.imp fun _ _ _ h => rd_os_nil h
theorem sos_cons {e : Expr} {es : List Expr} {a : IE} {as : List IE} (ha : SO ad X W e (opnd a (evE cf a))) (hs : SOs ad X W es (evO cf as)) (hst : starEach (e :: es) X.env = (false, eval e X.env) :: starEach es X.env) : SOs ad X W (e :: es) (evO cf (a :: as)) :=
  (pa_cons ha hs hst).imp fun _ _ _ h => rd_os_cons h
theorem rd_op {f : Op} {es : List IE} {σ : St} {H : Hp} {Q : VK} (h : rd ad X W (RelP ad X.K) (evE cf (.op f es)) σ H Q) : rd ad X W (RelOs ad X.K) (evO cf es) σ H fun xs H1 => RN ad X.K (opN f) xs H1 Q := by
  obtain ⟨ρ, G, c, sl, hh, ha⟩ := h
  simp only [evE] at ha
  refine ⟨ρ, G, c, sl, hh, ha.seq fun o ρ1 v H1 G1 c1 t s sl1 h1 ⟨et, hv⟩ k => ?_⟩
  subst et
  exact fin_op (k.go0 s h1) sl1 (nilH h1) hv
theorem rd_ls_nil {σ : St} {H : Hp} {Q : List V → Hp → Prop} (h : rd ad X W (RelL ad X.K) (evL cf []) σ H Q) : Q [] H := by
  obtain ⟨ρ, G, c, sl, hh, ha⟩ := h
  simp only [evL] at ha
  exact ha [] H G c [] (toL Step.refl) sl (toH hh) .nil
theorem rd_ls_cons {a : IE} {es : List IE} {σ : St} {H : Hp} {Q : List V → Hp → Prop} (h : rd ad X W (RelL ad X.K) (evL cf (a :: es)) σ H Q) :
    rd ad X W (RelP ad X.K) (evE cf a) σ H fun x H1 => rd ad X W (RelL ad X.K) (evL cf es) σ H1 fun xs H2 => Q (x :: xs) H2 := by
  obtain ⟨ρ, G, c, sl, hh, ha⟩ := h
  simp only [evL] at ha
  refine ⟨ρ, G, c, sl, hh, ha.seq fun p ρ1 v H1 G1 c1 t s sl1 h1 hv k => ?_⟩
  refine ⟨ρ1, G1, c1, sl1, h1.left, ?_⟩
  have hv' : Rep ad X.K G1 p v t := hv
  cases e : evL cf es ρ1 with
  | bad => rw [e] at k; exact k
  | ex x ρ2 =>
    rw [e] at k
    exact fun d H2 G2 c2 s2 sl2 h2 hx => k d H2 G2 c2 ((s.frame s2 h1).less fun z hz => List.mem_append_left _ hz) sl2 h2 hx
  | ok ps ρ2 =>
    rw [e] at k
    intro vs H2 G2 c2 t2 s2 sl2 h2 hvs
    exact k (v :: vs) H2 G2 c2 (t ++ t2) ((s.frame s2 h1).perm (List.Perm.refl _) perm_t) sl2 ((h1.frame s2 h2).perm perm_t) (.cons (hv'.mono s2.fz) hvs)
theorem sls_nil : SLs ad X W [] (evL cf []) := pa_nil.imp fun _ _ _ h => rd_ls_nil h
theorem sls_cons {e : Expr} {es : List Expr} {a : IE} {as : List IE} (ha : SE ad X W e (evE cf a)) (hs : SLs ad X W es (evL cf as)) (hst : starEach (e :: es) X.env = (false, eval e X.env) :: starEach es X.env) : SLs ad X W (e :: es) (evL cf (a :: as)) :=
  (pa_cons ha hs hst).imp fun _ _ _ h => rd_ls_cons h
theorem RepL.absorb {c t : List Cell} {p : List PV} {v : List V} (h : Hold G (c ++ t) H) (r : RepL ad K G p v t) : RepL ad K (addc G t) (PV.frzL p) v [] := r.frz (addc_sub h.right) (addc_at h.right)
theorem se_lst {es : List Expr} {as : List IE} (h : SLs ad X W es (evL cf as)) : SE ad X W (.List es pos) (evE cf (.lst as)) := (pe_lst h).imp fun σ H Q hq => by
  obtain ⟨ρ, G, c, sl, hh, ha⟩ := hq
  simp only [evE] at ha
  refine ⟨ρ, G, c, sl, hh, ha.seq fun ps ρ1 vs H1 G1 c1 t s sl1 h1 hv k => ?_⟩
  have hv' : RepL ad X.K G1 ps vs t := hv
  split at k
  · rename_i hz
    refine ⟨by rw [← hv'.length]; exact okS_le hz, fun p hp => ?_⟩
    have h1' := h1.absorb
    obtain ⟨q1, q2⟩ := h1'.newO hp (.lst vs)
    exact k (.ref p) _ _ c1 [(p, .lst vs)] ((s.absorb h1).trans q2 h1') (sl1.mono (addc_sub h1.right)) q1 (.lstO (cs := []) (RepL.absorb h1 hv'))
  · exact k.elim
theorem se_tup {es : List Expr} {as : List IE} {n : Nat} (h : SLs ad X W es (evL cf as)) : SE ad X W (.Tuple es n pos) (evE cf (.tup as)) := (pe_tup h).imp fun σ H Q hq => by
  obtain ⟨ρ, G, c, sl, hh, ha⟩ := hq
  simp only [evE] at ha
  refine ⟨ρ, G, c, sl, hh, ha.seq fun ps ρ1 vs H1 G1 c1 t s sl1 h1 hv k => ?_⟩
  have hv' : RepL ad X.K G1 ps vs t := hv
  split at k
  · rename_i hz
    refine ⟨by rw [← hv'.length]; exact okS_le hz, fun p hp => ?_⟩
    have h1' := h1.absorb
    obtain ⟨q1, q2⟩ := h1'.newF hp (.tup vs)
    exact k (.ref p) _ (upd (addc G1 t) p (.tup vs)) c1 [] (toL ((s.absorb h1).trans q2 h1')) ((sl1.mono (addc_sub h1.right)).mono q2.fz) (toH q1) (.tup upd_same ((RepL.absorb h1 hv').mono q2.fz))
  · exact k.elim
/-! and, or, if-expressions -/
theorem asB_seq {σ : St} {c : List Cell} {Q : VK} {r : Res PV} {f : Bool → Fr → Res PV} {P : VK} (h : Aft ad X.K W σ (RelP ad X.K) G c H Q ((asB r).bind f))
    (k : ∀ b ρ H1 G1 c1, Step G c H G1 c1 H1 → Slots ad X.K G1 ρ σ c1 → Hold G1 c1 H1 → Aft ad X.K W σ (RelP ad X.K) G1 c1 H1 Q (f b ρ) → P (.bl b) H1) : Aft ad X.K W σ (RelP ad X.K) G c H P r := by
  cases r with
  | bad => exact h
  | ex x ρ => exact h
  | ok p ρ =>
    intro v H1 G1 c1 t s sl1 h1 hv
    have hv' : Rep ad X.K G1 p v t := hv
    cases p with
    | bl b =>
      cases hv'
      have h' : Aft ad X.K W σ (RelP ad X.K) G c H Q (f b ρ) := h
      exact k b ρ H1 G1 c1 (nilL s) sl1 (nilH h1) (h'.go0 s h1)
    | _ => exact h.elim
theorem se_and {a b : Expr} {rest : List Expr} {x y : IE} (ha : SE ad X W a (evE cf x)) (hb : SE ad X W (.BoolOp .And (b :: rest) pos) (evE cf y)) : SE ad X W (.BoolOp .And (a :: b :: rest) pos) (evE cf (.and x y)) := (pe_and ha hb).imp fun σ H Q hq => by
  obtain ⟨ρ, G, c, sl, hh, h⟩ := hq
  simp only [evE] at h
  refine ⟨ρ, G, c, sl, hh, asB_seq h fun b ρ1 H1 G1 c1 s sl1 h1 k => ⟨b, rfl, ?_⟩⟩
  cases b with
  | true =>
    rw [if_pos rfl] at k ⊢
    exact ⟨ρ1, G1, c1, sl1, h1, k⟩
  | false =>
    rw [if_neg Bool.false_ne_true] at k ⊢
    exact aft_val k sl1 h1 (.bl false)
theorem se_or {a b : Expr} {rest : List Expr} {x y : IE} (ha : SE ad X W a (evE cf x)) (hb : SE ad X W (.BoolOp .Or (b :: rest) pos) (evE cf y)) : SE ad X W (.BoolOp .Or (a :: b :: rest) pos) (evE cf (.or x y)) := (pe_or ha hb).imp fun σ H Q hq => by
  obtain ⟨ρ, G, c, sl, hh, h⟩ := hq
  simp only [evE] at h
  refine ⟨ρ, G, c, sl, hh, asB_seq h fun b ρ1 H1 G1 c1 s sl1 h1 k => ⟨b, rfl, ?_⟩⟩
  cases b with
  | true =>
    rw [if_pos rfl] at k ⊢
    exact aft_val k sl1 h1 (.bl true)
  | false =>
    rw [if_neg Bool.false_ne_true] at k ⊢
    exact ⟨ρ1, G1, c1, sl1, h1, k⟩
/-- a test ahead of something -/
theorem test_seq {α β : Type} {R : RRel α β} {σ : St} {c : List Cell} {Q : β → Hp → Prop} {r : Res Bool} {f : Bool → Fr → Res α} {P : Bool → Hp → Prop} (h : Aft ad X.K W σ R G c H Q (r.bind f))
    (k : ∀ b ρ H1 G1 c1, Step G c H G1 c1 H1 → Slots ad X.K G1 ρ σ c1 → Hold G1 c1 H1 → Aft ad X.K W σ R G1 c1 H1 Q (f b ρ) → P b H1) : Aft ad X.K W σ RelB G c H P r := by
  refine h.seq fun b ρ1 b' H1 G1 c1 t s sl1 h1 ⟨et, hv⟩ k' => ?_
  subst et
  subst hv
  exact k b ρ1 H1 G1 c1 (nilL s) sl1 (nilH h1) (k'.go0 s h1)
theorem se_ite {t a b : Expr} {w x y : IE} (ht : ST ad X W t (evT cf w (evE cf w))) (ha : SE ad X W a (evE cf x)) (hb : SE ad X W b (evE cf y)) : SE ad X W (.IfExp t a b pos) (evE cf (.ite w x y)) := (pe_ifExp ht ha hb).imp fun σ H Q hq => by
  obtain ⟨ρ, G, c, sl, hh, h⟩ := hq
  simp only [evE] at h
  refine ⟨ρ, G, c, sl, hh, test_seq h fun b ρ1 H1 G1 c1 s sl1 h1 k => ?_⟩
  cases b with
  | true =>
    rw [if_pos rfl] at k ⊢
    exact ⟨ρ1, G1, c1, sl1, h1, k⟩
  | false =>
    rw [if_neg Bool.false_ne_true] at k ⊢
    exact ⟨ρ1, G1, c1, sl1, h1, k⟩
/-! tests -/
abbrev SW (ad : Ad) (X : Cx) (W : WX) (e : Expr) (m : Fr → Res Bool) : Prop := PW X e (rd ad X W RelB m)
theorem _root_.L2.PW.imp {X : Cx} {e : Expr} {t t' : TT} (h : PW X e t) (i : ∀ σ H Q, t' σ H Q → t σ H Q) : PW X e t' := ⟨fun wh pins s σ H Q I hw => h.run wh pins s σ H Q I (i σ H Q hw)⟩
theorem aft_b {σ : St} {c : List Cell} {Q : Bool → Hp → Prop} {b : Bool} {ρ : Fr} (h : Aft ad X.K W σ RelB G c H Q (.ok b ρ)) (sl : Slots ad X.K G ρ σ c) (hh : Hold G c H) : Q b H :=
  h b H G c [] (toL Step.refl) sl (toH hh) ⟨rfl, rfl⟩
theorem sw_and {a b : Expr} {rest : List Expr} {x y : IE} {run : Fr → Res PV} (ha : ST ad X W a (evT cf x (evE cf x))) (hb : SW ad X W (.BoolOp .And (b :: rest) pos) (evT cf y (evE cf y))) : SW ad X W (.BoolOp .And (a :: b :: rest) pos) (evT cf (.and x y) run) := (pw_and ha hb).imp fun σ H Q hq => by
  obtain ⟨ρ, G, c, sl, hh, h⟩ := hq
  simp only [evT] at h
  refine ⟨ρ, G, c, sl, hh, test_seq h fun b ρ1 H1 G1 c1 s sl1 h1 k => ?_⟩
  cases b with
  | true =>
    rw [if_pos rfl] at k ⊢
    exact ⟨ρ1, G1, c1, sl1, h1, k⟩
  | false =>
    rw [if_neg Bool.false_ne_true] at k ⊢
    exact aft_b k sl1 h1
theorem sw_or {a b : Expr} {rest : List Expr} {x y : IE} {run : Fr → Res PV} (ha : ST ad X W a (evT cf x (evE cf x))) (hb : SW ad X W (.BoolOp .Or (b :: rest) pos) (evT cf y (evE cf y))) : SW ad X W (.BoolOp .Or (a :: b :: rest) pos) (evT cf (.or x y) run) := (pw_or ha hb).imp fun σ H Q hq => by
  obtain ⟨ρ, G, c, sl, hh, h⟩ := hq
  simp only [evT] at h
  refine ⟨ρ, G, c, sl, hh, test_seq h fun b ρ1 H1 G1 c1 s sl1 h1 k => ?_⟩
  cases b with
  | true =>
    rw [if_pos rfl] at k ⊢
    exact aft_b k sl1 h1
  | false =>
    rw [if_neg Bool.false_ne_true] at k ⊢
    exact ⟨ρ1, G1, c1, sl1, h1, k⟩
theorem st_not {a : Expr} {x : IE} {run : Fr → Res PV} (ha : ST ad X W a (evT cf x (evE cf x))) : ST ad X W (.UnaryOp .Not a pos) (evT cf (.op .not [x]) run) := (pt_not ha).imp fun σ H Q hq => by
  obtain ⟨ρ, G, c, sl, hh, h⟩ := hq
  simp only [evT] at h
  exact ⟨ρ, G, c, sl, hh, test_seq h fun b ρ1 H1 G1 c1 s sl1 h1 k => aft_b k sl1 h1⟩
/-- what is a bool already -/
theorem rd_asB {σ : St} {H : Hp} {Q : Bool → Hp → Prop} {run : Fr → Res PV} (h : rd ad X W RelB (fun ρ => asB (run ρ)) σ H Q) : rd ad X W (RelP ad X.K) run σ H fun x H1 => ∃ k, x = .bl k ∧ Q k H1 := by
  obtain ⟨ρ, G, c, sl, hh, ha⟩ := h
  refine ⟨ρ, G, c, sl, hh, ?_⟩
  dsimp only at ha
  cases e : run ρ with
  | bad => rw [e] at ha; exact ha
  | ex x ρ1 => rw [e] at ha; exact ha
  | ok p ρ1 =>
    rw [e] at ha
    intro v H1 G1 c1 t s sl1 h1 hv
    have hv' : Rep ad X.K G1 p v t := hv
    cases p with
    | bl b =>
      cases hv'
      have ha' : Aft ad X.K W σ RelB G c H Q (.ok b ρ1) := ha
      exact ⟨b, rfl, ha' b H1 G1 c1 [] s sl1 h1 ⟨rfl, rfl⟩⟩
    | _ => exact ha.elim
theorem rd_truth {σ : St} {H : Hp} {Q : Bool → Hp → Prop} {ie : IE} {run : Fr → Res PV} (h : rd ad X W RelB (fun ρ => (opnd ie run ρ).bind fun o ρ1 => match rsv ρ1 o with
    | some p => (match truth p with
      | some k => .ok k ρ1
      | none => .bad)
    | none => .bad) σ H Q) : rd ad X W (RelO ad X.K) (opnd ie run) σ H fun x H1 => ∃ k, TruV X.K x H1 k ∧ Q k H1 := by
  obtain ⟨ρ, G, c, sl, hh, ha⟩ := h
  refine ⟨ρ, G, c, sl, hh, Aft.seq ha fun o ρ1 v H1 G1 c1 t s sl1 h1 ⟨et, hv⟩ k => ?_⟩
  subst et
  have k1 := k.go0 s h1
  have h1' := nilH h1
  cases e1 : rsv ρ1 o with
  | none => rw [e1] at k1; exact k1.elim
  | some p =>
    rw [e1] at k1
    dsimp only at k1
    cases e2 : truth p with
    | none => rw [e2] at k1; exact k1.elim
    | some b =>
      rw [e2] at k1
      exact ⟨b, tru_N (hv.vw sl1 e1) h1' e2, aft_b k1 sl1 h1'⟩
end
end Y
end
section
set_option Elab.async false
set_option linter.all false
set_option maxRecDepth 100000
set_option maxHeartbeats 2000000
set_option autoImplicit false
/-! Y5: chains, slices, calls, what is walked, comprehensions. -/
namespace Y
open PySem L2
variable {ad : Ad} {K : PySem.W.Frag} {G G' G1 G2 H H' H1 H2 : Hp}
section
variable {X : Cx} {W : WX} {cf : Cf} {pos : Pos}
theorem Aft.calm {α β : Type} {R : RRel α β} {σ : St} {c : List Cell} {Q : β → Hp → Prop} {a : α} {ρ : Fr} {v : β} (h : Aft ad K W σ R G c H Q (.ok a ρ)) (sl : Slots ad K G ρ σ c) (hh : Hold G c H) (r : R σ G a v []) : Q v H :=
  h v H G c [] (toL Step.refl) sl (toH hh) r
/-- a op b op d -/
theorem rd_chain {f g : CmpOp} {x y z : IE} {σ : St} {H : Hp} {Q : VK} (hq : rd ad X W (RelP ad X.K) (evE cf (.chain f g x y z)) σ H Q) : tChain (fun x y H Q => RN ad X.K (opN (.cmp f)) [x, y] H Q) (fun x y H Q => RN ad X.K (opN (.cmp g)) [x, y] H Q) (rd ad X W (RelO ad X.K) (opnd x (evE cf x))) (rd ad X W (RelO ad X.K) (opnd y (evE cf y))) (rd ad X W (RelO ad X.K) (opnd z (evE cf z))) σ H Q := by
  obtain ⟨ρ, G, c, sl, hh, h⟩ := hq
  simp only [evE] at h
  refine ⟨ρ, G, c, sl, hh, h.seq fun o1 ρ1 v1 H1 G1 c1 t1 s1 sl1 h1 ⟨et1, hv1⟩ k1 => ?_⟩
  subst et1
  have k1' := k1.go0 s1 h1
  have h1' := nilH h1
  refine ⟨ρ1, G1, c1, sl1, h1', k1'.seq fun o2 ρ2 v2 H2 G2 c2 t2 s2 sl2 h2 ⟨et2, hv2⟩ k2 => ?_⟩
  subst et2
  have k2' := k2.go0 s2 h2
  have h2' := nilH h2
  have hv1' := hv1.mono s2.fz
  cases e1 : rsv ρ2 o1 with
  | none => rw [e1] at k2'; exact k2'.elim
  | some p =>
    cases e2 : rsv ρ2 o2 with
    | none => rw [e1, e2] at k2'; exact k2'.elim
    | some q =>
      rw [e1, e2] at k2'
      dsimp only at k2'
      cases e3 : cmpN f p q with
      | none => rw [e3] at k2'; exact k2'.elim
      | some b1 =>
        rw [e3] at k2'
        refine ⟨[p, q], G2, c2, .bl b1, .cons (hv1'.vw sl2 e1) (.cons (hv2.vw sl2 e2) .nil), h2', by simp only [opN, e3]; rfl, fun v3 H3 G3 t3 s3 h3 r3 => ?_⟩
        cases r3
        have k3 := k2'.go0 s3 h3
        have h3' := nilH h3
        have sl3 := sl2.mono s3.fz
        refine ⟨b1, rfl, ?_⟩
        cases b1 with
        | false =>
          rw [if_neg Bool.false_ne_true]
          exact k3.calm sl3 h3' (.bl false)
        | true =>
          rw [if_pos rfl]
          refine ⟨ρ2, G3, c2, sl3, h3', k3.seq fun o4 ρ4 v4 H4 G4 c4 t4 s4 sl4 h4 ⟨et4, hv4⟩ k4 => ?_⟩
          subst et4
          have k4' := k4.go0 s4 h4
          have h4' := nilH h4
          cases e4 : rsv ρ4 o2 with
          | none => rw [e4] at k4'; exact k4'.elim
          | some q' =>
            cases e5 : rsv ρ4 o4 with
            | none => rw [e4, e5] at k4'; exact k4'.elim
            | some r' =>
              rw [e4, e5] at k4'
              dsimp only at k4'
              cases e6 : cmpN g q' r' with
              | none => rw [e6] at k4'; exact k4'.elim
              | some b2 =>
                rw [e6] at k4'
                exact ⟨[q', r'], G4, c4, .bl b2, .cons (((hv2.mono s3.fz).mono s4.fz).vw sl4 e4) (.cons (hv4.vw sl4 e5) .nil), h4', by simp only [opN, e6]; rfl, fun v5 H5 G5 t5 s5 h5 r5 => k4' v5 H5 G5 c4 t5 s5 (sl4.mono s5.fz) h5 r5⟩
theorem se_chain {f g : CmpOp} {a b d : Expr} {x y z : IE} (hu : X.A.units + 65 < cLine) (ha : SO ad X W a (opnd x (evE cf x))) (hb : SO ad X W b (opnd y (evE cf y))) (hd : SO ad X W d (opnd z (evE cf z)))
    (hm : lastMarks [f, g] [b, d] = false) : SE ad X W (.Compare a [f, g] [b, d] pos) (evE cf (.chain f g x y z)) := (pe_chain (op_cmpN (ad := ad) hu f) (op_cmpN (ad := ad) hu g) ha hb hd hm).imp fun σ H Q hq => rd_chain hq
/-! displays that are read and thrown away -/
def DVal (ad : Ad) (K : PySem.W.Frag) (σ : St) (G : Hp) (t : Option Bool) (os : List OV) (v : V) : Prop := match t with
  | none => ∃ o, os = [o] ∧ OVal ad K σ G o v
  | some true => ∃ a vs, v = .ref a ∧ G a = some (.tup vs) ∧ OVals ad K σ G os vs
  | some false => ∃ a vs, v = .ref a ∧ G a = some (.lst vs) ∧ OVals ad K σ G os vs
def RelD (ad : Ad) (K : PySem.W.Frag) (t : Option Bool) : RRel (List OV) V := fun σ G os v c => c = [] ∧ DVal ad K σ G t os v
theorem DVal.mono {σ : St} {t : Option Bool} {os : List OV} {v : V} (s : Sub G G') (h : DVal ad K σ G t os v) : DVal ad K σ G' t os v := by
  cases t with
  | none => obtain ⟨o, e, h⟩ := h; exact ⟨o, e, h.mono s⟩
  | some b =>
    cases b with
    | true => obtain ⟨a, vs, e, g, h⟩ := h; exact ⟨a, vs, e, s _ _ g, h.mono s⟩
    | false => obtain ⟨a, vs, e, g, h⟩ := h; exact ⟨a, vs, e, s _ _ g, h.mono s⟩
theorem VwL.repL {c : List Cell} : ∀ {ps : List PV} {vs : List V}, VwL ad K G c ps vs → ∃ d, RepL ad K G ps vs d ∧ ∀ z ∈ d, z ∈ c
  | _, _, .nil => ⟨[], .nil, fun _ z => nomatch z⟩
  | _, _, .cons ⟨d, r, k⟩ t => by
    obtain ⟨d2, r2, k2⟩ := VwL.repL t
    exact ⟨d ++ d2, .cons r r2, fun z hz => (List.mem_append.mp hz).elim (k z) (k2 z)⟩
theorem OVals.length {σ : St} : ∀ {os : List OV} {vs : List V}, OVals ad K σ G os vs → os.length = vs.length
  | _, _, .nil => rfl
  | _, _, .cons _ t => by simp [OVals.length t]
theorem DVal.vw {σ : St} {ρ : Fr} {c : List Cell} {t : Option Bool} {os : List OV} {v : V} {p : PV} (h : DVal ad K σ G t os v) (sl : Slots ad K G ρ σ c) (e : (rsvL ρ os).bind (dspP t) = some p) : Vw ad K G c p v := by
  obtain ⟨ps, e1, e2⟩ := Option.bind_eq_some_iff.mp e
  cases t with
  | none =>
    obtain ⟨o, rfl, h⟩ := h
    obtain ⟨v', ev, vw⟩ := (OVals.vw sl (OVals.cons h .nil) e1).length |> fun _ => (⟨v, rfl, OVals.vw sl (OVals.cons h .nil) e1⟩ : ∃ v', v' = v ∧ VwL ad K G c ps [v'])
    cases vw with
    | cons a t =>
      cases t
      cases e2
      subst ev
      exact a
  | some b =>
    cases b with
    | true =>
      obtain ⟨a, vs, rfl, g, h⟩ := h
      cases e2
      obtain ⟨d, r, k⟩ := (OVals.vw sl h e1).repL
      exact ⟨d, .tup g r, k⟩
    | false =>
      obtain ⟨a, vs, rfl, g, h⟩ := h
      cases e2
      obtain ⟨d, r, k⟩ := (OVals.vw sl h e1).repL
      exact ⟨d, .lstF g r, k⟩
abbrev SD (ad : Ad) (X : Cx) (W : WX) (cf : Cf) (e : Expr) (t : Option Bool) (ies : List IE) : Prop := PE X e (rd ad X W (RelD ad X.K t) fun ρ => (evO cf ies ρ).bind fitO)
theorem sd_one {e : Expr} {ie : IE} (h : SO ad X W e (opnd ie (evE cf ie))) : SD ad X W cf e none [ie] := h.imp fun σ H Q hq => by
  obtain ⟨ρ, G, c, sl, hh, ha⟩ := hq
  refine ⟨ρ, G, c, sl, hh, ?_⟩
  simp only [evO] at ha
  cases e : opnd ie (evE cf ie) ρ with
  | bad => rw [e] at ha; exact ha
  | ex x ρ1 => rw [e] at ha; exact ha
  | ok o ρ1 =>
    rw [e] at ha
    have ha' : Aft ad X.K W σ (RelD ad X.K none) G c H Q (.ok [o] ρ1) := ha
    intro v H1 G1 c1 t s sl1 h1 ⟨et, hv⟩
    subst et
    exact ha' v H1 G1 c1 [] s sl1 h1 ⟨rfl, o, rfl, hv⟩
theorem sd_tup {es : List Expr} {ies : List IE} {n : Nat} (h : SOs ad X W es (evO cf ies)) : SD ad X W cf (.Tuple es n pos) (some true) ies := (pe_tup h).imp fun σ H Q hq => by
  obtain ⟨ρ, G, c, sl, hh, ha⟩ := hq
  refine ⟨ρ, G, c, sl, hh, Aft.seq ha fun os ρ1 vs H1 G1 c1 t s sl1 h1 ⟨et, hv⟩ k => ?_⟩
  subst et
  unfold fitO at k
  split at k
  · rename_i hz
    refine ⟨by rw [← hv.length]; exact okS_le hz, fun p hp => ?_⟩
    have h1' := nilH h1
    obtain ⟨q1, q2⟩ := h1'.newF hp (.tup vs)
    exact k (.ref p) _ (upd G1 p (.tup vs)) c1 [] (toL ((nilL s).trans q2 h1')) (sl1.mono q2.fz) (toH q1) ⟨rfl, p, vs, rfl, upd_same, hv.mono q2.fz⟩
  · exact k.elim
theorem sd_lst {es : List Expr} {ies : List IE} (h : SOs ad X W es (evO cf ies)) : SD ad X W cf (.List es pos) (some false) ies := (pe_lst h).imp fun σ H Q hq => by
  obtain ⟨ρ, G, c, sl, hh, ha⟩ := hq
  refine ⟨ρ, G, c, sl, hh, Aft.seq ha fun os ρ1 vs H1 G1 c1 t s sl1 h1 ⟨et, hv⟩ k => ?_⟩
  subst et
  unfold fitO at k
  split at k
  · rename_i hz
    refine ⟨by rw [← hv.length]; exact okS_le hz, fun p hp => ?_⟩
    have h1' := nilH h1
    obtain ⟨q1, q2⟩ := h1'.newF hp (.lst vs)
    exact k (.ref p) _ (upd G1 p (.lst vs)) c1 [] (toL ((nilL s).trans q2 h1')) (sl1.mono q2.fz) (toH q1) ⟨rfl, p, vs, rfl, upd_same, hv.mono q2.fz⟩
  · exact k.elim
theorem rd_dcmp {f : CmpOp} {t u : Option Bool} {es ds : List IE} {σ : St} {H : Hp} {Q : VK} (hq : rd ad X W (RelP ad X.K) (evE cf (.dcmp f t es u ds)) σ H Q) : rd ad X W (RelD ad X.K t) (fun ρ => (evO cf es ρ).bind fitO) σ H fun x H1 => rd ad X W (RelD ad X.K u) (fun ρ => (evO cf ds ρ).bind fitO) σ H1 fun y H2 => RN ad X.K (opN (.cmp f)) [x, y] H2 Q := by
  obtain ⟨ρ, G, c, sl, hh, h⟩ := hq
  simp only [evE] at h
  refine ⟨ρ, G, c, sl, hh, h.seq fun os ρ1 v1 H1 G1 c1 t1 s1 sl1 h1 ⟨et1, hv1⟩ k1 => ?_⟩
  subst et1
  have k1' := k1.go0 s1 h1
  have h1' := nilH h1
  refine ⟨ρ1, G1, c1, sl1, h1', k1'.seq fun os2 ρ2 v2 H2 G2 c2 t2 s2 sl2 h2 ⟨et2, hv2⟩ k2 => ?_⟩
  subst et2
  have k2' := k2.go0 s2 h2
  have h2' := nilH h2
  split at k2'
  · rename_i p q e1 e2
    split at k2'
    · rename_i b e3
      exact ⟨[p, q], G2, c2, .bl b, .cons ((hv1.mono s2.fz).vw sl2 e1) (.cons (hv2.vw sl2 e2) .nil), h2', by simp only [opN, e3]; rfl, fun v3 H3 G3 t3 s3 h3 r3 => k2' v3 H3 G3 c2 t3 s3 (sl2.mono s3.fz) h3 r3⟩
    · exact k2'.elim
  · exact k2'.elim
/-! slices -/
theorem partN_int {p : PV} {i : Int} (h : partN p = some i) : p = .int i := by
  cases p with
  | int j => cases h; rfl
  | _ => cases h
theorem rn_sl0 {x : V} {Q : VK} (h : RN ad X.K (opN (.slice false false)) [x] H Q) : rSlL X.K x none none H Q ∨ rSlS x none none H Q := by
  obtain ⟨p, G, c, r, vp, hh, e, k⟩ := rn1 (c := []) h
  exact sl_N vp hh e k
theorem rn_sl1 {x y : V} {Q : VK} (h : RN ad X.K (opN (.slice true false)) [x, y] H Q) : ∃ i, y = .int i ∧ (rSlL X.K x (some i) none H Q ∨ rSlS x (some i) none H Q) := by
  obtain ⟨p, q, G, c, r, vp, vq, hh, e, k⟩ := rn_2 h
  obtain ⟨i, e1, e2⟩ := Option.bind_eq_some_iff.mp (show (partN q).bind _ = some r from e)
  obtain rfl := partN_int e1
  exact ⟨i, vq.int, sl_N vp hh e2 k⟩
theorem rn_sl2 {x y : V} {Q : VK} (h : RN ad X.K (opN (.slice false true)) [x, y] H Q) : ∃ i, y = .int i ∧ (rSlL X.K x none (some i) H Q ∨ rSlS x none (some i) H Q) := by
  obtain ⟨p, q, G, c, r, vp, vq, hh, e, k⟩ := rn_2 h
  obtain ⟨i, e1, e2⟩ := Option.bind_eq_some_iff.mp (show (partN q).bind _ = some r from e)
  obtain rfl := partN_int e1
  exact ⟨i, vq.int, sl_N vp hh e2 k⟩
theorem se_slice0 {e : Expr} {x : IE} {p2 : Pos} (he : SO ad X W e (opnd x (evE cf x))) : SE ad X W (.Subscript e (.Slice none none none p2) pos) (evE cf (.op (.slice false false) [x])) :=
  (pe_slice (SlR.or sl_list sl_str) he po_none po_none).imp fun σ H Q hq => by
    obtain ⟨ρ, G, c, sl, hh, ha⟩ := rd_op1 hq
    refine ⟨ρ, G, c, sl, hh, ?_⟩
    cases e : opnd x (evE cf x) ρ with
    | bad => rw [e] at ha; exact ha
    | ex x ρ1 => rw [e] at ha; exact ha
    | ok o ρ1 =>
      rw [e] at ha
      exact fun v H1 G1 c1 t s sl1 h1 hr => rn_sl0 (ha v H1 G1 c1 t s sl1 h1 hr)
theorem rd_imp {α β : Type} {R : RRel α β} {m : Fr → Res α} {σ : St} {H : Hp} {Q Q' : β → Hp → Prop} (h : rd ad X W R m σ H Q) (k : ∀ v H, Q v H → Q' v H) : rd ad X W R m σ H Q' := by
  obtain ⟨ρ, G, c, sl, hh, ha⟩ := h
  refine ⟨ρ, G, c, sl, hh, ?_⟩
  cases e : m ρ with
  | bad => rw [e] at ha; exact ha
  | ex x ρ1 => rw [e] at ha; exact ha
  | ok o ρ1 =>
    rw [e] at ha
    exact fun v H1 G1 c1 t s sl1 h1 hr => k v H1 (ha v H1 G1 c1 t s sl1 h1 hr)
theorem se_slice1 {e a : Expr} {x y : IE} {p2 : Pos} (he : SO ad X W e (opnd x (evE cf x))) (ha : SO ad X W a (opnd y (evE cf y))) : SE ad X W (.Subscript e (.Slice (some a) none none p2) pos) (evE cf (.op (.slice true false) [x, y])) :=
  (pe_slice (SlR.or sl_list sl_str) he (po_some ha) po_none).imp fun σ H Q hq => rd_imp (rd_op2 hq) fun v H1 q => rd_imp q fun w H2 q => rn_sl1 q
theorem se_slice2 {e a : Expr} {x y : IE} {p2 : Pos} (he : SO ad X W e (opnd x (evE cf x))) (ha : SO ad X W a (opnd y (evE cf y))) : SE ad X W (.Subscript e (.Slice none (some a) none p2) pos) (evE cf (.op (.slice false true) [x, y])) :=
  (pe_slice (SlR.or sl_list sl_str) he po_none (po_some ha)).imp fun σ H Q hq => rd_imp (rd_op2 hq) fun v H1 q => rd_imp q fun w H2 q => rn_sl2 q
theorem se_slice3 {e a b : Expr} {x y z : IE} {p2 : Pos} (he : SO ad X W e (opnd x (evE cf x))) (ha : SO ad X W a (opnd y (evE cf y))) (hb : SO ad X W b (opnd z (evE cf z))) : SE ad X W (.Subscript e (.Slice (some a) (some b) none p2) pos) (evE cf (.slc x y z)) :=
  (pe_slice (SlR.or sl_list sl_str) he (po_some ha) (po_some hb)).imp fun σ H Q hq => by
    obtain ⟨ρ, G, c, sl, hh, h⟩ := hq
    simp only [evE] at h
    refine ⟨ρ, G, c, sl, hh, h.seq fun o1 ρ1 v1 H1 G1 c1 t1 s1 sl1 h1 ⟨et1, hv1⟩ k1 => ?_⟩
    subst et1
    have k1' := k1.go0 s1 h1
    have h1' := nilH h1
    refine ⟨ρ1, G1, c1, sl1, h1', k1'.seq fun o2 ρ2 v2 H2 G2 c2 t2 s2 sl2 h2 ⟨et2, hv2⟩ k2 => ?_⟩
    subst et2
    have k2' := k2.go0 s2 h2
    have h2' := nilH h2
    cases e1 : (rsv ρ2 o2).bind partN with
    | none => rw [e1] at k2'; exact k2'.elim
    | some i =>
      rw [e1] at k2'
      obtain ⟨p, e2, e3⟩ := Option.bind_eq_some_iff.mp e1
      obtain rfl := partN_int e3
      obtain rfl := (hv2.vw sl2 e2).int
      refine ⟨i, rfl, ρ2, G2, c2, sl2, h2', k2'.seq fun o3 ρ3 v3 H3 G3 c3 t3 s3 sl3 h3 ⟨et3, hv3⟩ k3 => ?_⟩
      subst et3
      have k3' := k3.go0 s3 h3
      have h3' := nilH h3
      cases e4 : rsv ρ3 o1 with
      | none => rw [e4] at k3'; exact k3'.elim
      | some q =>
        cases e5 : (rsv ρ3 o3).bind partN with
        | none => rw [e4, e5] at k3'; exact k3'.elim
        | some j =>
          rw [e4, e5] at k3'
          dsimp only at k3'
          obtain ⟨p', e6, e7⟩ := Option.bind_eq_some_iff.mp e5
          obtain rfl := partN_int e7
          obtain rfl := (hv3.vw sl3 e6).int
          cases e8 : sliceN q (some i) (some j) with
          | none => rw [e8] at k3'; exact k3'.elim
          | some r =>
            rw [e8] at k3'
            exact ⟨j, rfl, sl_N (((hv1.mono s2.fz).mono s3.fz).vw sl3 e4) h3' e8 fun v5 H5 G5 t5 s5 h5 r5 => k3' v5 H5 G5 c3 t5 s5 (sl3.mono s5.fz) h5 r5⟩
theorem se_back {e : Expr} {x : IE} {k : Nat} {p1 p2 p3 : Pos} (he : SO ad X W e (opnd x (evE cf x))) : SE ad X W (.Subscript e (.Slice none none (some (.UnaryOp .USub (.Constant (.int 1) k p1) p2)) p3) pos) (evE cf (.op .back [x])) :=
  (pe_revL he).imp fun σ H Q hq => rd_imp (rd_op1 hq) fun v H1 q => by
    obtain ⟨p, G, c, r, vp, hh, e, k⟩ := rn1 (c := []) q
    obtain ⟨xs, e1, e2⟩ := Option.bind_eq_some_iff.mp (show (lstOf p).bind _ = some r from e)
    obtain ⟨o, rfl⟩ := lstOf_some e1
    split at e2
    · rename_i hf
      cases e2
      obtain ⟨a, vs, d, rfl, h1, r1, _⟩ := vp.lst hh
      exact ⟨a, vs, rfl, .of h1, fun l hl => doneL hh (r1.fz0 hf).rev0 k hl⟩
    · cases e2

/-! ### calls of the text's own defs -/
/-- an argument: its value; where it is lent, the slot holds that very value -/
def RelA1 (ad : Ad) (K : PySem.W.Frag) : RRel (PV × Option Nat) V := fun σ G a v t => Rep ad K G a.1 v t ∧ ∀ i, a.2 = some i → σ[i]? = some (some v)
inductive LentTo (σ : St) : List (Option Nat) → List V → Prop
  | nil : LentTo σ [] []
  | cons {o : Option Nat} {os : List (Option Nat)} {v : V} {vs : List V} : (∀ i, o = some i → σ[i]? = some (some v)) → LentTo σ os vs → LentTo σ (o :: os) (v :: vs)
def RelA (ad : Ad) (K : PySem.W.Frag) : RRel (List (PV × Option Nat)) (List V) := fun σ G a v t => RepL ad K G (a.map (·.1)) v t ∧ LentTo σ (a.map (·.2)) v
theorem sa_loc {x : Str} {i : Nat} {run : Fr → Res PV} (h : PE X (.Name x pos) (tVar i)) : PE X (.Name x pos) (rd ad X W (RelA1 ad X.K) (argd true (.loc i) run)) := h.imp fun σ H Q hq => by
  obtain ⟨ρ, G, c, sl, hh, ha⟩ := hq
  simp only [argd] at ha
  cases e : ρ.at i with
  | none => rw [e] at ha; exact ha.elim
  | some p =>
    rw [e] at ha
    obtain ⟨v, d, r, e1, e2, e3, e4⟩ := sl.out e
    refine ⟨v, e1, ?_⟩
    dsimp only at ha
    split at ha
    · rename_i hf
      have e5 := e2.nocell hf
      subst e5
      exact ha v H G c [] (toL Step.refl) sl (toH hh) ⟨e2, fun i z => by cases z⟩
    · exact ha v H G r d ((Step.refl (c := c)).perm (List.Perm.refl _) (e4.trans List.perm_append_comm)) e3 (hh.perm (e4.trans List.perm_append_comm)) ⟨e2, fun j z => by cases z; exact e1⟩
theorem argd_val {b : Bool} {ie : IE} {run : Fr → Res PV} (h : (b && isLoc ie) = false) (ρ : Fr) : argd b ie run ρ = (run ρ).bind fun p ρ' => .ok (p.frz, none) ρ' := by
  cases b with
  | false => cases ie <;> rfl
  | true =>
    cases ie <;> first
      | rfl
      | cases h
theorem sa_val {b : Bool} {e : Expr} {ie : IE} {run : Fr → Res PV} (hl : (b && isLoc ie) = false) (h : SE ad X W e run) : PE X e (rd ad X W (RelA1 ad X.K) (argd b ie run)) := h.imp fun σ H Q hq => by
  obtain ⟨ρ, G, c, sl, hh, ha⟩ := hq
  rw [argd_val hl] at ha
  refine ⟨ρ, G, c, sl, hh, ha.seq fun p ρ1 v H1 G1 c1 t s sl1 h1 r k => ?_⟩
  exact k v H1 (addc G1 t) c1 [] (toL (s.absorb h1)) (sl1.mono (addc_sub h1.right)) (toH h1.absorb) ⟨Rep.absorb h1 r, fun i z => by cases z⟩
theorem so_opA {b : Bool} {e : Expr} {ie : IE} {run : Fr → Res PV} (h1 : b = true → SO ad X W e (opnd ie run)) (h2 : b = false → SE ad X W e run) : SO ad X W e (opA b ie run) := by
  cases b with
  | true => exact h1 rfl
  | false =>
    refine (h2 rfl).imp fun σ H Q hq => ?_
    obtain ⟨ρ, G, c, sl, hh, ha⟩ := hq
    refine ⟨ρ, G, c, sl, hh, Aft.seq (f := fun p ρ' => Res.ok (OV.vl p.frz) ρ') (show Aft ad X.K W σ (RelO ad X.K) G c H Q ((run ρ).bind _) from ha) fun p ρ1 v H1 G1 c1 t s sl1 h1 r k => ?_⟩
    exact k v H1 (addc G1 t) c1 [] (toL (s.absorb h1)) (sl1.mono (addc_sub h1.right)) (toH h1.absorb) ⟨rfl, Rep.absorb h1 r⟩
theorem rd_as_nil {ls : List Bool} {σ : St} {H : Hp} {Q : List V → Hp → Prop} (h : rd ad X W (RelOs ad X.K) (evA cf ls []) σ H Q) : Q [] H := by
  obtain ⟨ρ, G, c, sl, hh, ha⟩ := h
  simp only [evA] at ha
  exact ha [] H G c [] (toL Step.refl) sl (toH hh) ⟨rfl, .nil⟩
theorem rd_as_cons {ls : List Bool} {a : IE} {es : List IE} {σ : St} {H : Hp} {Q : List V → Hp → Prop} (h : rd ad X W (RelOs ad X.K) (evA cf ls (a :: es)) σ H Q) :
    rd ad X W (RelO ad X.K) (opA (ls.headD false) a (evE cf a)) σ H fun x H1 => rd ad X W (RelOs ad X.K) (evA cf ls.tail es) σ H1 fun xs H2 => Q (x :: xs) H2 := by
  obtain ⟨ρ, G, c, sl, hh, ha⟩ := h
  simp only [evA] at ha
  refine ⟨ρ, G, c, sl, hh, ha.seq fun o ρ1 v H1 G1 c1 t s sl1 h1 ⟨et, hv⟩ k => ?_⟩
  subst et
  have k1 := k.go0 s h1
  refine ⟨ρ1, G1, c1, sl1, nilH h1, k1.seq fun os ρ2 vs H2 G2 c2 t2 s2 sl2 h2 ⟨et2, hv2⟩ k2 => ?_⟩
  subst et2
  exact k2 (v :: vs) H2 G2 c2 [] s2 sl2 h2 ⟨rfl, .cons (hv.mono s2.fz) hv2⟩
abbrev SAs (ad : Ad) (X : Cx) (W : WX) (e : List Expr) (m : Fr → Res (List OV)) : Prop := PA X e (rd ad X W (RelOs ad X.K) m)
theorem sas_nil {ls : List Bool} : SAs ad X W [] (evA cf ls []) := pa_nil.imp fun _ _ _ h => rd_as_nil h
theorem sas_cons {ls : List Bool} {e : Expr} {es : List Expr} {a : IE} {as : List IE} (ha : SO ad X W e (opA (ls.headD false) a (evE cf a))) (hs : SAs ad X W es (evA cf ls.tail as)) (hst : starEach (e :: es) X.env = (false, eval e X.env) :: starEach es X.env) : SAs ad X W (e :: es) (evA cf ls (a :: as)) :=
  (pa_cons ha hs hst).imp fun _ _ _ h => rd_as_cons h
/-- what is lent is taken out of its slots -/
theorem take_ok {σ : St} : ∀ {os : List OV} {vs : List V} {ρ ρ' : Fr} {c : List Cell} {as : List (PV × Option Nat)}, OVals ad K σ G os vs → Slots ad K G ρ σ c → takeA os ρ = some (as, ρ') →
    ∃ c' t, Slots ad K G ρ' σ c' ∧ RepL ad K G (as.map (·.1)) vs t ∧ LentTo σ (as.map (·.2)) vs ∧ c.Perm (c' ++ t)
  | _, _, _, _, c, _, .nil, sl, e => by
    cases e
    exact ⟨c, [], sl, .nil, .nil, by rw [List.append_nil]⟩
  | _, _, ρ, _, c, _, .cons (o := .vl p) (os := os) r t, sl, e => by
    simp only [takeA] at e
    obtain ⟨z, e1, e2⟩ := Option.map_eq_some_iff.mp e
    cases e2
    obtain ⟨c', d, s', r', l', p'⟩ := take_ok t sl e1
    exact ⟨c', d, s', .cons (c := []) r r', .cons (fun i z => nomatch z) l', p'⟩
  | _, _, ρ, _, c, _, .cons (o := .vw i) (os := os) (v := v) r t, sl, e => by
    simp only [takeA] at e
    cases ea : ρ.at i with
    | none => rw [ea] at e; cases e
    | some p =>
      rw [ea] at e
      dsimp only at e
      obtain ⟨w, d, c2, e1, e2, e3, e4⟩ := sl.out ea
      have ew : w = v := by
        have r' : σ[i]? = some (some v) := r
        rw [e1] at r'
        exact Option.some.inj (Option.some.inj r')
      subst ew
      split at e
      · rename_i hf
        obtain ⟨z, f1, f2⟩ := Option.map_eq_some_iff.mp e
        cases f2
        obtain ⟨c', d', s', r', l', p'⟩ := take_ok t sl f1
        have hd := e2.nocell hf
        subst hd
        exact ⟨c', d', s', .cons (c := []) e2 r', .cons (fun i z => nomatch z) l', p'⟩
      · obtain ⟨z, f1, f2⟩ := Option.map_eq_some_iff.mp e
        cases f2
        obtain ⟨c', d', s', r', l', p'⟩ := take_ok t e3 f1
        refine ⟨c', d ++ d', s', .cons e2 r', .cons (fun j z => by cases z; exact e1) l', ?_⟩
        refine e4.trans ((p'.append_left d).trans ?_)
        rw [← List.append_assoc, ← List.append_assoc]
        exact List.perm_append_comm.append_right d'
  | _, _, ρ, _, c, _, .cons (o := .vi i k) (os := os) r t, sl, e => by simp only [takeA] at e; cases e
/-- behind a call -/
def AftC (ad : Ad) (K : PySem.W.Frag) (vs : List V) (G : Hp) (c : List Cell) (H : Hp) (Q : VK) (E : XK) : CR → Prop
  | .ok r as => ∀ v H' G' c' t, Step G c H G' (c' ++ t) H' → Slots0 ad K G' as (vs.map some) c' → Hold G' (c' ++ t) H' → Rep ad K G' r v t → Q v H'
  | .ex x as => ∀ d H' G' c', Step G c H G' c' H' → Slots0 ad K G' as (vs.map some) c' → Hold G' c' H' → XRep ad K G' x d → E (.ref (ad x.cls)) (some d) H'
  | .bad => False
/-- the promise of a def: what the evaluator says of it -/
def SpOf (ad : Ad) (K : PySem.W.Frag) (call : List PV → CR) : Sp := fun vs H Q E => ∃ ps G c, RepL ad K G ps vs c ∧ Hold G c H ∧ AftC ad K vs G c H Q E (call ps)
theorem give_slots {σ : St} : ∀ {os : List (Option Nat)} {vs : List V}, LentTo σ os vs → ∀ {as ρ : Fr} {c1 c2 : List Cell}, Slots ad K G ρ σ c1 → Slots0 ad K G as (vs.map some) c2 → ∃ g c3, Slots ad K G (give os as ρ) σ c3 ∧ (c1 ++ c2).Perm (g ++ c3)
  | _, _, .nil, as, ρ, c1, c2, s1, s2 => by
    cases as with
    | nil => exact ⟨c2, c1, s1, List.perm_append_comm⟩
    | cons a as => exact ⟨c2, c1, s1, List.perm_append_comm⟩
  | _, _, .cons (o := o) (os := os) (v := v) (vs := vs) ho t, as, ρ, c1, c2, s1, s2 => by
    cases s2 with
    | @none _ as' _ _ s2 =>
      cases o with
      | none =>
        obtain ⟨g, c3, h1, h2⟩ := give_slots t s1 s2
        exact ⟨g, c3, h1, h2⟩
      | some i =>
        obtain ⟨d, r, h0, h3⟩ := s1.drop i
        obtain ⟨g, c3, h1, h2⟩ := give_slots t h0 s2
        refine ⟨d ++ g, c3, h1, ?_⟩
        refine (h3.append_right c2).trans ?_
        rw [List.append_assoc, List.append_assoc]
        exact h2.append_left d
    | @some p _ as' _ c cs r s2 =>
      cases o with
      | none =>
        obtain ⟨g, c3, h1, h2⟩ := give_slots t s1 s2
        refine ⟨c ++ g, c3, h1, ?_⟩
        rw [List.append_assoc]
        refine List.Perm.trans ?_ (h2.append_left c)
        rw [← List.append_assoc, ← List.append_assoc]
        exact List.perm_append_comm.append_right cs
      | some i =>
        have e := ho i rfl
        have hi : i < ρ.length := by
          rw [s1.length]
          exact (List.getElem?_eq_some_iff.mp e).1
        obtain ⟨d, r1, h0, h3⟩ := s1.retell hi e r
        obtain ⟨g, c3, h1, h2⟩ := give_slots t h0 s2
        refine ⟨d ++ g, c3, h1, ?_⟩
        have h4 : ((c ++ c1) ++ cs).Perm ((d ++ r1) ++ cs) := h3.append_right cs
        refine List.Perm.trans ?_ (h4.trans ?_)
        · rw [← List.append_assoc]
          exact List.perm_append_comm.append_right cs
        · rw [List.append_assoc, List.append_assoc]
          exact h2.append_left d
/-- the arguments are there: what the callee's promise asks -/
theorem fin_call {k : Str} {σ : St} {ρ : Fr} {c t : List Cell} {as : List (PV × Option Nat)} {vs : List V} {Q : VK} (h : Aft ad X.K W σ (RelP ad X.K) G c H Q (callR cf k as ρ)) {c1 : List Cell} (s0 : Step G c H G1 (c1 ++ t) H1) (sl : Slots ad X.K G1 ρ σ c1) (hh : Hold G1 (c1 ++ t) H1)
    (hr : RepL ad X.K G1 (as.map (·.1)) vs t) (hl : LentTo σ (as.map (·.2)) vs) : SpOf ad.base X.K (cf.call k) vs H1 Q fun cls d H' => W cls d σ H' := by
  refine ⟨as.map (·.1), G1, t, hr.toB, hh.right, ?_⟩
  unfold callR at h
  have hh' : Hold G1 (t ++ c1) H1 := hh.perm List.perm_append_comm
  have s0' : Step G c H G1 (t ++ c1) H1 := s0.perm (List.Perm.refl _) List.perm_append_comm
  cases e : cf.call k (as.map (·.1)) with
  | bad => rw [e] at h; exact h
  | ok r as' =>
    rw [e] at h
    intro v H2 G2 c2 t2 s2 sl2 h2 hr2
    obtain ⟨g, c3, q1, q2⟩ := give_slots hl (sl.mono s2.fz) sl2.ofB
    have f1 := hh'.frame s2 h2
    have f2 := s0'.frame s2 hh'
    have pm : ((c2 ++ t2) ++ c1).Perm (g ++ (c3 ++ t2)) := by
      refine List.Perm.trans (List.Perm.trans ?_ (q2.append_right t2)) (by rw [List.append_assoc])
      rw [List.append_assoc, List.append_assoc]
      refine List.Perm.trans (List.perm_append_comm.append_left c2) ?_
      rw [← List.append_assoc, ← List.append_assoc]
      exact List.perm_append_comm.append_right t2
    exact h v H2 G2 c3 t2 ((f2.perm (List.Perm.refl _) pm).less fun z hz => List.mem_append_right _ hz) q1 (f1.perm pm).right hr2.ofB
  | ex x as' =>
    rw [e] at h
    intro d H2 G2 c2 s2 sl2 h2 hx
    obtain ⟨g, c3, q1, q2⟩ := give_slots hl (sl.mono s2.fz) sl2.ofB
    have f1 := hh'.frame s2 h2
    have f2 := s0'.frame s2 hh'
    have pm : (c2 ++ c1).Perm (g ++ c3) := List.perm_append_comm.trans q2
    exact h d H2 G2 c3 ((f2.perm (List.Perm.refl _) pm).less fun z hz => List.mem_append_right _ hz) q1 (f1.perm pm).right hx.ofB
/-- the callee runs; what it raises is in our air -/
theorem run_fnX {k : Nat} {f : Addr} {fd : FuncData} {ps : List Str} {sp : Sp} {pins : List (Addr × Obj)} {σ : St} {H : Hp} {s : Shared} {Q : VK} {us : List Value} {vs : List V} (F : FnOk X.prog X.w X.K X.mg X.base (L2.CX X.prog X.w) k f fd ps sp) (hr : Room k X.A) (hb : Binds X.K fd ps []) (tk : Takes X W)
    (I : Inv X pins σ H s) (r : Vals vs us) (h : sp vs H Q fun cls d H' => W cls d σ H') : wpAny (model X.prog X.w) X.A (call (.ref f) us) (EP X pins σ Q) X.xe s := by
  have hl : (us ++ []).length = ps.length := by rw [List.append_nil, ← r.length]; exact F.len _ _ _ _ h
  have hb' := hb s us I.kIn hl
  rw [List.append_nil] at hb'
  refine wpAny_call (codeAny_mono (F.run X.A X.stack s H ⟨us, []⟩ us vs Q _ hr I.env0 hb' r h) fun r s' hq => ?_)
  cases r with
  | error e => exact tk e s' (XE.of_call I (fun _ _ _ z => z) hq)
  | ok fl =>
    cases fl with
    | ret u => exact I.after hq
    | next => exact False.elim hq
    | brk => exact False.elim hq
    | cont => exact False.elim hq
theorem rd_call {key : Str} {ls : List Bool} {as : List IE} {σ : St} {H : Hp} {Q : VK} (hq : rd ad X W (RelP ad X.K) (evE cf (.call key ls as)) σ H Q) : rd ad X W (RelOs ad X.K) (evA cf ls as) σ H fun vs H1 => SpOf ad.base X.K (cf.call key) vs H1 Q fun cls d H' => W cls d σ H' := by
  obtain ⟨ρ, G, c, sl, hh, h⟩ := hq
  simp only [evE] at h
  refine ⟨ρ, G, c, sl, hh, h.seq fun os ρ1 vs H1 G1 c1 t s1 sl1 h1 ⟨et, hv⟩ k1 => ?_⟩
  subst et
  cases e : takeA os ρ1 with
  | none => rw [e] at k1; exact k1.elim
  | some z =>
    rw [e] at k1
    obtain ⟨c', d, s', r', l', p'⟩ := take_ok hv sl1 e
    exact fin_call k1 ((nilL s1).perm (List.Perm.refl _) p') s' ((nilH h1).perm p') r' l'
theorem se_call {k : Nat} {f : Addr} {fd : FuncData} {ps : List Str} {x key : Str} {p : Pos} {e : Expr} {es : List Expr} {ls : List Bool} {as : List IE} (F : FnOk X.prog X.w X.K X.mg X.base (L2.CX X.prog X.w) k f fd ps (SpOf ad.base X.K (cf.call key))) (hr : Room k X.A) (hg : Gl X x) (hm : X.mg x = some (.ref f))
    (hk : PySem.W.keepIn X.K (.ref f) = true) (hb : Binds X.K fd ps []) (tk : Takes X W) (ha : SAs ad X W (e :: es) (evA cf ls as)) (hdb : (x == ("__debug__" : Str)) = false) (he : starEach (e :: es) X.env = (false, eval e X.env) :: starEach es X.env)
    (hpl : (backTo pos (starEach es X.env)).any (·.1) = false) : SE ad X W (.Call (.Name x p) (e :: es) [] pos) (evE cf (.call key ls as)) := by
  refine ⟨fun pins s σ H Q I hq => ?_⟩
  refine wpAny_Call_Name_kw (ld_glob I hg hm ?_ hdb)
  refine PySem.W.callWith_K (h₀ := X.base) I.ok.mod.kin hk (thn (ha.run pos pins s σ H _ I (rd_call hq)) fun us s1 ⟨vs, H1, I1, r, q⟩ => ⟨I1.kIn, ?_⟩) he hpl
  exact run_fnX F hr hb tk I1 r q
theorem se_call0 {k : Nat} {f : Addr} {fd : FuncData} {ps : List Str} {x key : Str} {p : Pos} {ls : List Bool} (F : FnOk X.prog X.w X.K X.mg X.base (L2.CX X.prog X.w) k f fd ps (SpOf ad.base X.K (cf.call key))) (hr : Room k X.A) (hg : Gl X x) (hm : X.mg x = some (.ref f))
    (hk : PySem.W.keepIn X.K (.ref f) = true) (hb : Binds X.K fd ps []) (tk : Takes X W) (hdb : (x == ("__debug__" : Str)) = false) : SE ad X W (.Call (.Name x p) [] [] pos) (evE cf (.call key ls [])) := by
  refine ⟨fun pins s σ H Q I hq => ?_⟩
  refine wpAny_Call_Name_kw (ld_glob I hg hm ?_ hdb)
  exact PySem.W.callWith_K0 I.kIn hk (run_fnX (us := []) F hr hb tk I .nil (rd_as_nil (rd_call hq)))
end
end Y
end
section
set_option Elab.async false
set_option linter.all false
set_option maxRecDepth 100000
set_option maxHeartbeats 2000000
set_option autoImplicit false
/-! Y6: targets, what is walked, comprehensions. -/
namespace Y
open PySem L2
variable {ad : Ad} {K : PySem.W.Frag} {G G' G1 G2 H H' H1 H2 : Hp}
/-! ### slots, further -/
theorem Slots0.congr : ∀ {ρ : Fr} {σ σ' : St} {c : List Cell}, Slots0 ad K G ρ σ c → σ'.length = σ.length → (∀ i p, Fr.at ρ i = Option.some p → σ'[i]? = σ[i]?) → Slots0 ad K G ρ σ' c
  | _, _, σ', _, .nil, hl, _ => by
    have e : σ' = [] := List.eq_nil_of_length_eq_zero hl
    subst e
    exact .nil
  | _, _, σ', _, .none (v := v) t, hl, h => by
    cases σ' with
    | nil => simp at hl
    | cons w τ => exact .none (Slots0.congr t (by simpa using hl) fun i p e => by simpa using h (i + 1) p e)
  | _, _, σ', _, .some (p := p) (v := v) r t, hl, h => by
    cases σ' with
    | nil => simp at hl
    | cons w τ =>
      have e := h 0 p rfl
      simp at e
      subst e
      exact .some r (Slots0.congr t (by simpa using hl) fun i p e => by simpa using h (i + 1) p e)
theorem Slots.congr {ρ : Fr} {σ σ' : St} {c : List Cell} (s : Slots ad K G ρ σ c) (hl : σ'.length = σ.length) (h : ∀ i p, Fr.at ρ i = Option.some p → σ'[i]? = σ[i]?) (hx : XcOk ad K σ' G) : Slots ad K G ρ σ' c := ⟨s.b.congr hl h, hx⟩
theorem at_set_ne {ρ : Fr} {i j : Nat} {x : Option PV} (h : j ≠ i) : Fr.at (ρ.set i x) j = Fr.at ρ j := by
  unfold Fr.at
  rw [List.getD_eq_getElem?_getD, List.getD_eq_getElem?_getD, List.getElem?_set_ne (Ne.symm h)]
theorem wipeF_length (ρ : Fr) : ∀ own, (wipeF ρ own).length = ρ.length
  | [] => rfl
  | i :: r => by unfold wipeF; rw [List.length_set, wipeF_length ρ r]
theorem wipeF_at {ρ : Fr} {i : Nat} {p : PV} : ∀ {own : List Nat}, Fr.at (wipeF ρ own) i = some p → i ∉ own ∧ Fr.at ρ i = some p
  | [], h => ⟨by simp, h⟩
  | j :: r, h => by
    unfold wipeF at h
    by_cases e : i = j
    · subst e; rw [at_set_none] at h; cases h
    · rw [at_set_ne e] at h
      obtain ⟨h1, h2⟩ := wipeF_at h
      exact ⟨by simp [e, h1], h2⟩
theorem wipe_in {σ : St} {i : Nat} : ∀ {own : List Nat}, i ∈ own → i < σ.length → (wipe σ own)[i]? = some none
  | j :: r, h, hl => by
    unfold wipe
    by_cases e : j = i
    · subst e
      rw [List.getElem?_set_self (by rw [wipe_length]; exact hl)]
    · rw [List.getElem?_set_ne e]
      exact wipe_in ((List.mem_cons.mp h).resolve_left (Ne.symm e)) hl
theorem Slots.wipe {ρ : Fr} {σ : St} {c : List Cell} (hn : ad.cur = Option.none) (s : Slots ad K G ρ σ c) : ∀ own : List Nat, ∃ g c', Slots ad K G (wipeF ρ own) (L2.wipe σ own) c' ∧ c.Perm (g ++ c')
  | [] => ⟨[], c, s, List.Perm.refl _⟩
  | i :: r => by
    obtain ⟨g, c1, s1, p1⟩ := Slots.wipe hn s r
    obtain ⟨d, c2, s2, p2⟩ := s1.drop i
    refine ⟨g ++ d, c2, ?_, ?_⟩
    · refine Slots.congr s2 (show ((L2.wipe σ r).set i Option.none).length = _ from by rw [List.length_set]) (fun j p e => ?_) (.of_none hn)
      have e' : Fr.at ((wipeF ρ r).set i Option.none) j = Option.some p := e
      have hj : j ≠ i := fun z => by subst z; rw [at_set_none] at e'; cases e'
      show ((L2.wipe σ r).set i Option.none)[j]? = _
      rw [List.getElem?_set_ne (Ne.symm hj)]
    · refine p1.trans ?_
      rw [List.append_assoc]
      exact p2.append_left g
theorem Slots.unwipe {ρ : Fr} {σ : St} {c : List Cell} {own : List Nat} (hn : ad.cur = Option.none) (s : Slots ad K G (wipeF ρ own) (L2.wipe σ own) c) : Slots ad K G (wipeF ρ own) σ c :=
  s.congr (by rw [wipe_length]) (fun i p e => by
    obtain ⟨h1, _⟩ := wipeF_at e
    rw [wipe_out h1]) (.of_none hn)
theorem Slots.freeze {ρ : Fr} {σ : St} {c : List Cell} (s : Slots ad K G ρ σ c) (hh : Hold G c H) : ∀ own : List Nat, ∃ G' c', Step G c H G' c' H ∧ Hold G' c' H ∧ Slots ad K G' (frzAt ρ own) σ c'
  | [] => ⟨G, c, Step.refl, hh, s⟩
  | i :: r => by
    obtain ⟨G1, c1, st1, h1, s1⟩ := Slots.freeze s hh r
    unfold frzAt
    cases e : (frzAt ρ r).at i with
    | none =>
      obtain ⟨d, c2, s2, p2⟩ := s1.drop i
      refine ⟨G1, c2, (st1.perm (List.Perm.refl _) p2).less fun z hz => List.mem_append_right _ hz, (h1.perm p2).right, ?_⟩
      exact s2
    | some p =>
      obtain ⟨v, G2, c2, e1, st2, h2, s2, r2⟩ := slot_frz s1 h1 e
      exact ⟨G2, c2, st1.trans st2 h1, h2, s2⟩
theorem frzAt_fz {ρ : Fr} {i : Nat} {p : PV} : ∀ {own : List Nat}, i ∈ own → Fr.at (frzAt ρ own) i = some p → p.fz = true
  | j :: r, h, e => by
    unfold frzAt at e
    by_cases q : i = j
    · subst q
      cases e1 : (frzAt ρ r).at i with
      | none => rw [e1] at e; rw [show Option.map PV.frz none = none from rfl, at_set_none] at e; cases e
      | some x =>
        rw [e1] at e
        rw [at_set_same (at_lt e1)] at e
        cases e
        exact PV.frz_fz x
    · rw [at_set_ne q] at e
      exact frzAt_fz ((List.mem_cons.mp h).resolve_left q) e
theorem Slots.put_back {ρ : Fr} {σ : St} {c : List Cell} (s : Slots ad K G ρ σ c) {ρ0 : Fr} : ∀ (own : List Nat), (∀ i ∈ own, ∀ p, ρ0.at i = Option.some p → ∃ v, σ[i]? = Option.some (Option.some v) ∧ Rep ad K G p v []) → ∃ g c', Slots ad K G (putAt ρ0 ρ own) σ c' ∧ c.Perm (g ++ c')
  | [], _ => ⟨[], c, s, List.Perm.refl _⟩
  | i :: r, h => by
    obtain ⟨g, c1, s1, p1⟩ := Slots.put_back s r fun j hj => h j (List.mem_cons_of_mem _ hj)
    unfold putAt
    cases e : ρ0.at i with
    | none => exact ⟨g, c1, s1, p1⟩
    | some p =>
      obtain ⟨v, e1, rp⟩ := h i List.mem_cons_self p e
      have hi : i < (putAt ρ0 ρ r).length := by
        rw [s1.length]
        exact (List.getElem?_eq_some_iff.mp e1).1
      obtain ⟨d, c2, s2, p2⟩ := s1.retell hi e1 rp
      refine ⟨g ++ d, c2, s2, ?_⟩
      refine p1.trans ?_
      rw [List.append_assoc]
      exact p2.append_left g
/-! ### targets -/
structure Touch (js : List Nat) (σ σ' : St) : Prop where
  len : σ'.length = σ.length
  out : ∀ j, j ∉ js → σ'[j]? = σ[j]?
theorem Touch.refl (js : List Nat) (σ : St) : Touch js σ σ := ⟨rfl, fun _ _ => rfl⟩
theorem Touch.trans {js ks : List Nat} {σ σ1 σ2 : St} (a : Touch js σ σ1) (b : Touch ks σ1 σ2) : Touch (js ++ ks) σ σ2 :=
  ⟨b.len.trans a.len, fun j hj => (b.out j fun z => hj (List.mem_append_right _ z)).trans (a.out j fun z => hj (List.mem_append_left _ z))⟩
theorem Touch.set {σ : St} {i : Nat} {x : Option V} : Touch [i] σ (σ.set i x) := ⟨by simp, fun j hj => by rw [List.getElem?_set_ne]; simpa using fun z => hj (by simp [z])⟩
theorem Touch.wipe {js own : List Nat} {σ σ' : St} (t : Touch js (L2.wipe σ own) σ') (h : ∀ j ∈ js, j ∈ own) : L2.wipe σ' own = L2.wipe σ own := by
  have hl : σ'.length = σ.length := by rw [t.len, wipe_length]
  apply List.ext_getElem?
  intro j
  by_cases hj : j ∈ own
  · by_cases hlt : j < σ.length
    · rw [wipe_in hj hlt, wipe_in hj (by rw [hl]; exact hlt)]
    · rw [List.getElem?_eq_none (by rw [wipe_length]; omega), List.getElem?_eq_none (by rw [wipe_length]; omega)]
  · rw [wipe_out hj, wipe_out hj, t.out j fun z => hj (h j z), wipe_out hj]
def rdG (ad : Ad) (X : Cx) (tg : IT) : TG := fun v σ H Q => ∃ ρ G c p ρ', Slots ad X.K G ρ σ c ∧ Hold G c H ∧ Rep ad X.K G p v [] ∧ asg tg p ρ = some ρ' ∧ ∀ σ' c', Slots ad X.K G ρ' σ' c' → (∃ g, c.Perm (g ++ c')) → Touch tg.slots σ σ' → Q σ' H
def rdGs (ad : Ad) (X : Cx) (ts : List IT) : TGs := fun vs σ H Q => ∃ ρ G c ps ρ', Slots ad X.K G ρ σ c ∧ Hold G c H ∧ RepL ad X.K G ps vs [] ∧ asgL ts ps ρ = some ρ' ∧ ∀ σ' c', Slots ad X.K G ρ' σ' c' → (∃ g, c.Perm (g ++ c')) → Touch (IT.slots.slotsL ts) σ σ' → Q σ' H
section
variable {X : Cx} {W : WX} {cf : Cf} {pos : Pos}
theorem _root_.L2.PG.imp {e : Expr} {t t' : TG} (h : PG X e t) (i : ∀ v σ H Q, t' v σ H Q → t v σ H Q) : PG X e t' := ⟨fun pins s σ H v u Q I r hw => h.run pins s σ H v u Q I r (i v σ H Q hw)⟩
theorem _root_.L2.PGs.imp {e : List Expr} {t t' : TGs} (h : PGs X e t) (i : ∀ v σ H Q, t' v σ H Q → t v σ H Q) : PGs X e t' := ⟨fun pins s σ H v u Q I r hw => h.run pins s σ H v u Q I r (i v σ H Q hw)⟩
theorem sg_nm {x : Str} {i : Nat} (hf : Free ad i) (h : PG X (.Name x pos) (gName i)) : PG X (.Name x pos) (rdG ad X (.nm i)) := h.imp fun v σ H Q hq => by
  obtain ⟨ρ, G, c, p, ρ', sl, hh, r, e, k⟩ := hq
  simp only [asg] at e
  split at e
  · rename_i hi
    cases e
    obtain ⟨g, c', s2, p2⟩ := sl.set hf hi r
    exact k _ c' s2 ⟨g, p2⟩ Touch.set
  · cases e
theorem sgs_nil : PGs X [] (rdGs ad X []) := pgs_nil.imp fun v σ H Q hq => by
  obtain ⟨ρ, G, c, ps, ρ', sl, hh, r, e, k⟩ := hq
  cases ps with
  | nil =>
    obtain ⟨rfl, _⟩ := r.nil'
    cases e
    exact ⟨rfl, k σ c sl ⟨[], List.Perm.refl _⟩ (Touch.refl _ _)⟩
  | cons p ps => cases e
theorem sgs_cons {e : Expr} {es : List Expr} {t : IT} {ts : List IT} (h1 : PG X e (rdG ad X t)) (h2 : PGs X es (rdGs ad X ts)) (hs : (assignEach (e :: es) X.env).map (·.2) = assign e X.env :: (assignEach es X.env).map (·.2)) : PGs X (e :: es) (rdGs ad X (t :: ts)) := (pgs_cons h1 h2 hs).imp fun v σ H Q hq => by
  obtain ⟨ρ, G, c, ps, ρ', sl, hh, r, e, k⟩ := hq
  cases ps with
  | nil => cases e
  | cons p ps =>
    obtain ⟨v0, vr, rfl, r1, r2⟩ := r.inv0'
    simp only [asgL] at e
    obtain ⟨ρ1, e1, e2⟩ := Option.bind_eq_some_iff.mp e
    refine ⟨v0, vr, rfl, ρ, G, c, p, ρ1, sl, hh, r1, e1, fun σ1 c1 s1 ⟨g1, p1⟩ t1 => ?_⟩
    refine ⟨ρ1, G, c1, ps, ρ', s1, (hh.perm p1).right, r2, e2, fun σ2 c2 s2 ⟨g2, p2⟩ t2 => ?_⟩
    refine k σ2 c2 s2 ⟨g1 ++ g2, ?_⟩ (t1.trans t2)
    refine p1.trans ?_
    rw [List.append_assoc]
    exact p2.append_left g1
theorem asgL_len : ∀ {ts : List IT} {ps : List PV} {ρ ρ' : Fr}, asgL ts ps ρ = some ρ' → ps.length = ts.length
  | [], [], _, _, _ => rfl
  | [], _ :: _, _, _, h => by simp [asgL] at h
  | _ :: _, [], _, _, h => by simp [asgL] at h
  | t :: ts, p :: ps, ρ, ρ', h => by
    simp only [asgL] at h
    obtain ⟨ρ1, _, e2⟩ := Option.bind_eq_some_iff.mp h
    simp [asgL_len e2]
theorem sg_tp {es : List Expr} {n : Nat} {ts : List IT} (hc : X.calm = true) (h : PGs X es (rdGs ad X ts)) (hn : (assignEach es X.env).length = ts.length) (hst : (assignEach es X.env).findIdx? (·.1) = none) : PG X (.Tuple es n pos) (rdG ad X (.tp ts)) := (pg_tup hc h hn hst).imp fun v σ H Q hq => by
  obtain ⟨ρ, G, c, p, ρ', sl, hh, r, e, k⟩ := hq
  simp only [asg] at e
  cases p with
  | tup xs =>
    generalize ez : ([] : List Cell) = z at r
    cases r with
    | @tup a _ vs _ g1 r1 =>
      subst ez
      refine ⟨a, vs, rfl, .of (hh.fz _ _ g1), ?_, ρ, G, c, xs, ρ', sl, hh, r1, e, k⟩
      rw [← r1.length]
      exact asgL_len e
  | _ => cases e

/-! ### what is walked -/
def Walks (ad : Ad) (K : PySem.W.Frag) (J : It) (xs : List PV) (G : Hp) : Prop := ∀ (i : Nat) (H G1 : Hp) (c1 : List Cell), Sub G G1 → Hold G1 c1 H →
  (i < xs.length → J.go i H ∧ ∀ x H', J.yld i H x H' → ∃ G2 p, Step G1 c1 H G2 c1 H' ∧ Hold G2 c1 H' ∧ xs[i]? = some p ∧ Rep ad K G2 p x []) ∧ (xs.length ≤ i → J.stop i H)
def RelI (ad : Ad) (K : PySem.W.Frag) : RRel (List PV) It := fun _ G xs J t => t = [] ∧ Walks ad K J xs G
theorem RepL.item {xs : List PV} {vs : List V} (r : RepL ad K G xs vs []) {i : Nat} (hi : i < xs.length) : ∃ p v, xs[i]? = some p ∧ vs[i]? = some v ∧ Rep ad K G p v [] := by
  have e : xs[i]? = some xs[i] := List.getElem?_eq_getElem hi
  obtain ⟨w, d, e1, e2, e3⟩ := r.get e
  have : d = [] := List.eq_nil_iff_forall_not_mem.mpr fun z hz => nomatch e3 z hz
  subst this
  exact ⟨_, w, e, e1, e2⟩
theorem walks_list {a : Addr} {xs : List PV} {vs : List V} (hs : SqL K G a vs) (r : RepL ad K G xs vs []) : Walks ad K (Itl K a) xs G := fun i H G1 c1 sub hh => by
  have h1 : SqL K H a vs := hh.fz.sql (sub.sql hs)
  refine ⟨fun hi => ?_, fun hi => ⟨vs, h1, by rw [← r.length]; exact hi⟩⟩
  obtain ⟨p, v, e1, e2, e3⟩ := r.item hi
  refine ⟨⟨vs, v, h1, e2⟩, fun x H' ⟨eh, hx⟩ => ?_⟩
  subst eh
  have := hx vs h1
  rw [e2] at this
  cases this
  exact ⟨G1, p, Step.refl, hh, e1, e3.mono sub⟩
theorem walks_tup {a : Addr} {xs : List PV} {vs : List V} (hs : G a = some (.tup vs)) (r : RepL ad K G xs vs []) : Walks ad K (Itt K a) xs G := fun i H G1 c1 sub hh => by
  have h1 : SqT K H a vs := .of (hh.fz _ _ (sub _ _ hs))
  refine ⟨fun hi => ?_, fun hi => ⟨vs, h1, by rw [← r.length]; exact hi⟩⟩
  obtain ⟨p, v, e1, e2, e3⟩ := r.item hi
  refine ⟨⟨vs, v, h1, e2⟩, fun x H' ⟨eh, hx⟩ => ?_⟩
  subst eh
  have := hx vs h1
  rw [e2] at this
  cases this
  exact ⟨G1, p, Step.refl, hh, e1, e3.mono sub⟩
theorem walks_str (x : Str) : Walks ad K (Its x) (x.cps.toList.map fun k => PV.str ⟨#[k]⟩) G := fun i H G1 c1 sub hh => by
  refine ⟨fun hi => ?_, fun hi => ?_⟩
  · rw [List.length_map, Array.length_toList] at hi
    refine ⟨hi, fun v H' ⟨eh, k, e1, e2⟩ => ?_⟩
    subst eh
    subst e2
    refine ⟨G1, .str ⟨#[k]⟩, Step.refl, hh, ?_, .str _⟩
    rw [List.getElem?_map, Array.getElem?_toList, e1]
    rfl
  · rw [List.length_map, Array.length_toList] at hi
    exact hi
theorem rngI_get : ∀ (n : Nat) (lo : Int) (i : Nat), i < n → (rngI lo n)[i]? = some (.int (lo + i))
  | 0, lo, i, h => by omega
  | n + 1, lo, 0, h => by simp [rngI]
  | n + 1, lo, i + 1, h => by
    simp only [rngI, List.getElem?_cons_succ]
    rw [rngI_get n (lo + 1) i (by omega)]
    congr 2
    omega
theorem rngI_len : ∀ (n : Nat) (lo : Int), (rngI lo n).length = n
  | 0, _ => rfl
  | n + 1, lo => by simp [rngI, rngI_len n]
theorem walks_rng (lo : Int) (n : Nat) : Walks ad K (Itr lo n) (rngI lo n) G := fun i H G1 c1 sub hh => by
  rw [rngI_len]
  refine ⟨fun hi => ⟨hi, fun v H' ⟨eh, e1⟩ => ?_⟩, fun hi => hi⟩
  subst eh
  subst e1
  exact ⟨G1, _, Step.refl, hh, rngI_get n lo i hi, .int _⟩
theorem enmN_get : ∀ (xs : List PV) (k : Int) (i : Nat) (p : PV), xs[i]? = some p → (enmN k xs)[i]? = some (.tup [.int (k + i), p])
  | [], _, i, _, h => by simp at h
  | x :: xs, k, 0, p, h => by simp at h; subst h; simp [enmN]
  | x :: xs, k, i + 1, p, h => by
    simp only [enmN, List.getElem?_cons_succ]
    rw [enmN_get xs (k + 1) i p (by simpa using h)]
    congr 3
    congr 1
    omega
theorem enmN_len : ∀ (xs : List PV) (k : Int), (enmN k xs).length = xs.length
  | [], _ => rfl
  | x :: xs, k => by simp [enmN, enmN_len xs]
theorem walks_enum {a : Addr} {xs : List PV} {vs : List V} (hs : SqL K G a vs) (r : RepL ad K G xs vs []) : Walks ad K (Ite K a) (enmN 0 xs) G := fun i H G1 c1 sub hh => by
  have h1 : SqL K H a vs := hh.fz.sql (sub.sql hs)
  rw [enmN_len]
  refine ⟨fun hi => ?_, fun hi => ⟨vs, h1, by rw [← r.length]; exact hi⟩⟩
  obtain ⟨p, v, e1, e2, e3⟩ := r.item hi
  refine ⟨⟨vs, v, h1, e2⟩, fun x H' ⟨T, y, ex, hT, eh, hy⟩ => ?_⟩
  subst eh
  subst ex
  have := hy vs h1
  rw [e2] at this
  cases this
  obtain ⟨q1, q2⟩ := hh.newF hT (.tup [.int (i : Nat), v])
  refine ⟨_, _, q2, q1, enmN_get xs 0 i p e1, ?_⟩
  rw [Int.zero_add]
  exact .tup upd_same (.cons0 (.int _) (.cons0 ((e3.mono sub).mono q2.fz) .nil))
theorem zipN_get : ∀ (xs ys : List PV) (i : Nat) (p q : PV), xs[i]? = some p → ys[i]? = some q → (zipN xs ys)[i]? = some (.tup [p, q])
  | [], _, i, _, _, h, _ => by simp at h
  | _ :: _, [], i, _, _, _, h => by simp at h
  | x :: xs, y :: ys, 0, p, q, h, h' => by simp at h h'; subst h h'; simp [zipN]
  | x :: xs, y :: ys, i + 1, p, q, h, h' => by
    simp only [zipN, List.getElem?_cons_succ]
    exact zipN_get xs ys i p q (by simpa using h) (by simpa using h')
theorem zipN_len : ∀ (xs ys : List PV), (zipN xs ys).length = min xs.length ys.length
  | [], _ => by simp [zipN]
  | _ :: _, [] => by simp [zipN]
  | x :: xs, y :: ys => by simp [zipN, zipN_len xs ys]
theorem walks_zip {a b : Addr} {xs ys : List PV} {vs ws : List V} (hs : SqL K G a vs) (r : RepL ad K G xs vs []) (hs2 : SqL K G b ws) (r2 : RepL ad K G ys ws []) : Walks ad K (Itz K a b) (zipN xs ys) G := fun i H G1 c1 sub hh => by
  have h1 : SqL K H a vs := hh.fz.sql (sub.sql hs)
  have h2 : SqL K H b ws := hh.fz.sql (sub.sql hs2)
  rw [zipN_len]
  refine ⟨fun hi => ?_, fun hi => ⟨vs, ws, h1, h2, ?_⟩⟩
  · obtain ⟨p, v, e1, e2, e3⟩ := r.item (i := i) (by omega)
    obtain ⟨q, w, f1, f2, f3⟩ := r2.item (i := i) (by omega)
    refine ⟨⟨vs, ws, v, w, h1, h2, e2, f2⟩, fun x H' ⟨T, y, z, ex, hT, eh, hy, hz⟩ => ?_⟩
    subst eh
    subst ex
    have := hy vs h1
    rw [e2] at this
    cases this
    have := hz ws h2
    rw [f2] at this
    cases this
    obtain ⟨q1, q2⟩ := hh.newF hT (.tup [v, w])
    exact ⟨_, _, q2, q1, zipN_get xs ys i p q e1 f1, .tup upd_same (.cons0 ((e3.mono sub).mono q2.fz) (.cons0 ((f3.mono sub).mono q2.fz) .nil))⟩
  · rw [← r.length, ← r2.length]
    omega
theorem _root_.L2.PI.or {tg it : Expr} {w w' : TI} (h : PI X tg it w) (h' : PI X tg it w') : PI X tg it (fun σ H R => w σ H R ∨ w' σ H R) := ⟨fun pins s σ H R I hq => hq.elim (fun q => h.run pins s σ H R I q) fun q => h'.run pins s σ H R I q⟩
theorem _root_.L2.PI.imp {tg it : Expr} {w w' : TI} (h : PI X tg it w) (i : ∀ σ H R, w' σ H R → w σ H R) : PI X tg it w' := ⟨fun pins s σ H R I hq => h.run pins s σ H R I (i σ H R hq)⟩
abbrev SI (ad : Ad) (X : Cx) (W : WX) (tg it : Expr) (m : Fr → Res (List PV)) : Prop := PI X tg it (rd ad X W (RelI ad X.K) m)
/-- a list, a tuple, a text -/
theorem si_it {tg e : Expr} {ie : IE} (h : SE ad X W e (evE cf ie)) : SI ad X W tg e (evSrc cf (.it ie)) := (((pi_list h).or (pi_tup h)).or (pi_str h)).imp fun σ H R hq => by
  obtain ⟨ρ, G, c, sl, hh, ha⟩ := hq
  simp only [evSrc] at ha
  cases e : evE cf ie ρ with
  | bad => rw [e] at ha; exact ha.elim
  | ex x ρ1 =>
    rw [e] at ha
    exact .inl (.inl ⟨ρ, G, c, sl, hh, by rw [e]; exact ha⟩)
  | ok p ρ1 =>
    rw [e] at ha
    simp only [Res.bind] at ha
    cases e1 : srcOf p.frz with
    | none => rw [e1] at ha; exact ha.elim
    | some xs =>
      rw [e1] at ha
      have go : ∀ v H1 G1 c1 t (J : It), Step G c H G1 (c1 ++ t) H1 → Slots ad X.K G1 ρ1 σ c1 → Hold G1 (c1 ++ t) H1 → Rep ad X.K G1 p v t → (Rep ad X.K (addc G1 t) p.frz v [] → Walks ad X.K J xs (addc G1 t)) → R J H1 := fun v H1 G1 c1 t J s sl1 h1 hr hw =>
        ha J H1 (addc G1 t) c1 [] (toL (s.absorb h1)) (sl1.mono (addc_sub h1.right)) (toH h1.absorb) ⟨rfl, hw (Rep.absorb h1 hr)⟩
      have hfz := PV.frz_fz p
      cases ep : p.frz with
      | str x =>
        rw [ep] at e1
        cases e1
        refine .inr ⟨ρ, G, c, sl, hh, ?_⟩
        rw [e]
        intro v H1 G1 c1 t s sl1 h1 hr
        refine ⟨x, ?_, go v H1 G1 c1 t _ s sl1 h1 hr fun _ => walks_str x⟩
        have r' := Rep.absorb h1 hr
        rw [ep] at r'
        cases r'
        rfl
      | lst o ys =>
        rw [ep] at e1 hfz
        cases e1
        refine .inl (.inl ⟨ρ, G, c, sl, hh, ?_⟩)
        rw [e]
        intro v H1 G1 c1 t s sl1 h1 hr
        have r' := Rep.absorb h1 hr
        rw [ep] at r'
        have ho : o = false := by simpa [PV.fz] using (Bool.and_eq_true_iff.mp (show (!o && PV.fzL xs) = true from hfz)).1
        subst ho
        generalize ez : ([] : List Cell) = z at r'
        cases r' with
        | @lstF a _ vs _ g1 r1 =>
          subst ez
          have hs : SqL X.K (addc G1 t) a vs := .of g1
          exact ⟨a, rfl, ⟨vs, h1.absorb.fz.sql hs⟩, go _ H1 G1 c1 t _ s sl1 h1 hr fun _ => walks_list hs r1⟩
      | lck ys =>
        rw [ep] at e1
        cases e1
        refine .inl (.inl ⟨ρ, G, c, sl, hh, ?_⟩)
        rw [e]
        intro v H1 G1 c1 t s sl1 h1 hr
        have r' := Rep.absorb h1 hr
        rw [ep] at r'
        generalize ez : ([] : List Cell) = z at r'
        cases r' with
        | @lck a _ vs g1 r1 => exact ⟨a, rfl, ⟨vs, h1.absorb.fz.sql g1⟩, go _ H1 G1 c1 t _ s sl1 h1 hr fun _ => walks_list g1 r1⟩
      | tup ys =>
        rw [ep] at e1
        cases e1
        refine .inl (.inr ⟨ρ, G, c, sl, hh, ?_⟩)
        rw [e]
        intro v H1 G1 c1 t s sl1 h1 hr
        have r' := Rep.absorb h1 hr
        rw [ep] at r'
        generalize ez : ([] : List Cell) = z at r'
        cases r' with
        | @tup a _ vs _ g1 r1 =>
          subst ez
          exact ⟨a, rfl, ⟨vs, .of (h1.absorb.fz _ _ g1)⟩, go _ H1 G1 c1 t _ s sl1 h1 hr fun _ => walks_tup g1 r1⟩
      | _ => rw [ep] at e1; cases e1
end
end Y
end
section
set_option Elab.async false
set_option linter.all false
set_option maxRecDepth 100000
set_option maxHeartbeats 2000000
set_option autoImplicit false
/-! Y7: range, enumerate, zip; comprehensions. -/
namespace Y
open PySem L2
variable {ad : Ad} {K : PySem.W.Frag} {G G' G1 G2 H H' H1 H2 : Hp}
section
variable {X : Cx} {W : WX} {cf : Cf} {pos : Pos}
theorem rngN1 {p : PV} {xs : List PV} (h : rngN [p] = some xs) : ∃ j, p = .int j ∧ -(2 ^ 62) ≤ j ∧ j < 2 ^ 62 ∧ xs = rngI 0 j.toNat := by
  unfold rngN at h
  split at h
  · rename_i j e
    cases e
    split at h
    · rename_i hj
      cases h
      have := of_decide_eq_true (show decide (-(2 ^ 62) ≤ j ∧ j < 2 ^ 62) = true from hj)
      exact ⟨j, rfl, this.1, this.2, rfl⟩
    · cases h
  · rename_i e; cases e
  · cases h
theorem rngN2 {p q : PV} {xs : List PV} (h : rngN [p, q] = some xs) : ∃ i j, p = .int i ∧ q = .int j ∧ (-(2 ^ 62) ≤ i ∧ i < 2 ^ 62 ∧ -(2 ^ 62) ≤ j ∧ j < 2 ^ 62) ∧ xs = rngI i (j - i).toNat := by
  unfold rngN at h
  split at h
  · rename_i e; cases e
  · rename_i i j e
    cases e
    split at h
    · rename_i hj
      cases h
      rw [Bool.and_eq_true] at hj
      have h1 := of_decide_eq_true (show decide (-(2 ^ 62) ≤ i ∧ i < 2 ^ 62) = true from hj.1)
      have h2 := of_decide_eq_true (show decide (-(2 ^ 62) ≤ j ∧ j < 2 ^ 62) = true from hj.2)
      exact ⟨i, j, rfl, rfl, ⟨h1.1, h1.2, h2.1, h2.2⟩, rfl⟩
    · cases h
  · cases h
theorem evO_len : ∀ {es : List IE} {ρ ρ' : Fr} {os : List OV}, evO cf es ρ = .ok os ρ' → os.length = es.length
  | [], ρ, ρ', os, h => by simp only [evO] at h; cases h; rfl
  | e :: es, ρ, ρ', os, h => by
    simp only [evO] at h
    cases e1 : opnd e (evE cf e) ρ with
    | bad => rw [e1] at h; cases h
    | ex x r => rw [e1] at h; cases h
    | ok o ρ1 =>
      rw [e1] at h
      simp only [Res.bind] at h
      cases e2 : evO cf es ρ1 with
      | bad => rw [e2] at h; cases h
      | ex x r => rw [e2] at h; cases h
      | ok os' ρ2 =>
        rw [e2] at h
        cases h
        simp [evO_len e2]
theorem rsvL_len {ρ : Fr} : ∀ {os : List OV} {ps : List PV}, rsvL ρ os = some ps → ps.length = os.length
  | [], ps, h => by cases h; rfl
  | o :: os, ps, h => by
    unfold rsvL at h
    cases e1 : rsv ρ o with
    | none => rw [e1] at h; cases h
    | some p =>
      cases e2 : rsvL ρ os with
      | none => rw [e1, e2] at h; cases h
      | some qs =>
        rw [e1, e2] at h
        cases h
        simp [rsvL_len e2]
theorem rd_rng {es : List IE} {σ : St} {H : Hp} {R : It → Hp → Prop} (h : rd ad X W (RelI ad X.K) (evSrc cf (.rng es)) σ H R) : rd ad X W (RelOs ad X.K) (evO cf es) σ H fun vs H1 => ∃ ps xs G c, VwL ad X.K G c ps vs ∧ ps.length = es.length ∧ rngN ps = some xs ∧ (∀ J, Walks ad X.K J xs G → R J H1) := by
  obtain ⟨ρ, G, c, sl, hh, ha⟩ := h
  simp only [evSrc] at ha
  refine ⟨ρ, G, c, sl, hh, ?_⟩
  cases e0 : evO cf es ρ with
  | bad => rw [e0] at ha; exact ha
  | ex x r => rw [e0] at ha; exact ha
  | ok os ρ1 =>
    rw [e0] at ha
    simp only [Res.bind] at ha
    intro vs H1 G1 c1 t s sl1 h1 ⟨et, hv⟩
    subst et
    have k1 := ha.go0 s h1
    have h1' := nilH h1
    cases e : (rsvL ρ1 os).bind rngN with
    | none => rw [e] at k1; exact k1.elim
    | some xs =>
      rw [e] at k1
      obtain ⟨ps, e1, e2⟩ := Option.bind_eq_some_iff.mp e
      exact ⟨ps, xs, G1, c1, hv.vw sl1 e1, (rsvL_len e1).trans (evO_len e0), e2, fun J hw => k1.calm sl1 h1' ⟨rfl, hw⟩⟩
theorem si_rng1 {tg a : Expr} {x : IE} {p : Pos} (hg : Gl X "range") (hm : X.mg "range" = none) (ha : SOs ad X W [a] (evO cf [x])) (hs : starEach [a] X.env = [(false, eval a X.env)]) : SI ad X W tg (.Call (.Name "range" p) [a] [] pos) (evSrc cf (.rng [x])) := (pi_range1 hg hm ha hs).imp fun σ H R hq =>
  rd_imp (rd_rng hq) fun vs H1 ⟨ps, xs, G, c, hv, el, e, k⟩ => by
    match ps, el, hv with
    | [p], _, .cons vp .nil =>
      obtain ⟨j, rfl, h1, h2, rfl⟩ := rngN1 e
      obtain rfl := vp.int
      exact ⟨j, rfl, h1, h2, k _ (walks_rng 0 _)⟩
theorem si_rng2 {tg a b : Expr} {x y : IE} {p : Pos} (hg : Gl X "range") (hm : X.mg "range" = none) (ha : SOs ad X W [a, b] (evO cf [x, y])) (hs : starEach [a, b] X.env = [(false, eval a X.env), (false, eval b X.env)]) (hs2 : starEach [b] X.env = [(false, eval b X.env)]) : SI ad X W tg (.Call (.Name "range" p) [a, b] [] pos) (evSrc cf (.rng [x, y])) := (pi_range2 hg hm ha hs hs2).imp fun σ H R hq =>
  rd_imp (rd_rng hq) fun vs H1 ⟨ps, xs, G, c, hv, el, e, k⟩ => by
    match ps, el, hv with
    | [p, q], _, .cons vp (.cons vq .nil) =>
      obtain ⟨i, j, rfl, rfl, h1, rfl⟩ := rngN2 e
      obtain rfl := vp.int
      obtain rfl := vq.int
      exact ⟨i, j, rfl, h1, k _ (walks_rng i _)⟩
theorem frz_lst {ad : Ad} {p : PV} {v : V} {xs : List PV} (r : Rep ad K G p v []) (e : lstOf p = some xs) : ∃ a vs, v = .ref a ∧ SqL K G a vs ∧ RepL ad K G xs vs [] := by
  obtain ⟨o, rfl⟩ := lstOf_some e
  generalize ez : ([] : List Cell) = z at r
  cases r with
  | lstF g r => subst ez; exact ⟨_, _, rfl, .of g, r⟩
  | lstO r => cases ez
theorem enmP_some {p : PV} {xs : List PV} (h : enmP [p] = some xs) : (∃ ys, (lstOf p = some ys ∨ p = .lck ys) ∧ xs = enmN 0 ys) := by
  unfold enmP at h
  split at h
  · rename_i o ys e; cases e; cases h; exact ⟨ys, .inl rfl, rfl⟩
  · rename_i ys e; cases e; cases h; exact ⟨ys, .inr rfl, rfl⟩
  · cases h
theorem argd_fz {ie : IE} {run : Fr → Res PV} {ρ ρ1 : Fr} {a : PV × Option Nat} (h : argd false ie run ρ = .ok a ρ1) : a.1.fz = true := by
  rw [argd_val rfl] at h
  cases e : run ρ with
  | bad => rw [e] at h; cases h
  | ex x r => rw [e] at h; cases h
  | ok p r => rw [e] at h; cases h; exact PV.frz_fz p
/-- a list that is read -/
theorem lck_lst {p : PV} {v : V} {t : List Cell} {ys : List PV} (r : Rep ad K G p v t) (hf : p.fz = true) (hys : lstOf p = some ys ∨ p = .lck ys) : ∃ b vs, v = .ref b ∧ SqL K G b vs ∧ RepL ad K G ys vs [] := by
  have et := r.nocell hf
  subst et
  rcases hys with hys | rfl
  · obtain ⟨o, rfl⟩ := lstOf_some hys
    have ho : o = false := by simpa [PV.fz] using (Bool.and_eq_true_iff.mp (show (!o && PV.fzL ys) = true from hf)).1
    subst ho
    exact frz_lst r rfl
  · generalize ez : ([] : List Cell) = z at r
    cases r with
    | @lck a _ vs g1 r1 => exact ⟨a, vs, rfl, g1, r1⟩
theorem si_enm {elts : List Expr} {kk : Nat} {tpos : Pos} {a : Expr} {x : IE} {p : Pos} (hg : Gl X "enumerate") (hm : X.mg "enumerate" = none) (ha : SE ad X W a (evE cf x)) (hs : starEach [a] X.env = [(false, eval a X.env)]) : SI ad X W (.Tuple elts kk tpos) (.Call (.Name "enumerate" p) [a] [] pos) (evSrc cf (.enm x)) :=
  (pi_enum hg hm (pa_cons (sa_val (b := false) (ie := x) rfl ha) pa_nil (by rw [hs]; rfl)) hs).imp fun σ H R hq => by
    obtain ⟨ρ, G, c, sl, hh, h⟩ := hq
    simp only [evSrc] at h
    refine ⟨ρ, G, c, sl, hh, ?_⟩
    cases e0 : argd false x (evE cf x) ρ with
    | bad => rw [e0] at h; exact h
    | ex x r => rw [e0] at h; exact h
    | ok a ρ1 =>
      rw [e0] at h
      simp only [Res.bind] at h
      have hf := argd_fz e0
      intro v1 H1 G1 c1 t1 s1 sl1 h1 ⟨r1, _⟩
      have et := r1.nocell hf
      subst et
      have h1' := nilH h1
      cases e : enmP [a.1] with
      | none => rw [e] at h; exact h.elim
      | some xs =>
        rw [e] at h
        have k1 := h.go0 s1 h1
        obtain ⟨ys, hys, rfl⟩ := enmP_some e
        obtain ⟨b, vs, rfl, hb, hr⟩ := lck_lst r1 hf hys
        exact ⟨b, vs, rfl, h1'.fz.sql hb, k1.calm sl1 h1' ⟨rfl, walks_enum hb hr⟩⟩
theorem zipP_some {p q : PV} {xs : List PV} (h : zipP [p, q] = some xs) : ∃ ys zs, lstOf p = some ys ∧ lstOf q = some zs ∧ xs = zipN ys zs := by
  unfold zipP at h
  split at h
  · rename_i o ys o2 zs e; cases e; cases h; exact ⟨ys, zs, rfl, rfl, rfl⟩
  · cases h
theorem si_zip {elts : List Expr} {kk : Nat} {tpos : Pos} {a b : Expr} {x y : IE} {p : Pos} (hg : Gl X "zip") (hm : X.mg "zip" = none) (ha : SE ad X W a (evE cf x)) (hb : SE ad X W b (evE cf y)) (hs : starEach [a, b] X.env = [(false, eval a X.env), (false, eval b X.env)]) (hs2 : starEach [b] X.env = [(false, eval b X.env)]) : SI ad X W (.Tuple elts kk tpos) (.Call (.Name "zip" p) [a, b] [] pos) (evSrc cf (.zp x y)) :=
  (pi_zip hg hm (pa_cons (sa_val (b := false) (ie := x) rfl ha) (pa_cons (sa_val (b := false) (ie := y) rfl hb) pa_nil (by rw [hs2]; rfl)) (by rw [hs, hs2])) (by rw [hs, hs2]) (by rw [hs2]; rfl)).imp fun σ H R hq => by
    obtain ⟨ρ, G, c, sl, hh, h⟩ := hq
    simp only [evSrc] at h
    refine ⟨ρ, G, c, sl, hh, ?_⟩
    cases e0 : argd false x (evE cf x) ρ with
    | bad => rw [e0] at h; exact h
    | ex x r => rw [e0] at h; exact h
    | ok a ρ1 =>
      rw [e0] at h
      simp only [Res.bind] at h
      have hf := argd_fz e0
      intro v1 H1 G1 c1 t1 s1 sl1 h1 ⟨r1, _⟩
      have et := r1.nocell hf
      subst et
      have h1' := nilH h1
      have k := h.go0 s1 h1
      refine ⟨ρ1, G1, c1, sl1, h1', ?_⟩
      cases e2 : argd false y (evE cf y) ρ1 with
      | bad => rw [e2] at k; exact k
      | ex x r => rw [e2] at k; exact k
      | ok b ρ2 =>
        rw [e2] at k
        simp only at k
        have hf2 := argd_fz e2
        intro v2 H2 G2 c2 t2 s2 sl2 h2 ⟨r2, _⟩
        have et := r2.nocell hf2
        subst et
        have h2' := nilH h2
        cases e : zipP [a.1, b.1] with
        | none => rw [e] at k; exact k.elim
        | some xs =>
          rw [e] at k
          have k1 := k.go0 s2 h2
          obtain ⟨ys, zs, hys, hzs, rfl⟩ := zipP_some e
          obtain ⟨d1, vs, rfl, hb1, hr1⟩ := lck_lst (r1.mono s2.fz) hf (.inl hys)
          obtain ⟨d2, ws, rfl, hb2, hr2⟩ := lck_lst r2 hf2 (.inl hzs)
          exact ⟨d1, d2, vs, ws, rfl, h2'.fz.sql hb1, h2'.fz.sql hb2, k1.calm sl2 h2' ⟨rfl, walks_zip hb1 hr1 hb2 hr2⟩⟩
end
end Y
end
section
set_option Elab.async false
set_option linter.all false
set_option maxRecDepth 100000
set_option maxHeartbeats 2000000
set_option autoImplicit false
/-! Y8: list comprehensions. -/
namespace Y
open PySem L2
variable {ad : Ad} {K : PySem.W.Frag} {G G' G1 G2 H H' H1 H2 : Hp}
abbrev W0 : WX := fun _ _ _ _ => False
/-- one turn of a comprehension -/
def turnC (cf : Cf) (elt : IE) (tg : IT) (ifs : List IE) : PV → Fr → Res (Option PV) := fun x ρ => match asg tg x ρ with
  | some ρ2 => (evIfs cf ifs ρ2).bind fun k ρ3 => if k then (evE cf elt ρ3).bind fun y ρ4 => .ok (some y) ρ4 else .ok none ρ3
  | none => .bad
theorem evE_comp {cf : Cf} {elt : IE} {tg : IT} {src : ISrc} {ifs : List IE} {own : List Nat} {ρ : Fr} : evE cf (.comp elt tg src ifs own) ρ = (evSrc cf src ρ).bind fun xs ρ1 =>
      match compL (turnC cf elt tg ifs) own xs (wipeF (frzAt ρ1 own) own) [] with
      | .ok ys ρ2 => .ok (.lst true ys) (backAt (frzAt ρ1 own) ρ2 own)
      | _ => .bad := by
  simp only [evE]
  rfl
theorem wipe_wipe (σ : St) (own : List Nat) : L2.wipe (L2.wipe σ own) own = L2.wipe σ own := (Touch.refl [] (L2.wipe σ own)).wipe (by simp)
theorem drop_cons {α : Type} {xs : List α} {i : Nat} {p : α} (h : xs[i]? = some p) : xs.drop i = p :: xs.drop (i + 1) := by
  obtain ⟨hi, e⟩ := List.getElem?_eq_some_iff.mp h
  rw [List.drop_eq_getElem_cons hi, e]
theorem perm_swap {a b t : List Cell} : ((a ++ b) ++ t).Perm ((a ++ t) ++ b) := by
  rw [List.append_assoc, List.append_assoc]
  exact List.perm_append_comm.append_left a
section
variable {X : Cx} {W : WX} {cf : Cf} {pos : Pos}
/-- what the comprehension gives, by what is left of its loop -/
def endC (ρf : Fr) (own : List Nat) (r : Res (List PV)) : Res PV := match r with
  | .ok ys ρ2 => .ok (.lst true ys) (backAt ρf ρ2 own)
  | _ => .bad
/-- one turn, then what is left -/
def stepC (turn : PV → Fr → Res (Option PV)) (own : List Nat) (F : Fr → List PV → Res PV) (p : PV) (ρ : Fr) (acc : List PV) : Res PV := match turn p ρ with
  | .ok (some y) ρ1 => if acc.length < sizeLine then F (wipeF ρ1 own) (acc ++ [y.frz]) else .bad
  | .ok none ρ1 => F (wipeF ρ1 own) acc
  | _ => .bad
theorem step_cons {turn : PV → Fr → Res (Option PV)} {own : List Nat} {ρf : Fr} {p : PV} {rest : List PV} {ρ : Fr} {acc : List PV} : endC ρf own (compL turn own (p :: rest) ρ acc) = stepC turn own (fun ρ acc => endC ρf own (compL turn own rest ρ acc)) p ρ acc := by
  simp only [compL, stepC]
  cases e : turn p ρ with
  | bad => rfl
  | ex x ρ1 => rfl
  | ok y ρ1 =>
    cases y with
    | none => rfl
    | some y =>
      dsimp only
      split <;> rfl
structure InvC (ad : Ad) (K : PySem.W.Frag) (W : WX) (σ : St) (G0 : Hp) (c0 : List Cell) (H0 : Hp) (Q : VK) (D : Addr) (own : List Nat) (F : Fr → List PV → Res PV) (H : Hp) : Prop where
  ex : ∃ ρ G c t acc accV, Slots ad K G ρ (L2.wipe σ own) c ∧ RepL ad K G acc accV t ∧ Hold G (c ++ (D, HO.lst accV) :: t) H ∧ Step G0 c0 H0 G (c ++ (D, HO.lst accV) :: t) H ∧ Aft ad K W σ (RelP ad K) G0 c0 H0 Q (F ρ acc)
theorem stop_C {σ : St} {G0 : Hp} {c0 : List Cell} {H0 : Hp} {Q : VK} {D : Addr} {own : List Nat} {ρf : Fr} {F : Fr → List PV → Res PV} (hn : ad.cur = none) (h : InvC ad K W σ G0 c0 H0 Q D own F H) (hF : ∀ ρ acc, F ρ acc = endC ρf own (.ok acc ρ) ∨ F ρ acc = .bad)
    (sf : Slots ad K G0 ρf σ c0) (hf : ∀ i ∈ own, ∀ p, ρf.at i = some p → p.fz = true) : Q (.ref D) H := by
  obtain ⟨ρ, G, c, t, acc, accV, sl, r, hh, st, a⟩ := h.ex
  rcases hF ρ acc with e | e
  case inr => rw [e] at a; exact a.elim
  rw [e] at a
  simp only [endC] at a
  obtain ⟨g1, c1, sl1, p1⟩ := sl.wipe hn own
  rw [wipe_wipe] at sl1
  have sl2 := sl1.unwipe hn
  obtain ⟨g2, c2, sl3, p2⟩ := sl2.put_back (ρ0 := ρf) own fun i hi p e => by
    obtain ⟨v, d, r', e1, e2, e3, e4⟩ := sf.out e
    have := e2.nocell (hf i hi p e)
    subst this
    exact ⟨v, e1, e2.mono st.fz⟩
  have pm : (c ++ (D, HO.lst accV) :: t).Perm ((g1 ++ g2) ++ (c2 ++ (D, HO.lst accV) :: t)) := by
    rw [← List.append_assoc]
    refine List.Perm.append_right _ ?_
    refine p1.trans ?_
    rw [List.append_assoc]
    exact p2.append_left g1
  exact a (.ref D) H G c2 ((D, .lst accV) :: t) ((st.perm (List.Perm.refl _) pm).less fun z hz => List.mem_append_right _ hz) sl3 (hh.perm pm).right (.lstO r)
theorem turn_C {σ : St} {G0 : Hp} {c0 : List Cell} {H0 : Hp} {Q : VK} {D : Addr} {own : List Nat} {tg : IT} {ifs : List IE} {elt : IE} {p : PV} {F : Fr → List PV → Res PV} (hn : ad.cur = none) (hs : ∀ j ∈ tg.slots, j ∈ own)
    {ρ : Fr} {G : Hp} {c t : List Cell} {acc : List PV} {accV : List V} (sl : Slots ad X.K G ρ (L2.wipe σ own) c) (r : RepL ad X.K G acc accV t) (hh : Hold G (c ++ (D, HO.lst accV) :: t) H) (st : Step G0 c0 H0 G (c ++ (D, HO.lst accV) :: t) H)
    (a : Aft ad X.K W σ (RelP ad X.K) G0 c0 H0 Q (stepC (turnC cf elt tg ifs) own F p ρ acc)) {x : V} (rx : Rep ad X.K G p x []) :
    rdG ad X tg x (L2.wipe σ own) H fun σ2 H2 => L2.wipe σ2 own = L2.wipe σ own ∧ rd ad X W0 RelB (evIfs cf ifs) σ2 H2 fun b H3 => if b = true then rd ad X W0 (RelP ad X.K) (evE cf elt) σ2 H3 fun y H4 => ∃ acc, H4 D = some (.lst acc) ∧ acc.length < sizeLine ∧ InvC ad X.K W σ G0 c0 H0 Q D own F (upd H4 D (.lst (acc ++ [y])))
      else InvC ad X.K W σ G0 c0 H0 Q D own F H3 := by
  simp only [stepC] at a
  cases e1 : asg tg p ρ with
  | none =>
    have e : turnC cf elt tg ifs p ρ = .bad := by unfold turnC; rw [e1]
    rw [e] at a; exact a.elim
  | some ρ2 =>
    have e : turnC cf elt tg ifs p ρ = (evIfs cf ifs ρ2).bind fun k ρ3 => if k then (evE cf elt ρ3).bind fun y ρ4 => .ok (some y) ρ4 else .ok none ρ3 := by unfold turnC; rw [e1]
    rw [e] at a
    refine ⟨ρ, G, c, p, ρ2, sl, hh.left, rx, e1, fun σ2 c2 sl2 ⟨g, pm⟩ to => ⟨to.wipe hs, ?_⟩⟩
    have pm' : (c ++ (D, HO.lst accV) :: t).Perm (g ++ (c2 ++ (D, HO.lst accV) :: t)) := by
      rw [← List.append_assoc]
      exact pm.append_right _
    have hh2 := (hh.perm pm').right
    have st2 : Step G0 c0 H0 G (c2 ++ (D, HO.lst accV) :: t) H := (st.perm (List.Perm.refl _) pm').less fun z hz => List.mem_append_right _ hz
    refine ⟨ρ2, G, c2, sl2, hh2.left, ?_⟩
    cases e2 : evIfs cf ifs ρ2 with
    | bad => rw [e2] at a; exact a.elim
    | ex y ρ3 => rw [e2] at a; exact a.elim
    | ok b ρ3 =>
      rw [e2] at a
      simp only [Res.bind] at a
      intro b' H3 G3 c3 t3 s3 sl3 h3 ⟨et, eb⟩
      subst et
      subst eb
      have s3' := nilL s3
      have h3' := nilH h3
      have hh3 := hh2.frame s3' h3'
      have st3 := st2.frame s3' hh2
      cases b with
      | false =>
        simp only [Bool.false_eq_true, if_false] at a ⊢
        obtain ⟨g4, c4, sl4, p4⟩ := sl3.wipe hn own
        rw [to.wipe hs] at sl4
        have pm4 : (c3 ++ (D, HO.lst accV) :: t).Perm (g4 ++ (c4 ++ (D, HO.lst accV) :: t)) := by
          rw [← List.append_assoc]
          exact p4.append_right _
        exact ⟨wipeF ρ3 own, G3, c4, t, acc, accV, sl4, r.mono s3.fz, (hh3.perm pm4).right, (st3.perm (List.Perm.refl _) pm4).less fun z hz => List.mem_append_right _ hz, a⟩
      | true =>
        simp only [if_true] at a ⊢
        refine ⟨ρ3, G3, c3, sl3, h3', ?_⟩
        cases e3 : evE cf elt ρ3 with
        | bad => rw [e3] at a; exact a.elim
        | ex y ρ3 => rw [e3] at a; exact a.elim
        | ok y ρ4 =>
          rw [e3] at a
          simp only at a
          split at a
          case isFalse => exact a.elim
          rename_i hlen
          intro v H4 G4 c4 t4 s4 sl4 h4 r4
          have r4' := Rep.absorb h4 r4
          have h4' := h4.absorb
          have s4' := s4.absorb h4
          have sl4' := sl4.mono (addc_sub h4.right)
          have hh4 := hh3.frame s4' h4'
          have st4 := st3.frame s4' hh3
          have r5 := (r.mono s3.fz).mono s4'.fz
          obtain ⟨g5, c5, sl5, p5⟩ := sl4'.wipe hn own
          rw [to.wipe hs] at sl5
          have pm5 : (c4 ++ (D, HO.lst accV) :: t).Perm (g5 ++ ((D, HO.lst accV) :: (c5 ++ t))) := by
            refine List.Perm.trans (p5.append_right _) ?_
            rw [List.append_assoc]
            exact List.Perm.append_left g5 List.perm_middle
          have hh5 := (hh4.perm pm5).right
          have st5 : Step G0 c0 H0 _ ((D, HO.lst accV) :: (c5 ++ t)) H4 := (st4.perm (List.Perm.refl _) pm5).less fun z hz => List.mem_append_right _ hz
          obtain ⟨w1, w2⟩ := hh5.write (.lst (accV ++ [v]))
          have pm6 : ((D, HO.lst (accV ++ [v])) :: (c5 ++ t)).Perm (c5 ++ (D, HO.lst (accV ++ [v])) :: t) := List.perm_middle.symm
          refine ⟨accV, ?_, by rw [← r5.length]; exact hlen, wipeF ρ4 own, _, c5, t, acc ++ [y.frz], accV ++ [v], sl5, by simpa using r5.append (RepL.cons (c := []) (cs := []) r4' RepL.nil), w1.perm pm6, (st5.trans w2 hh5).perm (List.Perm.refl _) pm6, a⟩
          exact hh5.at_ (D, HO.lst accV) List.mem_cons_self
theorem rd_comp {σ : St} {H : Hp} {Q : VK} {own : List Nat} {ie : IE} {it : IT} {src : ISrc} {iifs : List IE} (hn : ad.cur = none) (hsl : ∀ j ∈ it.slots, j ∈ own) (hq : rd ad X W (RelP ad X.K) (evE cf (.comp ie it src iifs own)) σ H Q) :
    tLc (rd ad X W (RelI ad X.K) (evSrc cf src)) (rdG ad X it) (rd ad X W0 RelB (evIfs cf iifs)) (rd ad X W0 (RelP ad X.K) (evE cf ie)) own σ H Q := by
  obtain ⟨ρ, G, c, sl, hh, h⟩ := hq
  rw [evE_comp] at h
  refine ⟨ρ, G, c, sl, hh, h.seq fun xs ρ1 J H1 G1 c1 t s1 sl1 h1 ⟨et, hw⟩ k1 D hD => ?_⟩
  subst et
  have s1' := nilL s1
  have h1' := nilH h1
  have k2 := k1.go s1' h1'
  obtain ⟨G2, c2, st2, h2, sl2⟩ := sl1.freeze h1' own
  have k3 := k2.go st2 h2
  obtain ⟨g, c3, sl3, p3⟩ := sl2.wipe hn own
  obtain ⟨n1, n2⟩ := h2.newO hD (.lst [])
  have pm : (c2 ++ [(D, HO.lst [])]).Perm (g ++ (c3 ++ [(D, HO.lst [])])) := by
    rw [← List.append_assoc]
    exact p3.append_right _
  refine ⟨fun i m H' => m = xs.length - i ∧ i ≤ xs.length ∧ InvC ad X.K W σ G2 c2 H1 Q D own (fun ρ acc => endC (frzAt ρ1 own) own (compL (turnC cf ie it iifs) own (xs.drop i) ρ acc)) H', ⟨_, rfl, Nat.zero_le _, ⟨_, G2, c3, [], [], [], sl3, .nil, (n1.perm pm).right, (n2.perm (List.Perm.refl _) pm).less fun z hz => List.mem_append_right _ hz, k3⟩⟩, ?_⟩
  rintro i m H' ⟨rfl, hi, hv⟩
  have hv' := hv
  obtain ⟨ρ', G', c', t, acc, accV, sl', r', hh', st', a'⟩ := hv'
  have w := hw i H' G' _ (st2.fz.trans st'.fz) hh'
  by_cases hlt : i < xs.length
  · obtain ⟨go, yl⟩ := w.1 hlt
    refine .inr ⟨go, fun H'' => InvC ad X.K W σ G2 c2 H1 Q D own (fun ρ acc => endC (frzAt ρ1 own) own (compL (turnC cf ie it iifs) own (xs.drop (i + 1)) ρ acc)) H'', fun H'' hv2 => ⟨_, by omega, rfl, hlt, hv2⟩, fun x H'' hy => ?_⟩
    obtain ⟨G3, p, sp, hp, ep, rp⟩ := yl x H'' hy
    rw [drop_cons ep, step_cons] at a'
    exact turn_C hn hsl (sl'.mono sp.fz) (r'.mono sp.fz) hp (st'.trans sp hh') a' rp
  · have e : i = xs.length := by omega
    subst e
    rw [List.drop_length] at hv
    exact .inl ⟨w.2 (Nat.le_refl _), stop_C hn hv (fun ρ acc => .inl rfl) sl2 fun i hi p e => frzAt_fz hi e⟩
theorem se_comp {elt tg iter : Expr} {ifs : List Expr} {scope : Scope} {own : List (Str × Nat)} {ie : IE} {it : IT} {src : ISrc} {iifs : List IE} (hn : ad.cur = none) (hc : X.calm = true) (hN : X.N.Nodup) (hi : SI ad X W tg iter (evSrc cf src)) (ok : BlkOk X.N X.env.scope scope own) (hsl : ∀ j ∈ it.slots, j ∈ own.map (·.2))
    (hg : ∀ (s : Shared) (H : Hp) (C : Addr) (cl : List (Str × Addr)) (fp : List Addr), PG (X.blk s H scope (compEnvC scope cl C X.env) fp) tg (rdG ad X it))
    (ht : ∀ (s : Shared) (H : Hp) (C : Addr) (cl : List (Str × Addr)) (fp : List Addr), PTs (X.blk s H scope (compEnvC scope cl C X.env) fp) ifs (rd ad X W0 RelB (evIfs cf iifs)))
    (he : ∀ (s : Shared) (H : Hp) (C : Addr) (cl : List (Str × Addr)) (fp : List Addr), PE (X.blk s H scope (compEnvC scope cl C X.env) fp) elt (rd ad X W0 (RelP ad X.K) (evE cf ie))) (hs : ∀ x, foldedSetIterable iter X.env x = pure x) :
    PE X (.ListComp elt [⟨tg, iter, ifs, 0⟩] scope pos) (rd ad X W (RelP ad X.K) (evE cf (.comp ie it src iifs (own.map (·.2))))) := (pe_lc hc hN hi ok hg ht he hs).imp fun σ H Q hq => rd_comp hn hsl hq
end
end Y
end
section
set_option Elab.async false
set_option linter.all false
set_option maxRecDepth 100000
set_option maxHeartbeats 2000000
set_option autoImplicit false
/-! Y9: statements. -/
namespace Y
open PySem L2
variable {ad : Ad} {K : PySem.W.Frag} {G G' G1 G2 H H' H1 H2 : Hp}
/-- the slots pr stand as at the start -/
structure Keep (pr : List Nat) (σ0 σ : St) : Prop where
  len : σ.length = σ0.length
  at_ : ∀ j ∈ pr, σ[j]? = σ0[j]?
theorem Keep.refl (pr : List Nat) (σ : St) : Keep pr σ σ := ⟨rfl, fun _ _ => rfl⟩
theorem Keep.touch {pr js : List Nat} {σ0 σ σ' : St} (k : Keep pr σ0 σ) (t : Touch js σ σ') (h : ∀ j ∈ js, j ∉ pr) : Keep pr σ0 σ' :=
  ⟨t.len.trans k.len, fun j hj => (t.out j fun z => h j z hj).trans (k.at_ j hj)⟩
theorem Keep.set {pr : List Nat} {σ0 σ : St} (k : Keep pr σ0 σ) {i : Nat} {x : Option V} (h : i ∉ pr) : Keep pr σ0 (σ.set i x) := k.touch Touch.set (by simpa using h)
structure Pt where
  pr : List Nat
  σ0 : St
abbrev Pt.kp (P : Pt) (σ : St) : Prop := Keep P.pr P.σ0 σ
/-- what is wanted behind a statement's result -/
def AftS (ad : Ad) (K : PySem.W.Frag) (W : WX) (P : Pt) (D : Ends) (G : Hp) (c : List Cell) (H : Hp) : Res Fl → Prop
  | .ok .nx ρ => ∀ σ' H' G' c', P.kp σ' → Step G c H G' c' H' → Slots ad K G' ρ σ' c' → Hold G' c' H' → D.nx σ' H'
  | .ok .bk ρ => ∀ σ' H' G' c', P.kp σ' → Step G c H G' c' H' → Slots ad K G' ρ σ' c' → Hold G' c' H' → D.bk σ' H'
  | .ok .ct ρ => ∀ σ' H' G' c', P.kp σ' → Step G c H G' c' H' → Slots ad K G' ρ σ' c' → Hold G' c' H' → D.ct σ' H'
  | .ok (.rt p) ρ => ∀ v σ' H' G' c' t, P.kp σ' → Step G c H G' (c' ++ t) H' → Slots ad K G' ρ σ' c' → Hold G' (c' ++ t) H' → Rep ad K G' p v t → D.rt v H'
  | .ex x ρ => ∀ d σ' H' G' c', P.kp σ' → Step G c H G' c' H' → Slots ad K G' ρ σ' c' → Hold G' c' H' → XRep ad K G' x d → W (.ref (ad x.cls)) (some d) σ' H'
  | .bad => False
def rdS (ad : Ad) (X : Cx) (W : WX) (P : Pt) (m : Fr → Res Fl) : TS := fun D σ H => ∃ ρ G c, P.kp σ ∧ Slots ad X.K G ρ σ c ∧ Hold G c H ∧ AftS ad X.K W P D G c H (m ρ)
section
variable {X : Cx} {W : WX} {P : Pt} {cf : Cf} {pos : Pos} {D : Ends}
theorem AftS.go {r : Res Fl} {c c1 : List Cell} (h : AftS ad K W P D G c H r) (s : Step G c H G1 c1 H1) (h1 : Hold G1 c1 H1) : AftS ad K W P D G1 c1 H1 r := by
  cases r with
  | ok f ρ =>
    cases f with
    | nx => exact fun σ' H' G' c' kp s2 sl hh => h σ' H' G' c' kp (s.trans s2 h1) sl hh
    | bk => exact fun σ' H' G' c' kp s2 sl hh => h σ' H' G' c' kp (s.trans s2 h1) sl hh
    | ct => exact fun σ' H' G' c' kp s2 sl hh => h σ' H' G' c' kp (s.trans s2 h1) sl hh
    | rt p => exact fun v σ' H' G' c' t kp s2 sl hh => h v σ' H' G' c' t kp (s.trans s2 h1) sl hh
  | ex x ρ => exact fun d σ' H' G' c' kp s2 sl hh => h d σ' H' G' c' kp (s.trans s2 h1) sl hh
  | bad => exact h
theorem AftS.go0 {r : Res Fl} {c c1 : List Cell} (h : AftS ad K W P D G c H r) (s : Step G c H G1 (c1 ++ []) H1) (h1 : Hold G1 (c1 ++ []) H1) : AftS ad K W P D G1 c1 H1 r := by
  rw [List.append_nil] at s h1
  exact h.go s h1
/-- an expression ahead of what the statement does -/
theorem AftS.seq {α β : Type} {R : RRel α β} {σ : St} {c : List Cell} {r : Res α} {f : α → Fr → Res Fl} {Q : β → Hp → Prop} (hp : P.kp σ) (h : AftS ad K W P D G c H (r.bind f))
    (k : ∀ a ρ v H1 G1 c1 t, Step G c H G1 (c1 ++ t) H1 → Slots ad K G1 ρ σ c1 → Hold G1 (c1 ++ t) H1 → R σ G1 a v t → AftS ad K W P D G c H (f a ρ) → Q v H1) : Aft ad K W σ R G c H Q r := by
  cases r with
  | ok a ρ => exact fun v H' G' c' t s sl hh hr => k a ρ v H' G' c' t s sl hh hr h
  | ex x ρ => exact fun d H' G' c' s sl hh hx => h d σ H' G' c' hp s sl hh hx
  | bad => exact h
theorem AftS.nx {σ : St} {c : List Cell} {ρ : Fr} (h : AftS ad K W P D G c H (.ok .nx ρ)) (hp : P.kp σ) (sl : Slots ad K G ρ σ c) (hh : Hold G c H) : D.nx σ H := h σ H G c hp Step.refl sl hh
theorem _root_.L2.PS.imp {e : Stmt} {t t' : TS} (h : PS X e t) (i : ∀ D σ H, t' D σ H → t D σ H) : PS X e t' := ⟨fun pins s σ H D I hw => h.run pins s σ H D I (i D σ H hw)⟩
theorem _root_.L2.PSs.imp {e : List Stmt} {t t' : TS} (h : PSs X e t) (i : ∀ D σ H, t' D σ H → t D σ H) : PSs X e t' := ⟨fun pins s σ H D I hw => h.run pins s σ H D I (i D σ H hw)⟩
abbrev SS (ad : Ad) (X : Cx) (W : WX) (P : Pt) (st : Stmt) (m : Fr → Res Fl) : Prop := PS X st (rdS ad X W P m)
abbrev SB (ad : Ad) (X : Cx) (W : WX) (P : Pt) (st : List Stmt) (m : Fr → Res Fl) : Prop := PSs X st (rdS ad X W P m)
/-! ### what a block is made of -/
theorem sb_nil : SB ad X W P [] (evB cf []) := pss_nil.imp fun D σ H ⟨ρ, G, c, kp, sl, hh, h⟩ => by
  simp only [evB] at h
  exact h.nx kp sl hh
theorem aft_seqS {c : List Cell} {r : Res Fl} {f : Fr → Res Fl} (h : AftS ad X.K W P D G c H (match r with
    | .ok .nx ρ1 => f ρ1
    | z => z)) : AftS ad X.K W P { D with nx := rdS ad X W P f D } G c H r := by
  cases r with
  | ok g ρ =>
    cases g with
    | nx => exact fun σ' H' G' c' kp s sl hh => ⟨ρ, G', c', kp, sl, hh, h.go s hh⟩
    | bk => exact h
    | ct => exact h
    | rt p => exact h
  | ex x ρ => exact h
  | bad => exact h
theorem sb_cons {st : Stmt} {rest : List Stmt} {s : IS} {r : List IS} (h1 : SS ad X W P st (evS cf s)) (h2 : SB ad X W P rest (evB cf r)) : SB ad X W P (st :: rest) (evB cf (s :: r)) := (pss_cons h1 h2).imp fun D σ H ⟨ρ, G, c, kp, sl, hh, h⟩ => by
  simp only [evB] at h
  exact ⟨ρ, G, c, kp, sl, hh, aft_seqS h⟩
theorem ss_pass : SS ad X W P (.Pass pos) (evS cf .pas) := ps_pass.imp fun D σ H ⟨ρ, G, c, kp, sl, hh, h⟩ => by
  simp only [evS] at h
  exact h.nx kp sl hh
theorem ss_doc {x : Str} {j : Nat} {pos' : Pos} : SS ad X W P (.Expr (.Constant (.str x) j pos) pos') (evS cf .pas) := ps_doc.imp fun D σ H ⟨ρ, G, c, kp, sl, hh, h⟩ => by
  simp only [evS] at h
  exact h.nx kp sl hh
theorem ss_break : SS ad X W P (.Break pos) (evS cf .brk) := ps_break.imp fun D σ H ⟨ρ, G, c, kp, sl, hh, h⟩ => by
  simp only [evS] at h
  exact h σ H G c kp Step.refl sl hh
theorem ss_continue : SS ad X W P (.Continue pos) (evS cf .cnt) := ps_continue.imp fun D σ H ⟨ρ, G, c, kp, sl, hh, h⟩ => by
  simp only [evS] at h
  exact h σ H G c kp Step.refl sl hh
theorem ss_ret {e : Expr} {ie : IE} (he : SE ad X W e (evE cf ie)) : SS ad X W P (.Return (some e) pos) (evS cf (.ret ie)) := (ps_ret he).imp fun D σ H ⟨ρ, G, c, kp, sl, hh, h⟩ => by
  simp only [evS] at h
  exact ⟨ρ, G, c, sl, hh, h.seq kp fun p ρ1 v H1 G1 c1 t s1 sl1 h1 r1 k1 => k1 v σ H1 G1 c1 t kp s1 sl1 h1 r1⟩
theorem ss_retN : SS ad X W P (.Return none pos) (evS cf .retN) := ps_retN.imp fun D σ H ⟨ρ, G, c, kp, sl, hh, h⟩ => by
  simp only [evS] at h
  exact h .non σ H G c [] kp (toL Step.refl) sl (toH hh) .non
theorem ss_expr {e : Expr} {ie : IE} (he : SE ad X W e (evE cf ie)) (hs : swapsWith e none pos.line X.env = pure false) : SS ad X W P (.Expr e pos) (evS cf (.exp ie)) := (ps_expr he hs).imp fun D σ H ⟨ρ, G, c, kp, sl, hh, h⟩ => by
  simp only [evS] at h
  refine ⟨ρ, G, c, sl, hh, h.seq kp fun p ρ1 v H1 G1 c1 t s1 sl1 h1 r1 k1 => ?_⟩
  exact k1 σ H1 G1 c1 kp (s1.less fun z hz => List.mem_append_left _ hz) sl1 h1.left
/-! ### names are stored -/
/-- a slot is written -/
theorem put_nx {σ : St} {ρ : Fr} {c c1 t : List Cell} {i : Nat} {p : PV} {v : V} (hi : i ∉ P.pr ∧ Free ad i) (hl : i < ρ.length) (h : AftS ad K W P D G c H (.ok .nx (ρ.set i (some p)))) (kp : P.kp σ) (s : Step G c H G1 (c1 ++ t) H1) (sl : Slots ad K G1 ρ σ c1) (hh : Hold G1 (c1 ++ t) H1) (r : Rep ad K G1 p v t) : D.nx (σ.set i (some v)) H1 := by
  obtain ⟨d, c2, sl2, pm⟩ := sl.set hi.2 hl r
  have pm' : (c1 ++ t).Perm (d ++ c2) := (List.perm_append_comm).trans pm
  exact h _ H1 G1 c2 (kp.set hi.1) ((s.perm (List.Perm.refl _) pm').less fun z hz => List.mem_append_right _ hz) sl2 (hh.perm pm').right
theorem aft_set {σ : St} {ρ : Fr} {c c1 t : List Cell} {i : Nat} {p : PV} {v : V} (hi : i ∉ P.pr ∧ Free ad i) (h : AftS ad K W P D G c H (if i < ρ.length then .ok .nx (ρ.set i (some p)) else .bad)) (kp : P.kp σ) (s : Step G c H G1 (c1 ++ t) H1) (sl : Slots ad K G1 ρ σ c1) (hh : Hold G1 (c1 ++ t) H1) (r : Rep ad K G1 p v t) : D.nx (σ.set i (some v)) H1 := by
  split at h
  · rename_i hl
    exact put_nx hi hl h kp s sl hh r
  · exact h.elim
theorem rd_set {i : Nat} {ie : IE} {σ : St} {H : Hp} (hi : i ∉ P.pr ∧ Free ad i) (hq : rdS ad X W P (evS cf (.set i ie)) D σ H) : tAsg (rd ad X W (RelP ad X.K) (evE cf ie)) (gName i) D σ H := by
  obtain ⟨ρ, G, c, kp, sl, hh, h⟩ := hq
  simp only [evS] at h
  exact ⟨ρ, G, c, sl, hh, h.seq kp fun p ρ1 v H1 G1 c1 t s1 sl1 h1 r1 k1 => aft_set hi k1 kp s1 sl1 h1 r1⟩
theorem ss_set {i : Nat} {x : Str} {e : Expr} {ie : IE} {pos' : Pos} (h : PS X (.Assign [.Name x pos'] e pos) (tAsg (rd ad X W (RelP ad X.K) (evE cf ie)) (gName i))) (hi : i ∉ P.pr ∧ Free ad i) : SS ad X W P (.Assign [.Name x pos'] e pos) (evS cf (.set i ie)) := h.imp fun _ _ _ hq => rd_set hi hq
theorem ss_asg {tg e : Expr} {it : IT} {ie : IE} (h : PS X (.Assign [tg] e pos) (tAsg (rd ad X W (RelP ad X.K) (evE cf ie)) (rdG ad X it))) (hi : ∀ j ∈ it.slots, j ∉ P.pr) : SS ad X W P (.Assign [tg] e pos) (evS cf (.asg it ie)) := h.imp fun D σ H ⟨ρ, G, c, kp, sl, hh, h⟩ => by
  simp only [evS] at h
  refine ⟨ρ, G, c, sl, hh, h.seq kp fun p ρ1 v H1 G1 c1 t s1 sl1 h1 r1 k1 => ?_⟩
  cases e : asg it p.frz ρ1 with
  | none => rw [e] at k1; exact k1.elim
  | some ρ2 =>
    rw [e] at k1
    exact ⟨ρ1, addc G1 t, c1, p.frz, ρ2, sl1.mono (addc_sub h1.right), h1.absorb, Rep.absorb h1 r1, e, fun σ' c' sl2 ⟨g, pm⟩ to =>
      k1 σ' H1 _ c' (kp.touch to hi) (((s1.absorb h1).perm (List.Perm.refl _) pm).less fun z hz => List.mem_append_right _ hz) sl2 (h1.absorb.perm pm).right⟩
theorem ss_aug {i : Nat} {x : Str} {e : Expr} {ie : IE} {pos' : Pos} {op : Operator} {f : Int → Int → Int} (h : PS X (.AugAssign (.Name x pos') op e pos) (tAug i (rd ad X W (RelP ad X.K) (evE cf ie)) (ipI f))) (hi : i ∉ P.pr ∧ Free ad i)
    (ho : (op = .Add ∧ f = fun a b => a + b) ∨ (op = .Sub ∧ f = fun a b => a - b)) : SS ad X W P (.AugAssign (.Name x pos') op e pos) (evS cf (.aug i op ie)) := h.imp fun D σ H ⟨ρ, G, c, kp, sl, hh, h⟩ => by
  simp only [evS] at h
  cases e0 : ρ.at i with
  | none => rw [e0] at h; exact h.elim
  | some q =>
    rw [e0] at h
    obtain ⟨v, d, r, e1, e2, e3, e4⟩ := sl.out e0
    refine ⟨v, e1, ρ, G, c, sl, hh, AftS.seq kp h fun p ρ1 w H1 G1 c1 t s1 sl1 h1 r1 k1 => ?_⟩
    have r1' : Rep ad X.K G1 p w t := r1
    cases q with
    | int a =>
      cases p with
      | int b =>
        cases e2
        cases r1'
        have hl : i < ρ1.length := by
          rw [sl1.length]
          exact (List.getElem?_eq_some_iff.mp e1).1
        rcases ho with ⟨rfl, rfl⟩ | ⟨rfl, rfl⟩
        · exact ⟨a, b, rfl, rfl, put_nx (p := .int (a + b)) hi hl k1 kp s1 sl1 h1 (.int _)⟩
        · exact ⟨a, b, rfl, rfl, put_nx (p := .int (a - b)) hi hl k1 kp s1 sl1 h1 (.int _)⟩
      | _ => exact k1.elim
    | _ => exact k1.elim
/-! ### if, while, for -/
theorem ss_if {t : Expr} {a b : List Stmt} {it : IE} {ia ib : List IS} (ht : ST ad X W t (evT cf it (evE cf it))) (ha : SB ad X W P a (evB cf ia)) (hb : SB ad X W P b (evB cf ib)) : SS ad X W P (.If t a b pos) (evS cf (.ife it ia ib)) := (ps_if ht ha hb).imp fun D σ H ⟨ρ, G, c, kp, sl, hh, h⟩ => by
  simp only [evS] at h
  refine ⟨ρ, G, c, sl, hh, AftS.seq (R := RelB) kp h fun k ρ1 k' H1 G1 c1 t s1 sl1 h1 ⟨et, ek⟩ k1 => ?_⟩
  subst et
  subst ek
  have k2 := k1.go0 s1 h1
  cases k with
  | true =>
    rw [if_pos rfl] at k2 ⊢
    exact ⟨ρ1, G1, c1, kp, sl1, nilH h1, k2⟩
  | false =>
    rw [if_neg Bool.false_ne_true] at k2 ⊢
    exact ⟨ρ1, G1, c1, kp, sl1, nilH h1, k2⟩
/-- the loop's end as its body's next turn -/
theorem aft_turn {c : List Cell} {r : Res Fl} {f : Fr → Res Fl} {N : St → Hp → Prop} (h : AftS ad K W P D G c H (match r with
    | .ok .nx ρ1 => f ρ1
    | .ok .ct ρ1 => f ρ1
    | .ok .bk ρ1 => .ok .nx ρ1
    | z => z)) (hN : ∀ σ' H' G' c' ρ', P.kp σ' → Step G c H G' c' H' → Slots ad K G' ρ' σ' c' → Hold G' c' H' → AftS ad K W P D G c H (f ρ') → N σ' H') : AftS ad K W P { D with nx := N, ct := N, bk := D.nx } G c H r := by
  cases r with
  | ok g ρ =>
    cases g with
    | nx => exact fun σ' H' G' c' kp s sl hh => hN σ' H' G' c' ρ kp s sl hh h
    | ct => exact fun σ' H' G' c' kp s sl hh => hN σ' H' G' c' ρ kp s sl hh h
    | bk => exact h
    | rt p => exact h
  | ex x ρ => exact h
  | bad => exact h
theorem ss_while {t : Expr} {body : List Stmt} {it : IE} {ib : List IS} (hp : PassesOwn (model X.prog X.w) X.A X.env X.xe) (ht : ST ad X W t (evT cf it (evE cf it))) (hb : SB ad X W P body (evB cf ib)) : SS ad X W P (.While t body [] pos) (evS cf (.whl it ib)) := (ps_while hp ht hb).imp fun D σ H h => by
  refine ⟨fun m => rdS ad X W P (whlL (evT cf it (evE cf it)) (evB cf ib) m) D, ⟨cf.fuel, ?_⟩, ?_⟩
  · obtain ⟨ρ, G, c, kp, sl, hh, h⟩ := h
    simp only [evS] at h
    exact ⟨ρ, G, c, kp, sl, hh, h⟩
  rintro m σ' H' ⟨ρ', G', c', kp', sl', hh', a⟩
  cases m with
  | zero => exact a.elim
  | succ n =>
    simp only [whlL] at a
    refine ⟨ρ', G', c', sl', hh', AftS.seq (R := RelB) kp' a fun k ρ1 k' H1 G1 c1 t s1 sl1 h1 ⟨et, ek⟩ k1 => ?_⟩
    subst et
    subst ek
    have s1' := nilL s1
    have h1' := nilH h1
    have k2 := k1.go s1' h1'
    cases k with
    | false =>
      rw [if_neg Bool.false_ne_true] at k2 ⊢
      exact k2.nx kp' sl1 h1'
    | true =>
      rw [if_pos rfl] at k2 ⊢
      exact ⟨rdS ad X W P (whlL (evT cf it (evE cf it)) (evB cf ib) n) D, fun σ2 H2 hw => ⟨n, Nat.lt_succ_self n, hw⟩, ρ1, G1, c1, kp', sl1, h1', aft_turn k2 fun σ2 H2 G2 c2 ρ2 kp2 s2 sl2 h2 a2 => ⟨ρ2, G2, c2, kp2, sl2, h2, a2.go s2 h2⟩⟩
def turnF (cf : Cf) (tg : IT) (body : List IS) : PV → Fr → Res Fl := fun x ρ => match asg tg x ρ with
  | some ρ2 => evB cf body ρ2
  | none => .bad
theorem ss_for {tg iter : Expr} {body : List Stmt} {it : IT} {src : ISrc} {ib : List IS} (hp : PassesOwn (model X.prog X.w) X.A X.env X.xe) (hc : X.calm = true) (hi : SI ad X W tg iter (evSrc cf src)) (hg : PG X tg (rdG ad X it)) (hb : SB ad X W P body (evB cf ib)) (hs : ∀ x, foldedSetIterable iter X.env x = pure x)
    (hj : ∀ j ∈ it.slots, j ∉ P.pr) : SS ad X W P (.For tg iter body [] pos) (evS cf (.fors it src ib)) := (ps_for hp hc hi hg hb hs).imp fun D σ H ⟨ρ, G, c, kp, sl, hh, h⟩ => by
  simp only [evS] at h
  change AftS ad X.K W P D G c H ((evSrc cf src ρ).bind fun xs ρ1 => forL (turnF cf it ib) xs ρ1) at h
  refine ⟨ρ, G, c, sl, hh, AftS.seq (R := RelI ad X.K) kp h fun xs ρ1 J H1 G1 c1 t s1 sl1 h1 ⟨et, hw⟩ k1 => ?_⟩
  subst et
  have h1' := nilH h1
  refine ⟨fun i m σ' H' => m = xs.length - i ∧ i ≤ xs.length ∧ ∃ ρ' G' c', P.kp σ' ∧ Slots ad X.K G' ρ' σ' c' ∧ Hold G' c' H' ∧ Sub G1 G' ∧ AftS ad X.K W P D G' c' H' (forL (turnF cf it ib) (xs.drop i) ρ'), ⟨_, rfl, Nat.zero_le _, ρ1, G1, c1, kp, sl1, h1', Sub.refl _, k1.go0 s1 h1⟩, ?_⟩
  rintro i m σ' H' ⟨rfl, hi, ρ', G', c', kp', sl', hh', sb, a⟩
  have w := hw i H' G' c' sb hh'
  by_cases hlt : i < xs.length
  · obtain ⟨go, yl⟩ := w.1 hlt
    refine .inr ⟨go, fun σ2 H2 => ∃ ρ2 G2 c2, P.kp σ2 ∧ Slots ad X.K G2 ρ2 σ2 c2 ∧ Hold G2 c2 H2 ∧ Sub G1 G2 ∧ AftS ad X.K W P D G2 c2 H2 (forL (turnF cf it ib) (xs.drop (i + 1)) ρ2), fun σ2 H2 hv2 => ⟨_, by omega, rfl, hlt, hv2⟩, fun x H'' hy => ?_⟩
    obtain ⟨G3, p, sp, hp3, ep, rp⟩ := yl x H'' hy
    rw [drop_cons ep] at a
    simp only [forL] at a
    have a3 := a.go sp hp3
    have sl3 := sl'.mono sp.fz
    have sb3 := sb.trans sp.fz
    cases e1 : asg it p ρ' with
    | none =>
      have e : turnF cf it ib p ρ' = .bad := by unfold turnF; rw [e1]
      rw [e] at a3; exact a3.elim
    | some ρ2 =>
      have e : turnF cf it ib p ρ' = evB cf ib ρ2 := by unfold turnF; rw [e1]
      rw [e] at a3
      refine ⟨ρ', G3, c', p, ρ2, sl3, hp3, rp, e1, fun σ2 c2 sl2 ⟨g, pm⟩ to => ?_⟩
      have hh2 := (hp3.perm pm).right
      have st2 : Step G3 c' H'' G3 c2 H'' := ((Step.refl (c := c')).perm (List.Perm.refl _) pm).less fun z hz => List.mem_append_right _ hz
      refine ⟨ρ2, G3, c2, kp'.touch to hj, sl2, hh2, aft_turn (a3.go st2 hh2) fun σ4 H4 G4 c4 ρ4 kp4 s4 sl4 h4 a4 => ⟨ρ4, G4, c4, kp4, sl4, h4, sb3.trans s4.fz, a4.go s4 h4⟩⟩
  · have e : i = xs.length := by omega
    subst e
    rw [List.drop_length] at a
    simp only [forL] at a
    exact .inl ⟨w.2 (Nat.le_refl _), a.nx kp' sl' hh'⟩
end
end Y
end
section
set_option Elab.async false
set_option linter.all false
set_option maxRecDepth 100000
set_option maxHeartbeats 2000000
set_option autoImplicit false
/-! Y9v: the list in a slot is walked as it stands at each turn. -/
namespace Y
open PySem L2
variable {ad : Ad} {K : PySem.W.Frag} {G G' G1 G2 H H' H1 H2 : Hp}
theorem view_lst {ρ : Fr} {σ : St} {c : List Cell} {i : Nat} {o : Bool} {xs : List PV} (sl : Slots ad K G ρ σ c) (hh : Hold G c H) (e : ρ.at i = some (.lst o xs)) : ∃ a vs d, σ[i]? = some (some (.ref a)) ∧ SqL K H a vs ∧ RepL ad K G xs vs d := by
  obtain ⟨v, d, r, e1, e2, e3, e4⟩ := sl.out e
  have vw : Vw ad K G c (.lst o xs) v := ⟨d, e2, fun z hz => e4.symm.mem_iff.mp (List.mem_append_left _ hz)⟩
  obtain ⟨a, vs, d', rfl, h1, h2, _⟩ := vw.lst hh
  exact ⟨a, vs, d', e1, .of h1, h2⟩
theorem view_len {ρ : Fr} {σ : St} {c : List Cell} {i n : Nat} {a : Addr} (sl : Slots ad K G ρ σ c) (hh : Hold G c H) (hσ : σ[i]? = some (some (.ref a))) (e : vwLen ρ i n = true) : ∃ vs, SqL K H a vs ∧ vs.length = n := by
  unfold vwLen at e
  split at e
  · rename_i o xs e1
    obtain ⟨a', vs, d, h1, h2, h3⟩ := view_lst sl hh e1
    rw [hσ] at h1
    cases h1
    exact ⟨vs, h2, by rw [← h3.length]; exact of_decide_eq_true e⟩
  · cases e
theorem view_at {ρ : Fr} {σ : St} {c : List Cell} {i n j : Nat} {a : Addr} {x : PV} (sl : Slots ad K G ρ σ c) (hh : Hold G c H) (hσ : σ[i]? = some (some (.ref a))) (e : vwAt ρ i n j = some x) : ∃ vs v, SqL K H a vs ∧ vs[j]? = some v ∧ Rep ad K G x v [] := by
  unfold vwAt at e
  split at e
  · rename_i o xs e1
    split at e
    · split at e
      · rename_i y e2
        split at e
        · rename_i hf
          cases e
          obtain ⟨a', vs, d, h1, h2, h3⟩ := view_lst sl hh e1
          rw [hσ] at h1
          cases h1
          obtain ⟨w, d2, q1, q2, _⟩ := h3.get e2
          have := q2.nocell hf
          subst this
          exact ⟨vs, w, h2, q1, q2⟩
        · cases e
      · cases e
    · cases e
  · cases e
theorem len_start {ρ : Fr} {σ : St} {c : List Cell} {i n : Nat} (sl : Slots ad K G ρ σ c) (hh : Hold G c H) (e : lenAt ρ i = some n) : ∃ a vs, σ[i]? = some (some (.ref a)) ∧ SqL K H a vs := by
  unfold lenAt at e
  split at e
  · rename_i o xs e1
    obtain ⟨a, vs, d, h1, h2, _⟩ := view_lst sl hh e1
    exact ⟨a, vs, h1, h2⟩
  · cases e
theorem stepV {turn : PV → Fr → Res (Option PV)} {own : List Nat} {ρf : Fr} {i n k : Nat} {p : PV} {ρ : Fr} {acc : List PV} (e : vwAt ρ i n (n - (k + 1)) = some p) : endC ρf own (compV turn own i n (k + 1) ρ acc) = stepC turn own (fun ρ acc => endC ρf own (compV turn own i n k ρ acc)) p ρ acc := by
  simp only [compV, stepC, e]
  cases e : turn p ρ with
  | bad => rfl
  | ex x ρ1 => rfl
  | ok y ρ1 =>
    cases y with
    | none => rfl
    | some y =>
      dsimp only
      split <;> rfl
section
variable {X : Cx} {W : WX} {P : Pt} {cf : Cf} {pos : Pos} {D : Ends}
theorem rd_compv {σ : St} {H : Hp} {Q : VK} {own : List Nat} {ie : IE} {it : IT} {i : Nat} {iifs : List IE} (hn : ad.cur = none) (hsl : ∀ j ∈ it.slots, j ∈ own) (hq : rd ad X W (RelP ad X.K) (evE cf (.compv ie it i iifs own)) σ H Q) :
    tLc (iList X.K (tVar i)) (rdG ad X it) (rd ad X W0 RelB (evIfs cf iifs)) (rd ad X W0 (RelP ad X.K) (evE cf ie)) own σ H Q := by
  obtain ⟨ρ, G, c, sl, hh, h⟩ := hq
  simp only [evE] at h
  cases en : lenAt ρ i with
  | none => rw [en] at h; exact h.elim
  | some n =>
    cases eo : own.contains i with
    | true => rw [en, eo] at h; exact h.elim
    | false =>
      rw [en, eo] at h
      change Aft ad X.K W σ (RelP ad X.K) G c H Q (endC (frzAt ρ own) own (compV (turnC cf ie it iifs) own i n n (wipeF (frzAt ρ own) own) [])) at h
      have hi : i ∉ own := fun z => by rw [List.contains_iff_mem.mpr z] at eo; cases eo
      obtain ⟨a, vs0, hσ, hs0⟩ := len_start sl hh en
      refine ⟨_, hσ, a, rfl, ⟨vs0, hs0⟩, fun D hD => ?_⟩
      obtain ⟨G2, c2, st2, h2, sl2⟩ := sl.freeze hh own
      have k3 := h.go st2 h2
      obtain ⟨g, c3, sl3, p3⟩ := sl2.wipe hn own
      obtain ⟨n1, n2⟩ := h2.newO hD (.lst [])
      have pm : (c2 ++ [(D, HO.lst [])]).Perm (g ++ (c3 ++ [(D, HO.lst [])])) := by
        rw [← List.append_assoc]
        exact p3.append_right _
      have hw : (L2.wipe σ own)[i]? = some (some (.ref a)) := by rw [wipe_out hi]; exact hσ
      refine ⟨fun j m H' => m = n - j ∧ j ≤ n ∧ InvC ad X.K W σ G2 c2 H Q D own (fun ρ' acc => endC (frzAt ρ own) own (compV (turnC cf ie it iifs) own i n (n - j) ρ' acc)) H', ⟨_, rfl, Nat.zero_le _, ⟨_, G2, c3, [], [], [], sl3, .nil, (n1.perm pm).right, (n2.perm (List.Perm.refl _) pm).less fun z hz => List.mem_append_right _ hz, k3⟩⟩, ?_⟩
      rintro j m H' ⟨rfl, hj, hv⟩
      have hv' := hv
      obtain ⟨ρ', G', c', t, acc, accV, sl', r', hh', st', a'⟩ := hv'
      by_cases hlt : j < n
      · obtain ⟨k, hk⟩ : ∃ k, n - j = k + 1 := ⟨n - j - 1, by omega⟩
        have hjk : n - (k + 1) = j := by omega
        have hk2 : n - (j + 1) = k := by omega
        rw [hk] at a'
        cases ev : vwAt ρ' i n (n - (k + 1)) with
        | none =>
          simp only [compV, ev] at a'
          exact a'.elim
        | some p =>
          rw [stepV ev] at a'
          rw [hjk] at ev
          obtain ⟨vs, v, q1, q2, q3⟩ := view_at sl' hh'.left hw ev
          refine .inr ⟨⟨vs, v, q1, q2⟩, fun H'' => InvC ad X.K W σ G2 c2 H Q D own (fun ρ' acc => endC (frzAt ρ own) own (compV (turnC cf ie it iifs) own i n (n - (j + 1)) ρ' acc)) H'', fun H'' hv2 => ⟨_, by omega, rfl, hlt, hv2⟩, fun x H'' hy => ?_⟩
          obtain ⟨eh, hx⟩ := hy
          subst eh
          have hx2 := hx vs q1
          rw [q2] at hx2
          cases hx2
          rw [hk2]
          exact turn_C hn hsl sl' r' hh' st' a' q3
      · have e : j = n := by omega
        subst e
        rw [Nat.sub_self] at hv a'
        simp only [compV] at a'
        by_cases hl : vwLen ρ' i j = true
        · obtain ⟨vs, q1, q2⟩ := view_len sl' hh'.left hw hl
          refine .inl ⟨⟨vs, q1, by omega⟩, stop_C hn hv (fun ρ' acc => ?_) sl2 fun i hi p e => frzAt_fz hi e⟩
          simp only [compV]
          split
          · exact .inl rfl
          · exact .inr rfl
        · rw [if_neg hl] at a'
          exact a'.elim
theorem AftS.keep {P P' : Pt} {r : Res Fl} {c : List Cell} (hk : ∀ σ', P'.kp σ' → P.kp σ') (h : AftS ad K W P D G c H r) : AftS ad K W P' D G c H r := by
  cases r with
  | ok f ρ =>
    cases f with
    | nx => exact fun σ' H' G' c' kp s2 sl hh => h σ' H' G' c' (hk _ kp) s2 sl hh
    | bk => exact fun σ' H' G' c' kp s2 sl hh => h σ' H' G' c' (hk _ kp) s2 sl hh
    | ct => exact fun σ' H' G' c' kp s2 sl hh => h σ' H' G' c' (hk _ kp) s2 sl hh
    | rt p => exact fun v σ' H' G' c' t kp s2 sl hh => h v σ' H' G' c' t (hk _ kp) s2 sl hh
  | ex x ρ => exact fun d σ' H' G' c' kp s2 sl hh => h d σ' H' G' c' (hk _ kp) s2 sl hh
  | bad => exact h
theorem ss_forv {x : Str} {p0 : Pos} {tg : Expr} {body : List Stmt} {it : IT} {i : Nat} {ib : List IS} (hp : PassesOwn (model X.prog X.w) X.A X.env X.xe) (hc : X.calm = true) (hx : PE X (.Name x p0) (tVar i)) (hg : PG X tg (rdG ad X it)) (hb : ∀ σ0, SB ad X W ⟨i :: P.pr, σ0⟩ body (evB cf ib))
    (hj : ∀ j ∈ it.slots, j ∉ P.pr) (hj2 : i ∉ it.slots) : SS ad X W P (.For tg (.Name x p0) body [] pos) (evS cf (.forv it i ib)) := by
  have hb' : PSs X body (fun D σ H => ∃ σ0, rdS ad X W ⟨i :: P.pr, σ0⟩ (evB cf ib) D σ H) := ⟨fun pins s σ H D I ⟨σ0, q⟩ => (hb σ0).run pins s σ H D I q⟩
  refine (ps_for hp hc (pi_list hx) hg hb' (fun _ => rfl)).imp fun D σ H ⟨ρ, G, c, kp, sl, hh, h⟩ => ?_
  simp only [evS] at h
  cases en : lenAt ρ i with
  | none => rw [en] at h; exact h.elim
  | some n =>
    rw [en] at h
    change AftS ad X.K W P D G c H (forV (turnF cf it ib) i n n ρ) at h
    obtain ⟨a, vs0, hσ, hs0⟩ := len_start sl hh en
    refine ⟨_, hσ, a, rfl, ⟨vs0, hs0⟩, ?_⟩
    have hk : ∀ σ', (Pt.mk (i :: P.pr) σ).kp σ' → P.kp σ' := fun σ' k => ⟨k.len.trans kp.len, fun j hj => (k.at_ j (List.mem_cons_of_mem _ hj)).trans (kp.at_ j hj)⟩
    refine ⟨fun j m σ' H' => m = n - j ∧ j ≤ n ∧ ∃ ρ' G' c', (Pt.mk (i :: P.pr) σ).kp σ' ∧ Slots ad X.K G' ρ' σ' c' ∧ Hold G' c' H' ∧ AftS ad X.K W ⟨i :: P.pr, σ⟩ D G' c' H' (forV (turnF cf it ib) i n (n - j) ρ'), ⟨_, rfl, Nat.zero_le _, ρ, G, c, Keep.refl _ _, sl, hh, h.keep hk⟩, ?_⟩
    rintro j m σ' H' ⟨rfl, hjn, ρ', G', c', kp', sl', hh', a'⟩
    have hw : σ'[i]? = some (some (.ref a)) := by rw [kp'.at_ i List.mem_cons_self]; exact hσ
    by_cases hlt : j < n
    · obtain ⟨k, hk1⟩ : ∃ k, n - j = k + 1 := ⟨n - j - 1, by omega⟩
      have hjk : n - (k + 1) = j := by omega
      have hk2 : n - (j + 1) = k := by omega
      rw [hk1] at a'
      simp only [forV] at a'
      rw [hjk] at a'
      cases ev : vwAt ρ' i n j with
      | none => rw [ev] at a'; exact a'.elim
      | some p =>
        rw [ev] at a'
        obtain ⟨vs, v, q1, q2, q3⟩ := view_at sl' hh' hw ev
        refine .inr ⟨⟨vs, v, q1, q2⟩, fun σ2 H2 => ∃ ρ2 G2 c2, (Pt.mk (i :: P.pr) σ).kp σ2 ∧ Slots ad X.K G2 ρ2 σ2 c2 ∧ Hold G2 c2 H2 ∧ AftS ad X.K W ⟨i :: P.pr, σ⟩ D G2 c2 H2 (forV (turnF cf it ib) i n (n - (j + 1)) ρ2), fun σ2 H2 hv2 => ⟨_, by omega, rfl, hlt, hv2⟩, fun y H'' hy => ?_⟩
        obtain ⟨eh, hx'⟩ := hy
        subst eh
        have hx2 := hx' vs q1
        rw [q2] at hx2
        cases hx2
        cases e1 : asg it p ρ' with
        | none =>
          have e : turnF cf it ib p ρ' = .bad := by unfold turnF; rw [e1]
          dsimp only at a'
          rw [e] at a'; exact a'.elim
        | some ρ2 =>
          have e : turnF cf it ib p ρ' = evB cf ib ρ2 := by unfold turnF; rw [e1]
          dsimp only at a'
          rw [e] at a'
          refine ⟨ρ', G', c', p, ρ2, sl', hh', q3, e1, fun σ2 c2 sl2 ⟨g, pm⟩ to => ⟨σ, ?_⟩⟩
          have hh2 := (hh'.perm pm).right
          have st2 : Step G' c' H'' G' c2 H'' := ((Step.refl (c := c')).perm (List.Perm.refl _) pm).less fun z hz => List.mem_append_right _ hz
          have kp2 : (Pt.mk (i :: P.pr) σ).kp σ2 := kp'.touch to fun l hl z => by
            rcases List.mem_cons.mp z with z | z
            · subst z; exact hj2 hl
            · exact hj l hl z
          exact ⟨ρ2, G', c2, kp2, sl2, hh2, aft_turn (a'.go st2 hh2) fun σ4 H4 G4 c4 ρ4 kp4 s4 sl4 h4 a4 => ⟨ρ4, G4, c4, kp4, sl4, h4, by rw [hk2]; exact a4.go s4 h4⟩⟩
    · have e : j = n := by omega
      subst e
      rw [Nat.sub_self] at a'
      simp only [forV] at a'
      by_cases hl : vwLen ρ' i j = true
      · rw [if_pos hl] at a'
        obtain ⟨vs, q1, q2⟩ := view_len sl' hh' hw hl
        exact .inl ⟨⟨vs, q1, by omega⟩, a'.nx kp' sl' hh'⟩
      · rw [if_neg hl] at a'
        exact a'.elim
end
end Y
end
section
set_option Elab.async false
set_option linter.all false
set_option maxRecDepth 100000
set_option maxHeartbeats 2000000
set_option autoImplicit false
/-! Y10: statements that write: append, extend, an item, several names at once. -/
namespace Y
open PySem L2
variable {ad : Ad} {K : PySem.W.Frag} {G G' G1 G2 H H' H1 H2 : Hp}
theorem RepL.setG : ∀ (i : Nat) {p : List PV} {v : List V} {c : List Cell} {x : PV} {w : V}, RepL ad K G p v c → Rep ad K G x w [] → ∃ g d, RepL ad K G (p.set i x) (v.set i w) d ∧ c.Perm (g ++ d)
  | _, _, _, _, _, _, .nil, _ => ⟨[], [], .nil, List.Perm.refl _⟩
  | 0, _, _, _, _, _, .cons (c := c) (cs := cs) r t, q => ⟨c, cs, by simpa using RepL.cons (c := []) q t, List.Perm.refl _⟩
  | i + 1, _, _, _, _, _, .cons (c := c) (cs := cs) r t, q => by
    obtain ⟨g, d, h, e⟩ := RepL.setG i t q
    refine ⟨g, c ++ d, .cons r h, ?_⟩
    refine (e.append_left c).trans ?_
    rw [← List.append_assoc, ← List.append_assoc]
    exact List.perm_append_comm.append_right d
/-- a list that is held alone in a slot is written -/
theorem write_slot {σ : St} {ρ : Fr} {c : List Cell} {i : Nat} {xs : List PV} (sl : Slots ad K G ρ σ c) (hh : Hold G c H) (e : ρ.at i = some (.lst true xs)) :
    ∃ l vs d, σ[i]? = some (some (.ref l)) ∧ H l = some (.lst vs) ∧ RepL ad K G xs vs d ∧ ∀ ys ws d2 g, RepL ad K G ys ws d2 → d.Perm (g ++ d2) →
      ∃ c2, Slots ad K G (ρ.set i (some (.lst true ys))) σ c2 ∧ Hold G c2 (upd H l (.lst ws)) ∧ Step G c H G c2 (upd H l (.lst ws)) := by
  obtain ⟨v, d, r, e1, e2, e3, e4⟩ := sl.out e
  cases e2 with
  | @lstO l _ vs cs r1 =>
    have hc : c.Perm ((l, HO.lst vs) :: (cs ++ r)) := e4
    have h1 := hh.perm hc
    refine ⟨l, vs, cs, e1, h1.at_ (l, HO.lst vs) List.mem_cons_self, r1, fun ys ws d2 g r2 pm => ?_⟩
    obtain ⟨w1, w2⟩ := h1.write (.lst ws)
    obtain ⟨c2, s2, p2⟩ := e3.tell (i := i) at_set_none (by simpa using at_lt e) e1 (.lstO r2 : Rep ad K G (.lst true ys) (.ref l) ((l, .lst ws) :: d2))
    rw [set_set_none] at s2
    have pm2 : ((l, HO.lst ws) :: (cs ++ r)).Perm (g ++ c2) := by
      refine List.Perm.trans ?_ (p2.symm.append_left g)
      refine List.Perm.trans (List.Perm.cons _ (pm.append_right r)) ?_
      rw [List.append_assoc]
      exact List.perm_middle.symm
    refine ⟨c2, s2, (w1.perm pm2).right, ?_⟩
    have st : Step G c H G ((l, HO.lst ws) :: (cs ++ r)) (upd H l (.lst ws)) := w2.perm hc.symm (List.Perm.refl _)
    exact (st.perm (List.Perm.refl _) pm2).less fun z hz => List.mem_append_right _ hz
section
variable {X : Cx} {W : WX} {P : Pt} {cf : Cf} {pos : Pos} {D : Ends}
/-- the slot's list, as a type -/
theorem isLst_ty {σ : St} {ρ : Fr} {c : List Cell} {i : Nat} (sl : Slots ad K G ρ σ c) (hh : Hold G c H) (e : isLst (ρ.at i) = true) : ∃ v, σ[i]? = some (some v) ∧ tyV K "list" v H := by
  cases e0 : ρ.at i with
  | none => rw [e0] at e; cases e
  | some p =>
    rw [e0] at e
    cases p with
    | lst o xs =>
      obtain ⟨v, d, r, e1, e2, e3, e4⟩ := sl.out e0
      refine ⟨v, e1, ?_⟩
      have vw : Vw ad K G c (.lst o xs) v := ⟨d, e2, fun z hz => e4.symm.mem_iff.mp (List.mem_append_left _ hz)⟩
      obtain ⟨a, vs, d', rfl, h1, _, _⟩ := vw.lst hh
      exact .inl ⟨rfl, vs, .of h1⟩
    | _ => cases e
theorem rd_app {i : Nat} {ie : IE} {σ : St} {H : Hp} (hq : rdS ad X W P (evS cf (.app i ie)) D σ H) : tDrop (tBM X.K "list" rAppend (tVar i) (tCons (rd ad X W (RelP ad X.K) (evE cf ie)) tNil)) D σ H := by
  obtain ⟨ρ, G, c, kp, sl, hh, h⟩ := hq
  simp only [evS] at h
  split at h
  case isFalse => exact h.elim
  rename_i ty
  obtain ⟨v, e1, tv⟩ := isLst_ty sl hh ty
  refine ⟨v, e1, tv, ρ, G, c, sl, hh, AftS.seq kp h fun p ρ1 w H1 G1 c1 t s1 sl1 h1 r1 k1 => ?_⟩
  cases e : ρ1.at i with
  | none => rw [e] at k1; exact k1.elim
  | some q =>
    rw [e] at k1
    cases q with
    | lst o xs =>
      cases o with
      | false => exact k1.elim
      | true =>
        dsimp only at k1
        split at k1
        case isFalse => exact k1.elim
        rename_i hl
        have h1' := h1.absorb
        have k2 := k1.go (s1.absorb h1) h1'
        obtain ⟨l, vs, d, f1, f2, f3, f4⟩ := write_slot (sl1.mono (addc_sub h1.right)) h1' e
        rw [e1] at f1
        cases f1
        obtain ⟨c2, q1, q2, q3⟩ := f4 (xs ++ [p.frz]) (vs ++ [w]) d [] (by simpa using f3.append (RepL.cons (c := []) (cs := []) (Rep.absorb h1 r1) .nil)) (List.Perm.refl _)
        exact ⟨l, vs, w, rfl, rfl, f2, by rw [← f3.length]; exact hl, k2 σ _ _ c2 kp q3 q1 q2⟩
    | _ => exact k1.elim
theorem rd_ext {i : Nat} {ie : IE} {σ : St} {H : Hp} (hq : rdS ad X W P (evS cf (.ext i ie)) D σ H) : tDrop (tBM X.K "list" rExtend (tVar i) (tCons (rd ad X W (RelP ad X.K) (evE cf ie)) tNil)) D σ H := by
  obtain ⟨ρ, G, c, kp, sl, hh, h⟩ := hq
  simp only [evS] at h
  split at h
  case isFalse => exact h.elim
  rename_i ty
  obtain ⟨v, e1, tv⟩ := isLst_ty sl hh ty
  refine ⟨v, e1, tv, ρ, G, c, sl, hh, AftS.seq kp h fun p ρ1 w H1 G1 c1 t s1 sl1 h1 r1 k1 => ?_⟩
  cases e : ρ1.at i with
  | none => rw [e] at k1; exact k1.elim
  | some q =>
    rw [e] at k1
    cases q with
    | lst o xs =>
      cases o with
      | false => exact k1.elim
      | true =>
        have h1' := h1.absorb
        have k2 := k1.go (s1.absorb h1) h1'
        have rp := Rep.absorb h1 r1
        have hfz := PV.frz_fz p
        cases ep : p.frz with
        | lst o ys =>
          rw [ep] at k2 rp hfz
          dsimp only at k2
          split at k2
          case isFalse => exact k2.elim
          rename_i hl
          have ho : o = false := by simpa [PV.fz] using (Bool.and_eq_true_iff.mp (show (!o && PV.fzL ys) = true from hfz)).1
          subst ho
          obtain ⟨b, ws, rfl, g1, g2⟩ : ∃ b ws, w = .ref b ∧ addc G1 t b = some (.lst ws) ∧ RepL ad X.K (addc G1 t) ys ws [] := by
            generalize ez : ([] : List Cell) = z at rp
            cases rp with
            | lstF g3 r3 => subst ez; exact ⟨_, _, rfl, g3, r3⟩
          obtain ⟨l, vs, d, f1, f2, f3, f4⟩ := write_slot (sl1.mono (addc_sub h1.right)) h1' e
          rw [e1] at f1
          cases f1
          obtain ⟨c2, q1, q2, q3⟩ := f4 (xs ++ ys) (vs ++ ws) d [] (by simpa using f3.append g2) (List.Perm.refl _)
          have hb := h1'.fz _ _ g1
          exact ⟨l, b, vs, ws, rfl, rfl, f2, hb, by rw [← f3.length, ← g2.length]; exact hl, k2 σ _ _ c2 kp q3 q1 q2⟩
        | _ => rw [ep] at k2; exact k2.elim
    | _ => exact k1.elim
theorem rd_sub {i : Nat} {ix ie : IE} {σ : St} {H : Hp} (hq : rdS ad X W P (evS cf (.sub i ix ie)) D σ H) : tAsg (rd ad X W (RelP ad X.K) (evE cf ie)) (gSub (tVar i) (rd ad X W (RelO ad X.K) (opnd ix (evE cf ix))) rSetL) D σ H := by
  obtain ⟨ρ, G, c, kp, sl, hh, h⟩ := hq
  simp only [evS] at h
  refine ⟨ρ, G, c, sl, hh, h.seq kp fun p ρ1 w H1 G1 c1 t s1 sl1 h1 r1 k1 => ?_⟩
  have h1' := h1.absorb
  have k1' := k1.go (s1.absorb h1) h1'
  have sl1' := sl1.mono (addc_sub h1.right)
  have rp := Rep.absorb h1 r1
  split at k1'
  case isFalse => exact k1'.elim
  rename_i ty
  obtain ⟨v, e1, tv⟩ := isLst_ty sl1' h1' ty
  · refine ⟨v, e1, ρ1, addc G1 t, c1, sl1', h1', AftS.seq (R := RelO ad X.K) kp k1' fun o ρ2 y H2 G2 c2 t2 s2 sl2 h2 ⟨et, hv⟩ k2 => ?_⟩
    subst et
    have h2' := nilH h2
    have k2' := k2.go0 s2 h2
    cases e : ρ2.at i with
    | none => rw [e] at k2'; exact k2'.elim
    | some q =>
      rw [e] at k2'
      cases q with
      | lst o' xs =>
        cases o' with
        | false => exact k2'.elim
        | true =>
          cases ey : rsv ρ2 o with
          | none => rw [ey] at k2'; exact k2'.elim
          | some pj =>
            rw [ey] at k2'
            cases pj with
            | int k =>
              dsimp only at k2'
              cases ej : L2.ixN xs.length k with
              | none => rw [ej] at k2'; exact k2'.elim
              | some j =>
                rw [ej] at k2'
                obtain rfl := (hv.vw sl2 ey).int
                obtain ⟨l, vs, d, f1, f2, f3, f4⟩ := write_slot sl2 h2' e
                rw [e1] at f1
                cases f1
                obtain ⟨g, d2, r2, pm⟩ := f3.setG j (rp.mono s2.fz)
                obtain ⟨c3, q1, q2, q3⟩ := f4 _ _ d2 g r2 pm
                exact ⟨l, vs, k, j, rfl, rfl, f2, by rw [← f3.length]; exact ej, k2' σ _ _ c3 kp q3 q1 q2⟩
            | _ => exact k2'.elim
      | _ => exact k2'.elim
/-- several slots at once -/
def setL : List Nat → List V → St → St
  | i :: is, v :: vs, σ => setL is vs (σ.set i (some v))
  | _, _, σ => σ
theorem put_all {c : List Cell} : ∀ {is : List Nat} {ps : List PV} {vs : List V} {ρ ρ2 : Fr} {σ : St} {c1 t : List Cell}, (∀ j ∈ is, j ∉ P.pr ∧ Free ad j) → putL is ps ρ = some ρ2 → P.kp σ → Step G c H G1 (c1 ++ t) H1 → Slots ad K G1 ρ σ c1 → Hold G1 (c1 ++ t) H1 → RepL ad K G1 ps vs t →
    ∃ c2, P.kp (setL is vs σ) ∧ Step G c H G1 c2 H1 ∧ Slots ad K G1 ρ2 (setL is vs σ) c2 ∧ Hold G1 c2 H1
  | [], [], _, ρ, ρ2, σ, c1, t, hi, e, kp, s, sl, hh, r => by
    obtain ⟨rfl, rfl⟩ := r.nil'
    cases e
    exact ⟨c1, kp, nilL s, sl, nilH hh⟩
  | [], _ :: _, _, ρ, ρ2, σ, c1, t, hi, e, kp, s, sl, hh, r => by simp [putL] at e
  | _ :: _, [], _, ρ, ρ2, σ, c1, t, hi, e, kp, s, sl, hh, r => by simp [putL] at e
  | i :: is, p :: ps, _, ρ, ρ2, σ, c1, t, hi, e, kp, s, sl, hh, r => by
    cases r with
    | @cons _ _ v vs t1 t2 r1 r2 =>
      simp only [putL] at e
      split at e
      case isFalse => cases e
      rename_i hl
      obtain ⟨d, c2, sl2, pm⟩ := sl.set (hi i List.mem_cons_self).2 hl r1
      have pm' : (c1 ++ (t1 ++ t2)).Perm (d ++ (c2 ++ t2)) := by
        rw [← List.append_assoc, ← List.append_assoc]
        exact (List.perm_append_comm.trans pm).append_right t2
      exact put_all (is := is) (fun k hk => hi k (List.mem_cons_of_mem _ hk)) e (kp.set (hi i List.mem_cons_self).1) ((s.perm (List.Perm.refl _) pm').less fun z hz => List.mem_append_right _ hz) sl2 (hh.perm pm').right r2
theorem putL_len : ∀ {is : List Nat} {ps : List PV} {ρ ρ2 : Fr}, putL is ps ρ = some ρ2 → ps.length = is.length
  | [], [], _, _, _ => rfl
  | [], _ :: _, _, _, h => by simp [putL] at h
  | _ :: _, [], _, _, h => by simp [putL] at h
  | i :: is, p :: ps, ρ, ρ2, h => by
    simp only [putL] at h
    split at h
    · simp [putL_len h]
    · cases h
theorem rd_par {is : List Nat} {ies : List IE} {σ : St} {H : Hp} (hi : ∀ j ∈ is, j ∉ P.pr ∧ Free ad j) (hq : rdS ad X W P (evS cf (.par is ies)) D σ H) : rd ad X W (RelL ad X.K) (evL cf ies) σ H fun vs H1 => vs.length = is.length ∧ D.nx (setL is vs σ) H1 := by
  obtain ⟨ρ, G, c, kp, sl, hh, h⟩ := hq
  simp only [evS] at h
  refine ⟨ρ, G, c, sl, hh, AftS.seq (R := RelL ad X.K) kp h fun ps ρ1 vs H1 G1 c1 t s1 sl1 h1 r1 k1 => ?_⟩
  have r1' : RepL ad X.K G1 ps vs t := r1
  cases e : putL is ps ρ1 with
  | none => rw [e] at k1; exact k1.elim
  | some ρ2 =>
    rw [e] at k1
    obtain ⟨c2, q1, q2, q3, q4⟩ := put_all hi e kp s1 sl1 h1 r1'
    exact ⟨by rw [← r1'.length]; exact putL_len e, k1 _ H1 G1 c2 q1 q2 q3 q4⟩
theorem rd_par2 {i j : Nat} {ies : List IE} {σ : St} {H : Hp} (hi : ∀ k ∈ [i, j], k ∉ P.pr ∧ Free ad k) (hq : rdS ad X W P (evS cf (.par [i, j] ies)) D σ H) : tPar i j (rd ad X W (RelL ad X.K) (evL cf ies)) D σ H :=
  rd_imp (rd_par hi hq) fun vs H1 ⟨hl, h⟩ => by
    match vs, hl with
    | [v, w], _ => exact ⟨v, w, rfl, h⟩
theorem rd_par3 {i j k : Nat} {ies : List IE} {σ : St} {H : Hp} (hi : ∀ l ∈ [i, j, k], l ∉ P.pr ∧ Free ad l) (hq : rdS ad X W P (evS cf (.par [i, j, k] ies)) D σ H) : tPar3 i j k (rd ad X W (RelL ad X.K) (evL cf ies)) D σ H :=
  rd_imp (rd_par hi hq) fun vs H1 ⟨hl, h⟩ => by
    match vs, hl with
    | [u, v, w], _ => exact ⟨u, v, w, rfl, h⟩
end
end Y
end
section
set_option Elab.async false
set_option linter.all false
set_option maxRecDepth 100000
set_option maxHeartbeats 2000000
set_option autoImplicit false
/-! EX1: own exception classes over a built-in one, whose __init__ says super().__init__('..') and then stores its parameters under their names. -/
namespace EX
open PySem PySem.W PySem.Calls PyProof.Rows
/-! ### the text of __init__ -/
def exStore (f : Str) : Stmt → Bool
  | .Assign [.Attribute (.Name sf _) g _] (.Name x _) _ => decide (sf = ("self" : Str)) && decide (g = f) && decide (x = f)
  | _ => false
def exStores : List Str → List Stmt → Bool
  | [], [] => true
  | f :: fs, s :: ss => exStore f s && exStores fs ss
  | _, _ => false
def exBody (fs : List Str) : List Stmt → Bool
  | .Expr (.Call (.Attribute (.Call (.Name su _) [] [] _) ini ap) [.Constant (.str _) _ _] [] cp) _ :: r => decide (su = ("super" : Str)) && decide (ini = ("__init__" : Str)) && (ap.endLine == cp.line) && exStores fs r
  | _ => false
theorem exStore_ok {f : Str} {s : Stmt} (h : exStore f s = true) : ∃ p1 p2 p3 p4, s = .Assign [.Attribute (.Name "self" p1) f p2] (.Name f p3) p4 := by
  unfold exStore at h
  split at h
  · simp only [Bool.and_eq_true, decide_eq_true_eq] at h
    obtain ⟨⟨rfl, rfl⟩, rfl⟩ := h
    exact ⟨_, _, _, _, rfl⟩
  · cases h
theorem exBody_ok {fs : List Str} {b : List Stmt} (h : exBody fs b = true) : ∃ p0 p1 p2 z k p3 p4 p5 r, b = .Expr (.Call (.Attribute (.Call (.Name "super" p0) [] [] p1) "__init__" p2) [.Constant (.str z) k p3] [] p4) p5 :: r ∧ (p2.endLine == p4.line) = true ∧ exStores fs r = true := by
  unfold exBody at h
  split at h
  · simp only [Bool.and_eq_true, decide_eq_true_eq] at h
    obtain ⟨⟨⟨rfl, rfl⟩, hl⟩, h⟩ := h
    exact ⟨_, _, _, _, _, _, _, _, _, rfl, hl, h⟩
  · cases h
theorem method_eq {o : Expr} {name : Str} {apos pos p3 : Pos} {env : Env} {z : Str} {k : Nat} (hl : (apos.endLine == pos.line) = true) : eval (.Call (.Attribute o name apos) [.Constant (.str z) k p3] [] pos) env = (do
      let ov ← attributeBase o name env (eval o env)
      standAt apos.atName
      let (f, first) ← holding [ov] (getMethod ov name (do return (← importBound o env).getD true))
      callWith pos f first (backTo pos (starEach [.Constant (.str z) k p3] env)) []) := by
  have h1 : methodCallPos true o env apos pos = pure pos := by
    unfold methodCallPos
    rw [hl]
    rfl
  show (do
      let ov ← attributeBase o name env (eval o env)
      standAt apos.atName
      methodCall o name apos pos env ov 1 (backTo pos (starEach [.Constant (.str z) k p3] env)) []) = _
  have h2 : ∀ ov, methodCall o name apos pos env ov 1 (backTo pos (starEach [.Constant (.str z) k p3] env)) [] = (do
      let (f, first) ← holding [ov] (getMethod ov name (do return (← importBound o env).getD true))
      callWith pos f first (backTo pos (starEach [.Constant (.str z) k p3] env)) []) := fun ov => by
    show (do
      let (f, first) ← holding [ov] (getMethod ov name (do return (← importBound o env).getD true))
      let callPos ← methodCallPos true o env apos pos
      callWith callPos f first (backTo pos (starEach [.Constant (.str z) k p3] env)) []) = _
    rw [h1]
    rfl
  simp only [h2]
/-- the fields stored so far of the exception at x -/
def Fld (h0 : Heap) (x C : Addr) (done : List (Str × Value)) (h : Heap) : Prop :=
  (done = [] ∧ ∃ t1, h.get? x = some (excObj C t1 none .none)) ∨ (∃ dx t1, h0.objs.size ≤ dx ∧ dx ≠ x ∧ h.get? x = some (excObj C t1 (some dx) .none) ∧ h.Ns1 dx (fun y => done.lookup y))
theorem lookup_cons_if (f y : Str) (v : Value) (l : List (Str × Value)) : ((f, v) :: l).lookup y = if y = f then some v else l.lookup y := by
  by_cases h : y = f
  · subst h; simp [List.lookup]
  · have e : (y == f) = false := by simpa using h
    simp [List.lookup, e, h]
theorem within_lookup : ∀ (l : List (Str × Value)), Within (fun y => l.lookup y) (l.map (·.1)) := fun l y hy => by
  induction l with
  | nil => exact absurd rfl hy
  | cons p l ih =>
    obtain ⟨f, v⟩ := p
    by_cases e : y = f
    · rw [e]; exact List.mem_cons_self
    · refine List.mem_cons_of_mem _ (ih fun z => hy ?_)
      show ((f, v) :: l).lookup y = none
      rw [lookup_cons_if, if_neg e]
      exact z
/-- what the written part says of the class -/
structure ExK (K : Frag) (C : Addr) (B i newId : String) (bmB : List Value) : Prop where
  FB : ExcBaseFacts B newId i bmB
  SF : StoreFacts B bmB "object.__setattr__" "object"
  KF : KxsFacts B i
  ini : excInitIn K C bmB newId = true
  over : excOver K C bmB = true
  sup : ks_superIn K C C "__init__" = some (some (.builtin i))
  sa : findIn K (.ref C) "__setattr__" = some (some (.builtin "object.__setattr__"))
  hd : hasDictIn K C = true
  subB : subIn K (.ref C) (.type B) = some true
section
variable {prog : Program} {w : World} {A : Around} {E : Value → Shared → Prop} {K : Frag} {C x : Addr} {B i newId : String} {bmB : List Value} {h0 : Heap} {done : List (Str × Value)} {s : Shared}
/-- self.f = v -/
theorem fld_set (T : ExK K C B i newId bmB) {f : Str} {v : Value} {Q : Unit → Shared → Prop} (X : K.In s.heap) (ht : takerIn K C f = some none) (hl : done.length ≤ 900) (hF : Fld h0 x C done s.heap) (hz : h0.objs.size ≤ s.heap.objs.size)
    (hq : ∀ h' tk, (∀ b o, b ≠ x → b < h0.objs.size → s.heap.get? b = some o → h'.get? b = some o) → h0.objs.size ≤ h'.objs.size → Fld h0 x C ((f, v) :: done) h' → Q () { s with heap := h', toks := tk }) :
    wpAny (model prog w) A (setAttr (.ref x) f v) Q E s := by
  obtain ⟨cd, hc, hd'⟩ := any_some T.hd
  rcases hF with ⟨rfl, t1, hx⟩ | ⟨dx, t1, hdx, hne, hx, hns⟩
  · refine set_plain X (ox := excObj C t1 none .none) (od := none) ⟨hx, rfl, rfl, trivial⟩ T.sa ?_
    have hxs : x < s.heap.objs.size := Heap.lt_size hx
    obtain ⟨hp, g, d, tk, os⟩ := s
    refine osa_openX (od := none) T.SF (s := ⟨hp, g, d, tk + 1, os⟩) X ⟨hx, rfl, rfl, trivial⟩ T.over ht fun b => ?_
    refine wpAny_bind (wpAny_pure (wpAny_bind (instanceDict_exc hx (looks_clsIn X hc) hd' ?_)))
    have hxs' : x ≠ hp.objs.size := Nat.ne_of_lt hxs
    refine HandSPX.store_in_new (dx := hp.objs.size) ?_ fun h' tk' hn' hs => ?_
    · exact ⟨_, #[], _, (Heap.get?_update_ne _ _ _ _ (Ne.symm hxs')).trans (Heap.get?_push_at rfl rfl), rfl, fun e he => absurd he (by simp), fun _ => rfl⟩
    · have hx2 : (hp.push (dictOf [] 0)).get? x = some (excObj C t1 none .none) := Heap.get?_push_of_some _ hx
      refine hq h' _ (fun b o hb hlt e => ?_) ?_ (.inr ⟨hp.objs.size, t1, hz, Ne.symm hxs', ?_, ?_⟩)
      · exact (hs.2 b (Nat.ne_of_lt (Heap.lt_size e))).trans ((Heap.get?_update_ne _ _ _ _ hb).trans (Heap.get?_push_of_some _ e))
      · obtain ⟨oD, _, _, e1, _⟩ := hn'
        exact Nat.le_trans hz (Nat.le_of_lt (Heap.lt_size e1))
      · exact (hs.2 x hxs').trans (Heap.get?_update_self _ hx2 rfl)
      · have : (fun y => if y = f then some v else none) = fun y => ([(f, v)] : List (Str × Value)).lookup y := by
          funext y
          rw [lookup_cons_if]
          rfl
        rwa [this] at hn'
  · obtain ⟨oD, esD, epD, hoD, hdD, _⟩ := hns.count (within_lookup done)
    refine set_plain X (ox := excObj C t1 (some dx) .none) (od := some oD) ⟨hx, rfl, rfl, hoD⟩ T.sa ?_
    obtain ⟨hp, g, d, tk, os⟩ := s
    refine osa_openX (od := some oD) T.SF (s := ⟨hp, g, d, tk + 1, os⟩) X ⟨hx, rfl, rfl, hoD⟩ T.over ht fun b => ?_
    refine wpAny_bind (wpAny_pure (wpAny_bind (wpAny_bind (wpAny_loadPart hx (wpAny_bind (Looks.at (looks_clsIn X hc) ?_))))))
    rw [hd']
    refine wpAny_pure (a := some dx) ?_
    refine PySem.OEX.store_in_old hns (within_lookup done) (by rw [List.length_map]; omega) fun h' tk' hn' hs => ?_
    refine hq h' _ (fun b o hb hlt e => ?_) ?_ (.inr ⟨dx, t1, hdx, hne, ?_, ?_⟩)
    · exact (hs.2 b (Nat.ne_of_lt (Nat.lt_of_lt_of_le hlt hdx))).trans e
    · obtain ⟨oD, _, _, e1, _⟩ := hn'
      exact Nat.le_trans hdx (Nat.le_of_lt (Heap.lt_size e1))
    · exact (hs.2 x (Ne.symm hne)).trans hx
    · have : (fun y => if y = f then some v else done.lookup y) = fun y => ((f, v) :: done).lookup y := by
        funext y
        rw [lookup_cons_if]
      rwa [this] at hn'
end
section
variable {prog : Program} {w : World} {A : Around} {E : Value → Shared → Prop} {K : Frag} {C x : Addr} {B i newId : String} {bmB : List Value} {h0 : Heap} {env : Env} {m : Str → Option Value}
theorem ld_here {s : Shared} {y : Str} {pos : Pos} {v : Value} {Q : Value → Shared → Prop} (hk : env.scope.kind = .function) (hl : env.kindOf y = some .local) (hn : s.heap.Ns env.locals m) (hv : m y = some v) (hd : (y == ("__debug__" : Str)) = false) (h : Q v s) :
    wpAny (model prog w) A (eval (.Name y pos) env) Q E s := wpAny_Name (wpAny_loadName_local hk hl hn hv h) hd
theorem stores_ok (T : ExK K C B i newId bmB) (hk : env.scope.kind = .function) (hself : env.kindOf "self" = some .local) (hms : m "self" = some (.ref x)) (hnL : h0.Ns env.locals m) (hLx : env.locals ≠ x) (X : K.In h0) (hKx : K.lookup x = none) {Q : Flow → Shared → Prop} (val : Str → Value) :
    ∀ (fs : List Str) (ss : List Stmt) (done : List (Str × Value)) (s : Shared), exStores fs ss = true → (∀ f ∈ fs, env.kindOf f = some .local ∧ takerIn K C f = some none ∧ (f == ("__debug__" : Str)) = false ∧ m f = some (val f)) →
      (∀ b o, b ≠ x → h0.get? b = some o → s.heap.get? b = some o) → h0.objs.size ≤ s.heap.objs.size → Fld h0 x C done s.heap → done.length + fs.length ≤ 900 →
      (∀ h' tk, (∀ b o, b ≠ x → h0.get? b = some o → h'.get? b = some o) → h0.objs.size ≤ h'.objs.size → Fld h0 x C ((fs.map fun f => (f, val f)).reverse ++ done) h' → Q .next { s with heap := h', toks := tk }) →
      wpAny (model prog w) A (execs ss env) Q E s
  | [], [], done, s, _, _, k, hz, hF, _, hq => wpAny_execs_nil (hq s.heap s.toks k hz hF)
  | [], _ :: _, _, _, h, _, _, _, _, _, _ => by cases h
  | _ :: _, [], _, _, h, _, _, _, _, _, _ => by cases h
  | f :: fs, st :: ss, done, s, h, hf, k, hz, hF, hl, hq => by
    simp only [exStores, Bool.and_eq_true] at h
    obtain ⟨p1, p2, p3, p4, rfl⟩ := exStore_ok h.1
    obtain ⟨h1, h2, h3, h4⟩ := hf f List.mem_cons_self
    have hn : s.heap.Ns env.locals m := hnL.at fun o e => k _ o hLx e
    have XS : K.In s.heap := fun a o e => k a o (fun z => by rw [z, hKx] at e; cases e) (X a o e)
    simp only [List.length_cons] at hl
    refine wpAny_execs_cons (plainObj_wpAny_Assign_Attribute ?_)
    refine ld_here hk h1 hn h4 h3 (ld_here hk hself hn hms (by decide) ?_)
    refine fld_set T XS h2 (by omega) hF hz fun h' tk k' hz' hF' => ?_
    refine stores_ok T hk hself hms hnL hLx X hKx val fs ss ((f, val f) :: done) { s with heap := h', toks := tk } h.2 (fun g hg => hf g (List.mem_cons_of_mem _ hg)) (fun b o hb e => k' b o hb (Heap.lt_size e) (k b o hb e)) hz' hF' (by simp only [List.length_cons]; omega)
      fun h'' tk' k'' hz'' hF'' => hq h'' tk' k'' hz'' ?_
    rw [List.map_cons, List.reverse_cons, List.append_assoc]
    exact hF''
end
theorem drop_first (C : Addr) (l : List Value) : ((Value.ref C :: l).dropWhile (· != .ref C)).drop 1 = l := by
  simp [List.dropWhile_cons]
/-- what the written part says of __init__: fd, at fI -/
structure ExF (prog : Program) (K : Frag) (mg : Str → Option Value) (C fI cc cda : Addr) (fd : FuncData) (fs : List Str) (body : List Stmt) (scope : Scope) : Prop where
  lk : ∃ oc od osl, K.lookup fI = some ⟨oc, od, .func fd, osl⟩
  eq : ∃ qual params dV kV doc pm an ct ar, fd = ksFn "__init__" qual params body scope dV kV doc pm an (.ref cda) ct cc ∧ codeIn K (.ref cda) qual = true ∧ (params.posonlyargs ++ params.args).head? = some ar ∧ ar.arg = ("self" : Str)
  code : ∃ ccl cdd vs ccs file tf, K.lookup cda = some ⟨ccl, cdd, .fields vs, ccs⟩ ∧ vs[2]? = some (.str file tf) ∧ ((prog.main.file : Str) == file) = true
  cell : ∃ cl cld csl, K.lookup cc = some ⟨cl, cld, .cell (some (.ref C)), csl⟩
  top : (prog.main.scope.names.lookup ("super" : Str)).isSome = false
  bdy : exBody fs body = true
  kind : scope.kind = .function
  co : scope.isCoroutine = false
  gen : scope.isGenerator = false
  nocell : ∀ x ∈ scope.names, x.2 ≠ .cell
  nsup : scope.names.lookup ("super" : Str) = some .globalImplicit
  ncls : scope.names.lookup ("__class__" : Str) = some .free
  nself : scope.names.lookup ("self" : Str) = some .local
  nfs : ∀ f ∈ fs, scope.names.lookup f = some .local ∧ takerIn K C f = some none ∧ (f == ("__debug__" : Str)) = false
  nd : ("self" :: fs : List Str).Nodup
  few : fs.length ≤ 800
  opq : nsIn K cStatics "thirdparty.any" = some none
  mgs : mg "super" = none
  msub : mroIn K C (.ref C) = some true
theorem lookup_none_of : ∀ {bs : List (Str × Value)} {y : Str}, y ∉ bs.map (·.1) → bs.lookup y = none
  | [], y, _ => rfl
  | (f, v) :: bs, y, h => by
    rw [lookup_cons_if, if_neg fun e => h (by rw [e]; exact List.mem_cons_self)]
    exact lookup_none_of fun z => h (List.mem_cons_of_mem _ z)
theorem lookup_nodup : ∀ {bs : List (Str × Value)} {p : Str × Value}, (bs.map (·.1)).Nodup → p ∈ bs → bs.lookup p.1 = some p.2
  | (f, v) :: bs, p, nd, h => by
    rw [lookup_cons_if]
    rw [List.map_cons, List.nodup_cons] at nd
    rcases List.mem_cons.mp h with rfl | h
    · rw [if_pos rfl]
    · rw [if_neg fun e => nd.1 (List.mem_map.mpr ⟨p, h, e⟩)]
      exact lookup_nodup nd.2 h
theorem map_val : ∀ {bs : List (Str × Value)}, (bs.map (·.1)).Nodup → ((bs.map (·.1)).map fun f => (f, (bs.lookup f).getD .none)) = bs := fun {bs} nd => by
  rw [List.map_map]
  have : ∀ p ∈ bs, ((fun f => (f, (bs.lookup f).getD .none)) ∘ (·.1)) p = p := fun p hp => by
    show (p.1, (bs.lookup p.1).getD .none) = p
    rw [lookup_nodup nd hp]
    rfl
  rw [List.map_congr_left this, List.map_id']
theorem lookup_rev {bs : List (Str × Value)} (nd : (bs.map (·.1)).Nodup) : (fun y => bs.reverse.lookup y) = fun y => bs.lookup y := by
  funext y
  by_cases h : y ∈ bs.map (·.1)
  · obtain ⟨p, hp, rfl⟩ := List.mem_map.mp h
    rw [lookup_nodup nd hp, lookup_nodup (by rw [List.map_reverse]; exact (List.reverse_perm _).nodup_iff.mpr nd) (List.mem_reverse.mpr hp)]
  · rw [lookup_none_of h, lookup_none_of (by rw [List.map_reverse]; exact fun z => h (List.mem_reverse.mp z))]
section
variable {prog : Program} {w : World} {A : Around} {E : Value → Shared → Prop} {K : Frag} {mg : Str → Option Value} {C x fI cc cda : Addr} {B i newId : String} {bmB : List Value} {fd : FuncData} {fs : List Str} {body : List Stmt} {scope : Scope} {R : Result → Shared → Prop} {s : Shared}
/-- super().__init__('..') called: the args are laid anew -/
theorem mw_call {u t : Addr} {rest : List Value} {Q : Value → Shared → Prop} (T : ExK K C B i newId bmB) (X : K.In s.heap) (hu : s.heap.get? u = some (kxs_mw i x)) (hx : s.heap.get? x = some (excObj C t none .none)) (hz : rest.length ≤ sizeLine)
    (h : ∀ h' t', (∀ b o, b ≠ x → s.heap.get? b = some o → h'.get? b = some o) → s.heap.objs.size ≤ h'.objs.size → h'.get? x = some (excObj C t' none .none) → Q .none { s with heap := h' }) :
    wpAny (model prog w) A (call (.ref u) rest) Q E s := by
  obtain ⟨nm, N', qn, bs, bm, hdct, sn, sub, ab, col, dd, k0, k1, k2, k3, k5, hC, hT⟩ := excInit_of X T.ini
  obtain ⟨hh, g, d, tk, os⟩ := s
  refine wpAny_call (codeAny_of_tree ?_)
  show wpAny _ A.in1 (callAny (.ref u) ⟨rest, []⟩) _ _ _
  simp only [callAny]
  refine wpAny_bind (wpAny_load hu ?_)
  simp only [kxs_mw, show (Value.type "method-wrapper" == Value.type "method" || Value.type "method-wrapper" == Value.type "builtin_function_or_method" || Value.type "method-wrapper" == Value.type "method-wrapper") = true by decide, if_true]
  refine KFB.if_so (by decide) ?_
  refine wpAny_bind (check_bound_init T.FB.toExcCallFacts hC hx rfl ?_)
  refine wpAny_bind (wpAny_pure (wpAny_pure ?_))
  refine ⟨plainId_quiet T.FB.init.plain _, codeAny_builtin T.FB.initEntry ?_⟩
  refine exc_init_tree (cls := .ref C) (t0 := t) (dv := none) (c2 := .none) (c3 := .none) (b4 := .bool false) hx hz fun h' k e ht => ?_
  exact h h' _ k (Nat.le_of_lt (Heap.lt_size ht)) e
theorem init_run {args : Args} {bs : List (Str × Value)} {t0 : Addr} (T : ExK K C B i newId bmB) (G : ExF prog K mg C fI cc cda fd fs body scope) (X : K.In s.heap) (hlim : s.heap.NoLimit) (hg : s.heap.Ns mainGlobals mg)
    (hb : ∃ mb, s.heap.Ns builtinsNs mb ∧ ∀ x : Str, x ≠ "__name__" → mb x = bootBuiltins x) (hx : s.heap.get? x = some (excObj C t0 none .none)) (hKx : K.lookup x = none) (hroom : A.depth < recursionLimit) (hbs : bs.map (·.1) = fs)
    (hbind : BindsTo s fd args ((("self" : Str), .ref x) :: bs))
    (hq : ∀ h' tk dx t1, (∀ b o, b ≠ x → s.heap.get? b = some o → h'.get? b = some o) → (bs ≠ [] → s.heap.objs.size ≤ dx ∧ dx ≠ x ∧ h'.get? x = some (excObj C t1 (some dx) .none) ∧ h'.Ns1 dx (fun y => bs.lookup y)) → R (.ok (.ret .none)) { s with heap := h', toks := tk }) :
    codeAny (model prog w) A (.call (.ref fI) args) R s := by
  obtain ⟨oc, od, osl, hfn⟩ := G.lk
  obtain ⟨qual, params, dV, kV, doc, pm, an, ct, ar, rfl, hcd, hhead, har⟩ := G.eq
  obtain ⟨ccl, cdd, vs, ccs, file, tf, hcode, hvs, hfile⟩ := G.code
  obtain ⟨cl, cld, csl, hcell⟩ := G.cell
  obtain ⟨mb, hb1, hb2⟩ := hb
  obtain ⟨p0, p1, p2, z, k, p3, p4, p5, rest, rfl, hline, hst⟩ := exBody_ok G.bdy
  have hcC : ∃ cd, clsIn K C = some cd := by
    obtain ⟨cd, hc, _⟩ := any_some T.hd
    exact ⟨cd, hc⟩
  obtain ⟨cdD, hD⟩ := hcC
  obtain ⟨oD, hD1, hD2⟩ : ∃ oD, K.lookup C = some oD ∧ oD.data = .cls cdD := by
    unfold clsIn at hD
    split at hD
    · rename_i c d cd' sl ho
      cases hD
      exact ⟨_, ho, rfl⟩
    · cases hD
  have nd := G.nd
  have hbn : (((("self" : Str), Value.ref x) :: bs).map (·.1)).Nodup := by
    rw [List.map_cons, hbs]
    exact nd
  refine ks_codeAny_call_defAt (fd := ksFn "__init__" qual params _ scope dV kV doc pm an (.ref cda) ct cc) hroom (X _ _ hfn) rfl hlim (codeRec_of X hcd) rfl hbind G.nocell (fun y hy => ?_) (fun h₀ hns k₀ => ?_) G.co G.gen G.kind
  · rcases List.mem_cons.mp hy with rfl | hy
    · exact G.nself
    · exact (G.nfs y.1 (by rw [← hbs]; exact List.mem_map_of_mem hy)).1
  obtain ⟨hp, g, d, tk, os⟩ := s
  have X0 : K.In h₀ := X.keeps k₀
  have hLx : hp.objs.size ≠ x := Nat.ne_of_gt (Heap.lt_size hx)
  have look : ∀ p ∈ ((("self" : Str), Value.ref x) :: bs), ((("self" : Str), Value.ref x) :: bs).reverse.lookup p.1 = some p.2 := fun p hp => lookup_nodup (by rw [List.map_reverse]; exact (List.reverse_perm _).nodup_iff.mpr hbn) (List.mem_reverse.mpr hp)
  have hself := look (("self" : Str), .ref x) List.mem_cons_self
  show PySem.wpAt _ _ _ (execs _ (ksEnv qual scope hp.objs.size fI (.ref cda) cc)) _ _ _
  have hint : interactive (ksEnv qual scope hp.objs.size fI (.ref cda) cc) = false := by
    unfold interactive
    rw [show (ksEnv qual scope hp.objs.size fI (.ref cda) cc).scope.kind = .function from G.kind]
    rfl
  refine ks_wpAt_execs_cons (ks_wpAt_Expr_any (ks_wpAt_MethodCall (ks_wpAt_super_base (env := ksEnv qual scope hp.objs.size fI (.ref cda) cc) G.nsup G.ncls (by decide) rfl (X0 _ _ hfn) rfl hhead rfl (X0 _ _ hcode) rfl hvs hfile G.top ?_) (method_eq hline)) hint rfl)
  refine ks_loadName_global G.kind G.nsup (loadGlobal_builtin (env := ksEnv qual scope hp.objs.size fI (.ref cda) cc) (hg.keeps k₀) G.mgs (hb1.keeps k₀) ((hb2 _ (by decide)).trans Boot.«super») ⟨rfl, ?_⟩)
  refine wpAny_loadName_free G.kind G.ncls rfl ⟨_, X0 _ _ hcell, rfl⟩ ?_
  refine wpAny_loadName_local (env := ksEnv qual scope hp.objs.size fI (.ref cda) cc) G.kind (by rw [har]; exact G.nself) hns (by rw [har]; exact hself) ?_
  refine ks_wpAny_isType_cls (X0 _ _ hD1) hD2 ⟨rfl, ?_⟩
  refine ks_wpAny_call_super (X0 _ _ hD1) hD2 (k₀ _ _ hx) rfl (fun c e => by cases e) (looks_mroIn X0 G.msub) fun h1 e1 k1 => ?_
  have X1 : K.In h1 := X0.keeps k1
  have hx1 := k1 _ _ (k₀ _ _ hx)
  have I1 : InstAt h1 x (excObj C t0 none .none) C none := ⟨hx1, rfl, rfl, trivial⟩
  have hsup := T.sup
  unfold ks_superIn at hsup
  rw [hD, Option.bind_some] at hsup
  refine kxs_getMethod T.KF e1 (looks_opaque X1 G.opq) (l₀ := cdD.mro) (fun A Q E s k q => wpAny_bind ((looks_clsIn X1 hD) A _ E s k (wpAny_pure q))) rfl X1 hsup (I1.type.andThen (looks_subIn X1 T.subB)) (ks_ne X1 I1 hD) (by decide) ?_
  have hu : (h1.push (kxs_mw i x)).get? h1.objs.size = some (kxs_mw i x) := Heap.get?_push_size _ rfl
  have k2 : ∀ b o, h1.get? b = some o → (h1.push (kxs_mw i x)).get? b = some o := fun b o e => Heap.get?_push_of_some _ e
  refine kxs_callWith (i := i) (x := x) (first := []) rfl (evalArgs_plain (spliced_cons (Constant_str (k := k) (pos := p3) (spliced_nil ⟨hu, ?_⟩))))
  refine mw_call T (X1.keeps k2) hu (k2 _ _ hx1) (by rw [sizeLine_eq]; show 1 ≤ _; decide) fun h2 t2 k3 hz3 e3 => ?_
  have kx : ∀ b o, b ≠ x → hp.get? b = some o → h2.get? b = some o := fun b o hb e => k3 b o hb (k2 b o (k1 b o (k₀ b o e)))
  have kx0 : ∀ b o, b ≠ x → h₀.get? b = some o → h2.get? b = some o := fun b o hb e => k3 b o hb (k2 b o (k1 b o e))
  have X2 : K.In h2 := fun a o e => kx a o (fun z => by rw [z, hKx] at e; cases e) (X a o e)
  have hsz : hp.objs.size ≤ h2.objs.size := by
    obtain ⟨oL, _, _, eL, _⟩ := hns
    exact Nat.le_of_lt (Heap.lt_size (kx0 _ _ hLx eL))
  refine wpAt_of_wpAny ?_
  refine stores_ok (h0 := h2) (env := ksEnv qual scope hp.objs.size fI (.ref cda) cc) T G.kind G.nself hself (hns.at fun o e => kx0 _ o hLx e) hLx X2 hKx (fun f => (bs.lookup f).getD .none) fs rest [] _ hst (fun f hf => ?_) (fun b o _ e => e) (Nat.le_refl _) (.inl ⟨rfl, t2, e3⟩) (by have := G.few; simp; omega) fun h' tk' k4 hz4 hF => ?_
  · obtain ⟨n1, n2, n3⟩ := G.nfs f hf
    refine ⟨n1, n2, n3, ?_⟩
    rw [← hbs] at hf
    obtain ⟨p, hp2, rfl⟩ := List.mem_map.mp hf
    rw [look p (List.mem_cons_of_mem _ hp2), lookup_nodup (List.nodup_cons.mp hbn).2 hp2]
    rfl
  · have nb : (bs.map (·.1)).Nodup := (List.nodup_cons.mp hbn).2
    rw [← hbs, map_val nb, List.append_nil] at hF
    rcases hF with ⟨e, _⟩ | ⟨dx, t3, q1, q2, q3, q4⟩
    · refine hq h' _ 0 0 (fun b o hb e => k4 b o hb (kx b o hb e)) fun hne => absurd (List.reverse_eq_nil_iff.mp e) hne
    · refine hq h' _ dx t3 (fun b o hb e => k4 b o hb (kx b o hb e)) fun _ => ⟨Nat.le_trans hsz q1, q2, q3, ?_⟩
      rwa [show (fun y => bs.reverse.lookup y) = fun y => bs.lookup y from lookup_rev nb] at q4
end
end EX
end
section
set_option Elab.async false
set_option linter.all false
set_option maxRecDepth 100000
set_option maxHeartbeats 2000000
set_option autoImplicit false
/-! EX2: raise C(..) of such a class. -/
namespace EX
open PySem PySem.W PySem.Calls PyProof.Rows L2
theorem lookup_rel : ∀ {fs : List Str} {vs : List V} {us : List Value}, Vals vs us → ∀ f : Str, RelO ((fs.zip vs).lookup f) ((fs.zip us).lookup f)
  | [], _, _, _, f => by simp [List.zip_nil_left]; trivial
  | g :: fs, _, _, .nil, f => by simp; trivial
  | g :: fs, _, _, .cons r t, f => by
    rw [List.zip_cons_cons, List.zip_cons_cons, lookup_cons_if, L2.lookup_put]
    by_cases h : f = g
    · rw [if_pos h, if_pos h]; exact r
    · rw [if_neg h, if_neg h]; exact lookup_rel t f
theorem zip_keys {α : Type} : ∀ {fs : List Str} {us : List α}, us.length = fs.length → (fs.zip us).map (·.1) = fs
  | [], [], _ => rfl
  | [], _ :: _, h => by cases h
  | _ :: _, [], h => by cases h
  | f :: fs, u :: us, h => by
    rw [List.zip_cons_cons, List.map_cons, zip_keys (by simpa using h)]
/-- C(e, ..): a new exception of the class at C, whose dict d holds the fields -/
def tMkEx (C : Addr) (fs : List Str) (dvs : List V) (ta : TA) : L2.St → Hp → XK → Prop := fun σ H Q => ta σ H fun vs H1 => vs.length + dvs.length = fs.length ∧ ∀ d, H1 d = none → Q (.ref C) (some d) (upd H1 d (.xd (fs.zip (vs ++ dvs))))
/-- all that the written part says of such a class -/
structure ExA (prog : Program) (K : Frag) (mg : Str → Option Value) (nm : Str) (C fI cc cda : Addr) (B i newId : String) (bmB : List Value) (fd : FuncData) (fs : List Str) (ds : List Value) (body : List Stmt) (scope : Scope) : Prop where
  T : ExK K C B i newId bmB
  G : ExF prog K mg C fI cc cda fd fs body scope
  iC : findIn K (.ref C) "__init__" = some (some (.ref fI))
  tI : typeIn K (.ref fI) = some (.type "function")
  kC : keepIn K (.ref C) = true
  exC : subIn K (.ref C) (.type "BaseException") = some true
  tyC : typeIn K (.ref C) = some (.type "type")
  gC : mg nm = some (.ref C)
  bd : ∀ (s : Shared) (x : Addr) (us : List Value), us.length + ds.length = fs.length → BindsTo s fd ⟨.ref x :: us, []⟩ ((("self" : Str), .ref x) :: fs.zip (us ++ ds))
section
variable {X : Cx} {nm : Str} {C fI cc cda : Addr} {B i newId : String} {bmB : List Value} {fd : FuncData} {fs : List Str} {ds : List Value} {dvs : List V} {body : List Stmt} {scope : Scope} {k : Nat}
theorem pmk_ex {e : Expr} {es : List Expr} {ta : TA} {p pos : Pos} (T : ExA X.prog X.K X.mg nm C fI cc cda B i newId bmB fd fs ds body scope) (hds : Vals dvs ds) (hr : Room (k + 2) X.A) (ha : PA X (e :: es) ta) (hg : Gl X nm) (hdb : (nm == ("__debug__" : Str)) = false)
    (hne : fs ≠ []) (he : starEach (e :: es) X.env = (false, eval e X.env) :: starEach es X.env) (hpl : (backTo pos (starEach es X.env)).any (·.1) = false) :
    PMk X (.Call (.Name nm p) (e :: es) [] pos) (tMkEx C fs dvs ta) := by
  intro pins s σ H Q I h
  refine wpAny_Call_Name_kw (ld_glob I hg T.gC ?_ hdb)
  refine PySem.W.callWith_K (h₀ := X.base) I.ok.mod.kin T.kC (thn (ha.run pos pins s σ H _ I h) fun us s1 hh => ?_) he hpl
  obtain ⟨vs, H1, I1, r1, hlen, q1⟩ := hh
  refine ⟨I1.kIn, ?_⟩
  show wpAny _ _ (call (.ref C) us) _ _ _
  have hlim := I1.nolimit
  have hmod := I1.mod
  have hbk := I1.bk
  obtain ⟨nm', N', qn, bs, bm, hdct, sn, sub, ab, col, dd, k0, k1, k2, k3, k5, hC, hT⟩ := excInit_of I1.kIn T.T.ini
  obtain ⟨hp, g, dr, tk, os⟩ := s1
  have kk : ∀ b o, hp.get? b = some o → ((hp.push (kdv_tup us)).push (HandSPX.excO C hp.objs.size)).get? b = some o := fun b o e => Heap.get?_push_of_some _ (Heap.get?_push_of_some _ e)
  have hget : ((hp.push (kdv_tup us)).push (HandSPX.excO C hp.objs.size)).get? (hp.objs.size + 1) = some (excObj C hp.objs.size none .none) := by heap_get
  have hnx : X.K.lookup (hp.objs.size + 1) = none := by
    cases e : X.K.lookup (hp.objs.size + 1) with
    | none => rfl
    | some o =>
      have z : hp.get? (hp.objs.size + 1) = some o := I1.kIn _ _ e
      exact absurd (Nat.lt_of_succ_lt (Heap.lt_size z)) (Nat.lt_irrefl _)
  have hul : us.length + ds.length = fs.length := by rw [← r1.length, ← hds.length]; exact hlen
  have hus : us.length ≤ sizeLine := by
    have := T.G.few
    rw [sizeLine_eq]
    omega
  have hl2 : (us ++ ds).length = fs.length := by rw [List.length_append]; exact hul
  obtain ⟨mb, hb1, hb2⟩ := hmod.blt
  refine wpAny_call (HandSPX.call_own T.T.FB hT hC (looks_findIn I1.kIn T.iC) (fun self => bind_fn I1.kIn self T.tI) hus ?_)
  refine init_run (s := ⟨(hp.push (kdv_tup us)).push (HandSPX.excO C hp.objs.size), g, dr, tk, os⟩) T.T T.G (I1.kIn.keeps kk) (hlim.keeps kk) ((hmod.glob.keeps hbk).keeps kk) ⟨mb, (hb1.keeps hbk).keeps kk, hb2⟩ hget hnx ?_ (zip_keys hl2) (T.bd _ _ us hul) fun h' tk' dx t1 k' hd => ?_
  · have := hr.dp
    show X.A.depth + 1 < recursionLimit
    omega
  obtain ⟨dn, dne, hx', hns⟩ := hd (fun z => hne (by rw [← zip_keys hl2, z]; rfl))
  have dn' : hp.objs.size ≤ dx := Nat.le_trans (by rw [Heap.size_push, Heap.size_push]; omega) dn
  refine ⟨rfl, ?_⟩
  show MkP X pins σ Q (.ref (hp.objs.size + 1)) ⟨h', g, dr, tk', os⟩
  obtain ⟨G', g1, g2⟩ := restrict h' fun b => decide (b ≠ hp.objs.size + 1)
  have gk : ∀ b, b ≠ hp.objs.size + 1 → G'.get? b = h'.get? b := fun b hb => g1 b (decide_eq_true hb)
  have ge : G'.get? (hp.objs.size + 1) = none := g2 _ (by simp)
  have nb : ∀ {b : Addr} {o : Obj}, hp.get? b = some o → b ≠ hp.objs.size + 1 := fun {b o} q => Nat.ne_of_lt (Nat.lt_succ_of_lt (Heap.lt_size q))
  have old : ∀ b o, hp.get? b = some o → G'.get? b = some o := fun b o q => (gk b (nb q)).trans (k' b o (nb q) (kk b o q))
  have ob : ObjOk X.prog X.w (upd H1 dx (.xd (fs.zip (vs ++ dvs)))) G' dx (.xd (fs.zip (vs ++ dvs))) :=
    ⟨_, hns.at (fun o q => (gk dx dne).trans q), fun f => lookup_rel (r1.append hds) f⟩
  have J : Inv X pins σ (upd H1 dx (.xd (fs.zip (vs ++ dvs)))) ⟨G', g, dr, tk', os⟩ := I1.laid (t' := tk') old dn' ob
  refine ⟨hp.objs.size + 1, _, _, ⟨G', g, dr, tk', os⟩, _, .ref C, some dx, rfl, J, fun b o q => ?_, ge, hx', ⟨rfl, rfl⟩, rfl, rfl, ?_, rfl, I1.bare, raises_own T.exC T.tyC, q1 dx (I1.hok.fresh dn')⟩
  · by_cases hb : b = hp.objs.size + 1
    · have q' : G'.get? b = some o := q
      rw [hb, ge] at q'; cases q'
    · exact (gk b hb).symm.trans q
  · rw [upd_ne (Ne.symm dne)]
    exact I1.hok.fresh (Nat.le_succ _)
end
end EX
end
section
set_option Elab.async false
set_option linter.all false
set_option maxRecDepth 100000
set_option maxHeartbeats 2000000
set_option autoImplicit false
/-! Y9x: errors of the text: raised, held, read. -/
namespace Y
open PySem L2
variable {ad : Ad} {K : PySem.W.Frag} {G G' G1 G2 H H' H1 H2 : Hp}
theorem RepFs.look : ∀ {fs : List (Str × PV)} {fvs : List (Str × V)}, RepFs ad K G fs fvs → ∀ {f : Str} {p : PV}, fs.lookup f = some p → ∃ v, fvs.lookup f = some v ∧ Rep ad K G p v []
  | _, _, .nil, f, p, h => by simp at h
  | (g, q) :: fs, (_, w) :: vs, .cons r t, f, p, h => by
    simp only [List.lookup_cons] at h ⊢
    cases e : f == g with
    | true =>
      rw [e] at h
      cases h
      exact ⟨w, rfl, r⟩
    | false =>
      rw [e] at h
      exact RepFs.look t h
theorem lookup_key {α : Type} : ∀ {l : List (Str × α)} {x : Str} {g : α}, l.lookup x = some g → x ∈ l.map (·.1)
  | [], x, g, h => by simp at h
  | (n, b) :: l, x, g, h => by
    rw [List.lookup_cons] at h
    cases hx : x == n with
    | true => rw [eq_of_beq hx]; exact List.mem_cons_self
    | false => rw [hx] at h; exact List.mem_cons_of_mem _ (lookup_key h)
theorem RepFs.zip : ∀ {fs : List Str} {ps : List PV} {vs : List V}, RepL ad K G ps vs [] → RepFs ad K G (fs.zip ps) (fs.zip vs)
  | [], _, _, _ => .nil
  | f :: fs, [], vs, r => by
    obtain ⟨rfl, _⟩ := r.nil'
    exact .nil
  | f :: fs, p :: ps, vs, r => by
    obtain ⟨v, ws, rfl, r1, r2⟩ := r.inv0'
    exact .cons r1 (RepFs.zip r2)
/-- the exception that the suite holds stands by slot i -/
def HeldAt (ad : Ad) (X : Cx) (cf : Cf) (i : Nat) : Prop := ∀ x, cf.cur = some x → ∃ (X' : Cx) (a d : Addr) (oe : Obj) (pn : List (Addr × Obj)), X = X'.suite a ((a, oe) :: pn) ∧ ad.cur = some ⟨i, a, d, x⟩ ∧ Zc (.ref (ad x.cls)) (some d) oe ∧ ∃ vs, oe.data = .fields vs
section
variable {X : Cx} {W : WX} {P : Pt} {cf : Cf} {pos : Pos} {D : Ends}
theorem se_xf {i : Nat} {e : Expr} {f : Str} (hH : HeldAt ad X cf i) (he : PE X e (tVar i)) (hb : attributeBase e f X.env (eval e X.env) = eval e X.env) : SE ad X W (.Attribute e f pos) (evE cf (.xf f)) := by
  refine ⟨fun pins s σ H Q I hq => ?_⟩
  obtain ⟨ρ, G, c, sl, hh, ha⟩ := hq
  simp only [evE] at ha
  cases hc : cf.cur with
  | none => rw [hc] at ha; exact ha.elim
  | some x =>
    rw [hc] at ha
    dsimp only [Option.bind] at ha
    obtain ⟨X', a, d, oe, pn, rfl, hcur, hz, hf⟩ := hH x hc
    cases hl : x.fs.lookup f with
    | none => rw [hl] at ha; exact ha.elim
    | some p =>
      rw [hl] at ha
      have hx := sl.x
      unfold XcOk at hx
      rw [hcur] at hx
      obtain ⟨hσ, fvs, hG, hr, ho, hsub⟩ := hx
      obtain ⟨v, hv, hp⟩ := hr.look hl
      refine (pe_xf (C := ad x.cls) ho.xf (ho.fno f (hsub f (lookup_key hl))) hz hf he hb).run pins s σ H Q I ?_
      exact ⟨.ref a, hσ, rfl, rfl, d, fvs, v, rfl, hh.fz _ _ hG, hv, ha v H G c [] (toL Step.refl) sl (toH hh) hp.ofB⟩
theorem ss_rai {d : XD} {C fI cc cda : Addr} {B i newId : String} {bmB : List Value} {fd : FuncData} {body : List Stmt} {scope : Scope} {k : Nat} {e : Expr} {es : List Expr} {ies : List IE} {p pos2 : Pos} (hc : X.calm = true) (tk : Takes X W)
    (T : EX.ExA X.prog X.K X.mg d.cls C fI cc cda B i newId bmB fd d.fs [] body scope) (hC : C = ad d.cls) (hx : XdOk ad X.K d) (hr : Room (k + 2) X.A) (ha : SLs ad X W (e :: es) (evL cf ies)) (hg : Gl X d.cls) (hdb : (d.cls == ("__debug__" : Str)) = false) (hne : d.fs ≠ [])
    (he : starEach (e :: es) X.env = (false, eval e X.env) :: starEach es X.env) (hpl : (backTo pos (starEach es X.env)).any (·.1) = false) : SS ad X W P (.Raise (some (.Call (.Name d.cls p) (e :: es) [] pos)) none pos2) (evS cf (.rai d ies)) := by
  subst hC
  refine (ps_raise hc tk (EX.pmk_ex T .nil hr ha hg hdb hne he hpl)).imp fun D σ H ⟨ρ, G, c, kp, sl, hh, h⟩ => ?_
  simp only [evS] at h
  refine ⟨ρ, G, c, sl, hh, h.seq kp fun ps ρ1 vs H1 G1 c1 t s sl1 h1 hv k => ?_⟩
  have hv' : RepL ad X.K G1 ps vs t := hv
  split at k
  · rename_i hz
    refine ⟨by rw [← hv'.length, hz]; rfl, fun dd hd => ?_⟩
    have h1' := h1.absorb
    obtain ⟨q1, q2⟩ := h1'.newF hd (.xd (d.fs.zip (vs ++ [])))
    exact k dd σ _ _ c1 kp ((s.absorb h1).trans q2 h1') ((sl1.mono (addc_sub h1.right)).mono q2.fz) q1 ⟨_, upd_same, by have z := (RepFs.zip (fs := d.fs) ((RepL.absorb h1 hv').mono q2.fz)); simpa only [List.append_nil] using z, hx, fun f hf => by
      obtain ⟨z, hz1, rfl⟩ := List.mem_map.mp hf
      exact (List.of_mem_zip (show (z.1, z.2) ∈ _ from hz1)).1⟩
  · exact k.elim
/-! ### tuples whose items are held alone -/
def tIt (i k : Nat) : TE := fun σ H Q => ∃ a vs w, σ[i]? = some (some (.ref a)) ∧ H a = some (.tup vs) ∧ vs[k]? = some w ∧ Q w H
theorem ix_some {n k : Nat} (h : k < n) : ixN n (k : Int) = some k := by
  unfold ixN
  rw [if_pos (Int.natCast_nonneg k), if_pos (Int.ofNat_lt.mpr h)]
  rfl
theorem pe_it {i k : Nat} {e b : Expr} (he : PE X e (tVar i)) (hb : PE X b (tC (.int k))) (hp : PlainIx b) : PE X (.Subscript e b pos) (tIt i k) := (pe_ix ix_tup he hb hp).imp fun σ H Q ⟨a, vs, w, h1, h2, h3, q⟩ => by
  refine ⟨.ref a, h1, a, vs, (k : Int), w, rfl, rfl, ?_, ?_, q⟩
  · first
      | exact h2
      | exact .of h2
  · show (ixN vs.length (k : Int)).bind (fun j => vs[j]?) = some w
    have hk : k < vs.length := by
      rcases Nat.lt_or_ge k vs.length with z | z
      · exact z
      · rw [List.getElem?_eq_none z] at h3
        cases h3
    rw [ix_some hk]
    exact h3
theorem so_it {i k : Nat} {e : Expr} {run : Fr → Res PV} (h : PE X e (tIt i k)) : SO ad X W e (opnd (.it i k) run) := h.imp fun σ H Q ⟨ρ, G, c, sl, hh, ha⟩ => by
  simp only [opnd] at ha
  split at ha
  · rename_i xs ex
    split at ha
    · rename_i hk
      obtain ⟨v, d, r, e1, e2, e3, e4⟩ := sl.out ex
      cases e2 with
      | @tup a _ vs _ g rl =>
        obtain ⟨w, d', f1, f2, f3⟩ := rl.get (List.getElem?_eq_getElem hk)
        exact ⟨a, vs, w, e1, hh.fz _ _ g, f1, ha w H G c [] (toL Step.refl) sl (toH hh) ⟨rfl, a, vs, e1, g, f1⟩⟩
    · exact ha.elim
  · exact ha.elim
theorem se_tupo {es : List Expr} {as : List IE} {n : Nat} (h : SLs ad X W es (evL cf as)) : SE ad X W (.Tuple es n pos) (evE cf (.tupo as)) := (pe_tup h).imp fun σ H Q hq => by
  obtain ⟨ρ, G, c, sl, hh, ha⟩ := hq
  simp only [evE] at ha
  refine ⟨ρ, G, c, sl, hh, ha.seq fun ps ρ1 vs H1 G1 c1 t s sl1 h1 hv k => ?_⟩
  have hv' : RepL ad X.K G1 ps vs t := hv
  split at k
  · rename_i hz
    refine ⟨by rw [← hv'.length]; exact okS_le hz, fun p hp => ?_⟩
    obtain ⟨q1, q2⟩ := h1.newF hp (.tup vs)
    exact k (.ref p) _ (upd G1 p (.tup vs)) c1 t (s.trans q2 h1) (sl1.mono q2.fz) q1 (.tup upd_same (hv'.mono q2.fz))
  · exact k.elim
theorem RepL.pick : ∀ {xs : List PV} {vs : List V} {c : List Cell}, RepL ad K G xs vs c → ∀ {k : Nat} {ys : List PV}, xs[k]? = some (.lst true ys) →
    ∃ l ws e rest, vs[k]? = some (.ref l) ∧ RepL ad K G ys ws e ∧ c.Perm ((l, .lst ws) :: (e ++ rest)) ∧ ∀ ys' ws' e', RepL ad K G ys' ws' e' → ∃ c', RepL ad K G (xs.set k (.lst true ys')) vs c' ∧ c'.Perm ((l, .lst ws') :: (e' ++ rest))
  | _, _, _, .nil, k, ys, h => by simp at h
  | x :: xs, v :: vs, _, .cons (c := c1) (cs := cs) r t, 0, ys, h => by
    cases h
    cases r with
    | @lstO l _ ws cs' rl => exact ⟨l, ws, cs', cs, rfl, rl, List.Perm.refl _, fun ys' ws' e' r' => ⟨_, .cons (.lstO r') t, List.Perm.refl _⟩⟩
  | x :: xs, v :: vs, _, .cons (c := c1) (cs := cs) r t, k + 1, ys, h => by
    obtain ⟨l, ws, e, rest, h1, h2, h3, h4⟩ := RepL.pick t (k := k) (ys := ys) h
    have mv : ∀ (z : Cell) (a b : List Cell), (c1 ++ (z :: (a ++ b))).Perm (z :: (a ++ (c1 ++ b))) := fun z a b => by
      refine List.perm_middle.trans (List.Perm.cons _ ?_)
      rw [← List.append_assoc, ← List.append_assoc]
      exact List.perm_append_comm.append_right b
    refine ⟨l, ws, e, c1 ++ rest, h1, h2, (h3.append_left c1).trans (mv _ _ _), fun ys' ws' e' r' => ?_⟩
    obtain ⟨c', q1, q2⟩ := h4 ys' ws' e' r'
    exact ⟨_, .cons r q1, (q2.append_left c1).trans (mv _ _ _)⟩
theorem rd_appi {i k : Nat} {x : Str} {σ : St} {H : Hp} (hq : rdS ad X W P (evS cf (.appi i k x)) D σ H) : tDrop (tBM X.K "list" rAppend (tIt i k) (tCons (tC (.str x)) tNil)) D σ H := by
  obtain ⟨ρ, G, c, kp, sl, hh, h⟩ := hq
  simp only [evS] at h
  split at h
  · rename_i xs ex
    split at h
    · rename_i ys ey
      split at h
      · rename_i hl
        obtain ⟨v, d, r, e1, e2, e3, e4⟩ := sl.out ex
        cases e2 with
        | @tup a _ vs _ g rl =>
          obtain ⟨l, ws, e, rest, f1, f2, f3, f4⟩ := rl.pick ey
          have pm : c.Perm ((l, HO.lst ws) :: (e ++ rest ++ r)) := e4.trans (f3.append_right r)
          have h1 := hh.perm pm
          obtain ⟨w1, w2⟩ := h1.write (.lst (ws ++ [.str x]))
          have hH : H l = some (.lst ws) := h1.at_ (l, HO.lst ws) List.mem_cons_self
          refine ⟨a, vs, .ref l, e1, hh.fz _ _ g, f1, .inl ⟨rfl, ws, .of hH⟩, l, ws, .str x, rfl, rfl, hH, by rw [← f2.length]; exact hl, ?_⟩
          obtain ⟨c', q1, q2⟩ := f4 (ys ++ [.str x]) (ws ++ [.str x]) e (by simpa using f2.append (RepL.cons (c := []) (cs := []) (Rep.str x) .nil))
          obtain ⟨c2, s2, p2⟩ := e3.tell (i := i) at_set_none (by simpa using at_lt ex) e1 (.tup g q1)
          rw [set_set_none] at s2
          have pm2 : ((l, HO.lst (ws ++ [.str x])) :: (e ++ rest ++ r)).Perm c2 := by
            refine List.Perm.trans ?_ p2.symm
            exact (q2.append_right r).symm
          exact h σ _ G c2 kp ((w2.perm pm.symm (List.Perm.refl _)).perm (List.Perm.refl _) pm2) s2 (w1.perm pm2)
      · exact h.elim
    · exact h.elim
  · exact h.elim
/-! ### try -/
theorem Slots0.setN {ρ : Fr} {σ : St} {c : List Cell} (s : Slots0 ad K G ρ σ c) {i : Nat} {v : Option V} (h : Fr.at ρ i = Option.none) : Slots0 ad K G ρ (σ.set i v) c :=
  s.congr (by rw [List.length_set]) fun j p e => by
    have : i ≠ j := fun z => by rw [← z, h] at e; cases e
    rw [List.getElem?_set_ne this]
/-- the ends within a named clause's suite -/
abbrev endI (D : Ends) (i : Nat) : Ends := { nx := fun σ' H' => D.nx (σ'.set i none) H', rt := D.rt, bk := fun σ' H' => D.bk (σ'.set i none) H', ct := fun σ' H' => D.ct (σ'.set i none) H' }
theorem aft_suite {c c' : List Cell} {i : Nat} {z : Xc} {r : Res Fl} {σ' : St} {v : Option V} (h : AftS ad K W P D G c H (sufR (some i) r)) (hcur : ad.cur = none) (hi : i ∉ P.pr) (kp' : P.kp σ') (st : Step G c H G' c' H') (hh' : Hold G' c' H') :
    AftS ⟨ad.fn, some z⟩ K W0 ⟨i :: P.pr, σ'.set i v⟩ (endI D i) G' c' H' r := by
  have hkp : ∀ {σ2 : St}, (Pt.mk (i :: P.pr) (σ'.set i v)).kp σ2 → P.kp (σ2.set i none) := fun {σ2} k => ⟨by rw [List.length_set, k.len]; show (σ'.set i v).length = _; rw [List.length_set]; exact kp'.len, fun j hj => by
    have ne : i ≠ j := fun z => hi (z ▸ hj)
    rw [List.getElem?_set_ne ne, k.at_ j (List.mem_cons_of_mem _ hj)]
    show (σ'.set i v)[j]? = _
    rw [List.getElem?_set_ne ne]
    exact kp'.at_ j hj⟩
  cases r with
  | bad => exact h.elim
  | ex x ρ => exact h.elim
  | ok f ρ =>
    have key : ∀ {σ2 : St} {G2 : Hp} {c2 : List Cell}, Slots ⟨ad.fn, some z⟩ K G2 ρ σ2 c2 → ∃ g r, Slots ad K G2 (ρ.set i none) (σ2.set i none) r ∧ c2.Perm (g ++ r) := fun {σ2 G2 c2} sl2 => by
      obtain ⟨g, r, s3, pm⟩ := sl2.b.drop i
      exact ⟨g, r, ⟨(Slots0.re (ad := ⟨ad.fn, some z⟩) (ad' := ad) rfl s3).setN at_set_none, .of_none hcur⟩, pm⟩
    cases f with
    | nx =>
      intro σ2 H2 G2 c2 kp2 st2 sl2 hh2
      obtain ⟨g, r, s4, pm⟩ := key sl2
      exact h (σ2.set i none) H2 G2 r (hkp kp2) (((st.trans st2 hh').perm (List.Perm.refl _) pm).less fun z hz => List.mem_append_right _ hz) s4 (hh2.perm pm).right
    | bk =>
      intro σ2 H2 G2 c2 kp2 st2 sl2 hh2
      obtain ⟨g, r, s4, pm⟩ := key sl2
      exact h (σ2.set i none) H2 G2 r (hkp kp2) (((st.trans st2 hh').perm (List.Perm.refl _) pm).less fun z hz => List.mem_append_right _ hz) s4 (hh2.perm pm).right
    | ct =>
      intro σ2 H2 G2 c2 kp2 st2 sl2 hh2
      obtain ⟨g, r, s4, pm⟩ := key sl2
      exact h (σ2.set i none) H2 G2 r (hkp kp2) (((st.trans st2 hh').perm (List.Perm.refl _) pm).less fun z hz => List.mem_append_right _ hz) s4 (hh2.perm pm).right
    | rt p =>
      intro w σ2 H2 G2 c2 t kp2 st2 sl2 hh2 hr
      obtain ⟨g, r, s4, pm⟩ := key sl2
      have p3 : (c2 ++ t).Perm (g ++ (r ++ t)) := by
        rw [← List.append_assoc]
        exact pm.append_right t
      exact h w (σ2.set i none) H2 G2 r t (hkp kp2) (((st.trans st2 hh').perm (List.Perm.refl _) p3).less fun z hz => List.mem_append_right _ hz) s4 (hh2.perm p3).right (Rep.re (ad := ⟨ad.fn, some z⟩) (ad' := ad) rfl hr)
/-- try: .. except k as n: .. -/
theorem ss_tryAs {k n : Str} {i : Nat} {body suite : List Stmt} {b₀ : Stmt} {np pos' : Pos} {ib is : List IS} (hs : X.stack = X.env :: X.outer) (hf : X.env.frame = some X.env.locals) (hN : X.N.Nodup) (hi : X.N[i]? = some n) (hln : X.env.kindOf n = some .local) (hc : Names X k (.ref (ad k))) (tk : Takes X W)
    (hcur : ad.cur = none) (hp : i ∉ P.pr) (hb : ∀ (W : WX) (pn : List (Addr × Obj)) (xe : Value → Shared → Prop), Takes (X.tr pn xe) W → PassesOwn (model X.prog X.w) X.A X.env xe → SB ad (X.tr pn xe) W P body (evB cf ib))
    (hsu : ∀ (a : Addr) (oe : Obj) (dd : Addr) (x : PX) (pn : List (Addr × Obj)), Zc (.ref (ad x.cls)) (some dd) oe → (∃ vs, oe.data = .fields vs) → ∀ σ0, SB ⟨ad.fn, some ⟨i, a, dd, x⟩⟩ (X.suite a ((a, oe) :: pn)) W0 ⟨i :: P.pr, σ0⟩ (b₀ :: suite) (evB { cf with cur := some x } is)) :
    SS ad X W P (.Try body [.ExceptHandler (some (.Name k np)) (some n) (b₀ :: suite) pos'] [] [] pos) (evS cf (.tryx ib (.cons k (some i) is .nil))) := by
  refine (ps_try_as (Wout := W) (tb := fun W => rdS ad X W P (evB cf ib)) (ts := fun a cls d D σ H => ∃ (x : PX) (dd : Addr), cls = .ref (ad x.cls) ∧ d = some dd ∧ rdS ⟨ad.fn, some ⟨i, a, dd, x⟩⟩ X W0 ⟨i :: P.pr, σ⟩ (evB { cf with cur := some x } is) D σ H) hs hf hN hi hln hc tk (fun W pn xe t p => hb W pn xe t p) fun a oe cls d pn hz hfd => ⟨fun pins s σ H D I hq => ?_⟩).imp fun D σ H ⟨ρ, G, c, kp, sl, hh, h⟩ => ?_
  · obtain ⟨x, dd, rfl, rfl, hw⟩ := hq
    exact (hsu a oe dd x pn hz hfd σ).run pins s σ H D I hw
  · refine ⟨ρ, G, c, kp, sl, hh, ?_⟩
    simp only [evS] at h
    cases er : evB cf ib ρ with
    | bad => rw [er] at h; exact h
    | ok f ρ1 =>
      rw [er] at h
      cases f <;> exact h
    | ex x ρ1 =>
      rw [er] at h
      simp only [evH] at h
      intro dd σ' H' G' c' kp' st sl' hh' hx
      obtain ⟨fvs, hG, hr, ho, hsub⟩ := hx
      cases el : x.xd.rel.lookup k with
      | none => rw [el] at h; exact h.elim
      | some b =>
        rw [el] at h
        refine ⟨b, ho.rel _ _ el, fun eb a na => ?_, fun eb => ?_⟩
        · subst eb
          dsimp only at h
          split at h
          · rename_i hfit
            obtain ⟨g, r, s3, pm⟩ := sl'.b.drop i
            have s4 : Slots0 ⟨ad.fn, some ⟨i, a, dd, x⟩⟩ X.K G' (ρ1.set i none) (σ'.set i (some (.ref a))) r := Slots0.re (ad := ad) (ad' := ⟨ad.fn, some ⟨i, a, dd, x⟩⟩) rfl (s3.setN at_set_none)
            have hlt : i < σ'.length := by rw [← sl'.length]; exact of_decide_eq_true hfit
            refine ⟨x, dd, rfl, rfl, ρ1.set i none, G', r, Keep.refl _ _, ⟨s4, ?_⟩, (hh'.perm pm).right, aft_suite h hcur hp kp' ((st.perm (List.Perm.refl _) pm).less fun z hz => List.mem_append_right _ hz) (hh'.perm pm).right⟩
            show XcOk _ _ _ _
            unfold XcOk
            exact ⟨List.getElem?_set_self hlt, fvs, hG, RepFs.re (ad := ad) (ad' := ad.base) rfl hr, XdOk.re (ad := ad) (ad' := ad.base) rfl ho, hsub⟩
          · exact h.elim
        · subst eb
          exact h dd σ' H' G' c' kp' st sl' hh' ⟨fvs, hG, hr, ho, hsub⟩
/-- clauses without names -/
def hdsL (ad : Ad) (X : Cx) (P : Pt) (cf : Cf) : IH → List (Value × (Addr → Value → Option Addr → TS))
  | .nil => []
  | .cons k _ is r => (.ref (ad k), fun _ _ _ => rdS ad X W0 P (evB cf is)) :: hdsL ad X P cf r
def noNames : IH → Bool
  | .nil => true
  | .cons _ i _ r => i.isNone && noNames r
theorem many_go {x : PX} {dd : Addr} {σ' : St} {c c' : List Cell} (kp' : P.kp σ') (st : Step G c H G' c' H') (hh' : Hold G' c' H') (hx : XRep ad X.K G' x dd) : ∀ {hs : IH} {ρ1 : Fr}, noNames hs = true → Slots ad X.K G' ρ1 σ' c' → AftS ad X.K W P D G c H (evH cf hs x ρ1) → wMany X.K W D (hdsL ad X P cf hs) (.ref (ad x.cls)) (some dd) σ' H'
  | .nil, ρ1, _, sl', h => h dd σ' H' G' c' kp' st sl' hh' hx
  | .cons k i is r, ρ1, hn, sl', h => by
    simp only [noNames, Bool.and_eq_true, Option.isNone_iff_eq_none] at hn
    obtain ⟨rfl, hn⟩ := hn
    simp only [evH] at h
    cases el : x.xd.rel.lookup k with
    | none => rw [el] at h; exact h.elim
    | some b =>
      rw [el] at h
      refine ⟨b, hx.elim fun _ z => z.2.2.1.rel _ _ el, fun eb a na => ?_, fun eb => ?_⟩
      · subst eb
        refine ⟨ρ1, G', c', kp', sl', hh', ?_⟩
        change AftS ad X.K W P D G c H (sufR none (evB cf is ρ1)) at h
        cases er : evB cf is ρ1 with
        | bad => rw [er] at h; exact h.elim
        | ex y ρ2 => rw [er] at h; exact h.elim
        | ok f ρ2 =>
          rw [er] at h
          have h2 : AftS ad X.K W P D G' c' H' (.ok f ρ2) := AftS.go h st hh'
          cases f <;> exact h2
      · subst eb
        exact many_go kp' st hh' hx hn sl' h
theorem ss_tryMany {body : List Stmt} {h₀ : ExceptHandler} {hds : List ExceptHandler} {ib : List IS} {ih : IH} (hs : X.stack = X.env :: X.outer) (hf : X.env.frame = some X.env.locals) (tk : Takes X W) (hn : noNames ih = true)
    (hb : ∀ (W : WX) (pn : List (Addr × Obj)) (xe : Value → Shared → Prop), Takes (X.tr pn xe) W → PassesOwn (model X.prog X.w) X.A X.env xe → SB ad (X.tr pn xe) W P body (evB cf ib)) (hh : HdsOk X (h₀ :: hds) (hdsL ad X P cf ih)) :
    SS ad X W P (.Try body (h₀ :: hds) [] [] pos) (evS cf (.tryx ib ih)) := by
  refine (ps_try_many (Wout := W) (tb := fun W => rdS ad X W P (evB cf ib)) hs hf tk (fun W pn xe t p => hb W pn xe t p) hh).imp fun D σ H ⟨ρ, G, c, kp, sl, hh, h⟩ => ?_
  refine ⟨ρ, G, c, kp, sl, hh, ?_⟩
  simp only [evS] at h
  cases er : evB cf ib ρ with
  | bad => rw [er] at h; exact h
  | ok f ρ1 =>
    rw [er] at h
    cases f <;> exact h
  | ex x ρ1 =>
    rw [er] at h
    exact fun dd σ' H' G' c' kp' st sl' hh' hx => many_go kp' st hh' hx hn sl' h
end
end Y
end
section
set_option Elab.async false
set_option linter.all false
set_option maxRecDepth 100000
set_option maxHeartbeats 2000000
set_option autoImplicit false
/-! Y11: a def keeps what the evaluator says of it. -/
namespace Y
open PySem L2
variable {ad : Ad} {K : PySem.W.Frag} {G G' G1 G2 H H' H1 H2 : Hp}
theorem Slots0.take : ∀ (n : Nat) {ρ : Fr} {σ : St} {c : List Cell}, Slots0 ad K G ρ σ c → ∃ g c', Slots0 ad K G (ρ.take n) (σ.take n) c' ∧ c.Perm (g ++ c')
  | 0, _, _, c, _ => ⟨c, [], by simpa using Slots0.nil, by simp⟩
  | n + 1, _, _, _, .nil => ⟨[], [], .nil, List.Perm.refl _⟩
  | n + 1, _, _, _, .none t => by
    obtain ⟨g, c', h, e⟩ := Slots0.take n t
    exact ⟨g, c', .none h, e⟩
  | n + 1, _, _, _, .some (c := c) (cs := cs) r t => by
    obtain ⟨g, c', h, e⟩ := Slots0.take n t
    refine ⟨g, c ++ c', .some r h, ?_⟩
    refine (e.append_left c).trans ?_
    rw [← List.append_assoc, ← List.append_assoc]
    exact List.perm_append_comm.append_right c'
theorem maskF_nil (ls : List Bool) : maskF ls [] = [] := by cases ls <;> rfl
theorem maskF_cons (ls : List Bool) (x : Option PV) (r : Fr) : maskF ls (x :: r) = (if ls.headD false then x else none) :: maskF ls.tail r := by cases ls <;> rfl
theorem Slots0.mask : ∀ {ρ : Fr} {σ : St} {c : List Cell}, Slots0 ad K G ρ σ c → ∀ ls : List Bool, ∃ g c', Slots0 ad K G (maskF ls ρ) σ c' ∧ c.Perm (g ++ c')
  | _, _, _, .nil, ls => ⟨[], [], by rw [maskF_nil]; exact .nil, List.Perm.refl _⟩
  | _, _, _, .none t, ls => by
    obtain ⟨g, c', h, e⟩ := Slots0.mask t ls.tail
    rw [maskF_cons]
    refine ⟨g, c', ?_, e⟩
    rw [show (if ls.headD false = true then Option.none else Option.none) = (Option.none : Option PV) from by split <;> rfl]
    exact .none h
  | _, _, _, .some (c := c) (cs := cs) r t, ls => by
    obtain ⟨g, c', h, e⟩ := Slots0.mask t ls.tail
    rw [maskF_cons]
    cases ls.headD false with
    | true =>
      refine ⟨g, c ++ c', by rw [if_pos rfl]; exact .some r h, ?_⟩
      refine (e.append_left c).trans ?_
      rw [← List.append_assoc, ← List.append_assoc]
      exact List.perm_append_comm.append_right c'
    | false =>
      refine ⟨c ++ g, c', by rw [if_neg Bool.false_ne_true]; exact .none h, ?_⟩
      rw [List.append_assoc]
      exact e.append_left c
theorem maskF_at : ∀ {ρ : Fr} {ls : List Bool} {i : Nat} {p : PV}, Fr.at (maskF ls ρ) i = some p → ls.getD i false = true
  | [], ls, i, p, h => by rw [maskF_nil] at h; simp [Fr.at] at h
  | x :: r, [], 0, p, h => by rw [maskF_cons, at_cons_zero] at h; simp at h
  | x :: r, b :: bs, 0, p, h => by
    rw [maskF_cons, at_cons_zero] at h
    cases b with
    | true => rfl
    | false => simp at h
  | x :: r, [], i + 1, p, h => by
    rw [maskF_cons, at_cons_succ] at h
    have := maskF_at (ls := []) h
    simpa using this
  | x :: r, b :: bs, i + 1, p, h => by
    rw [maskF_cons, at_cons_succ] at h
    have := maskF_at (ls := bs) h
    simpa using this
theorem slots_none : ∀ n : Nat, Slots0 ad K G (List.replicate n none) (List.replicate n none) []
  | 0 => .nil
  | n + 1 => .none (slots_none n)
theorem slots_start : ∀ {ps : List PV} {vs : List V} {c : List Cell} (n : Nat), RepL ad K G ps vs c → Slots0 ad K G (ps.map some ++ List.replicate n none) (vs.map some ++ List.replicate n none) c
  | _, _, _, n, .nil => slots_none n
  | _, _, _, n, .cons r t => .some r (slots_start n t)
/-- the parameters that the def never stores -/
def protOf (d : Fd) : List Nat := (List.range d.ps).filter fun i => d.lend.getD i false
/-- the parameters' slots behind the body -/
theorem end_slots {d : Fd} {ρ : Fr} {σ σ0 : St} {c : List Cell} {vs : List V} (hv : vs.length = d.ps) (h0 : σ0 = vs.map some ++ List.replicate (d.n - d.ps) none) (kp : Keep (protOf d) σ0 σ) (sl : Slots0 ad K G ρ σ c) :
    ∃ g c', Slots0 ad K G (maskF d.lend (ρ.take d.ps)) (vs.map some) c' ∧ c.Perm (g ++ c') := by
  obtain ⟨g, c1, s1, p1⟩ := sl.take d.ps
  obtain ⟨g2, c2, s2, p2⟩ := s1.mask d.lend
  have hlen : σ.length = σ0.length := kp.len
  refine ⟨g ++ g2, c2, s2.congr ?_ fun i p e => ?_, ?_⟩
  · rw [List.length_map, List.length_take, hlen, h0, List.length_append, List.length_map, hv]
    omega
  · have hl := maskF_at e
    have hi : i < d.ps := by
      have h1 := at_lt e
      have h2 := s2.length
      rw [h2, List.length_take] at h1
      omega
    have hm : i ∈ protOf d := List.mem_filter.mpr ⟨List.mem_range.mpr hi, hl⟩
    have := kp.at_ i hm
    rw [List.getElem?_take_of_lt hi, this, h0, List.getElem?_append_left (by rw [List.length_map, hv]; exact hi)]
  · refine p1.trans ?_
    rw [List.append_assoc]
    exact p2.append_left g
section
variable {P : Program} {w : World} {mg : Str → Option Value} {base : Heap}
theorem runF_len {cf : Cf} {d : Fd} {as : List PV} (h : as.length ≠ d.ps) : runF cf d as = .bad := by unfold runF; rw [if_neg h]
/-- a def's promise, by the evaluator's run of its body -/
theorem fn_run (hcur : ad.cur = none) {cf : Cf} {d : Fd} {x qual : Str} {st : Stmt} {f : Addr} {fd : FuncData} {N ps : List Str} {k : Nat} (F : Fun K x qual st f fd) (S : FnScope N ps (defScope st)) (hn : d.n = N.length) (hps : d.ps = ps.length)
    (hb : ∀ (X : Cx) (cdv : Value) (A : Around) (outer : List Env) (s : Shared) (H : Hp) (vs : List V) (E : XK), X = cxOf (L2.CX P w) P w K mg base N qual (defScope st) f cdv A outer s H E → Room k X.A → Takes X (fun cls d _ H => E cls d H) → PassesOwn (model X.prog X.w) X.A X.env X.xe →
      PSs X (defBody st) (rdS ad X (fun cls d _ H => E cls d H) ⟨protOf d, L2.start N vs⟩ (evB cf d.body))) : FnOk P w K mg base (L2.CX P w) (k + 1) f fd ps (SpOf ad K (runF cf d)) := by
  have len : ∀ vs H Q E, SpOf ad K (runF cf d) vs H Q E → vs.length = ps.length := fun vs H Q E ⟨as, G, c, r, hh, a⟩ => by
    by_cases hl : as.length = d.ps
    · rw [← r.length, hl, hps]
    · rw [runF_len hl] at a
      exact a.elim
  refine F.okX S len fun cdv A outer s H vs Q E hr hsp => ?_
  have hl := len _ _ _ _ hsp
  obtain ⟨as, G, c, r, hh, a⟩ := hsp
  have hla : as.length = d.ps := by rw [r.length, hl, hps]
  refine ⟨_, hb _ cdv A outer s H vs E rfl hr (takes_of rfl rfl rfl rfl) (passes_of rfl), ?_⟩
  have h0 : L2.start N vs = vs.map some ++ List.replicate (d.n - d.ps) none := by
    rw [L2.start, hn, hps, hl]
  refine ⟨as.map some ++ List.replicate (d.n - d.ps) none, G, c, Keep.refl _ _, ⟨by rw [h0]; exact slots_start _ r, .of_none hcur⟩, hh, ?_⟩
  unfold runF at a
  rw [if_pos hla] at a
  cases e : evB cf d.body (as.map some ++ List.replicate (d.n - d.ps) none) with
  | bad => rw [e] at a; exact a.elim
  | ex y ρ =>
    rw [e] at a
    intro dd σ' H' G' c' kp s' sl h' hx
    obtain ⟨g, c2, s2, p2⟩ := end_slots (by rw [hl, hps]) h0 kp sl.b
    exact a dd H' G' c2 ((s'.perm (List.Perm.refl _) p2).less fun z hz => List.mem_append_right _ hz) s2 (h'.perm p2).right hx
  | ok f ρ =>
    rw [e] at a
    cases f with
    | bk => exact a.elim
    | ct => exact a.elim
    | nx =>
      intro σ' H' G' c' kp s' sl h'
      obtain ⟨g, c2, s2, p2⟩ := end_slots (by rw [hl, hps]) h0 kp sl.b
      exact a .non H' G' c2 [] (toL ((s'.perm (List.Perm.refl _) p2).less fun z hz => List.mem_append_right _ hz)) s2 (toH (h'.perm p2).right) .non
    | rt p =>
      intro v σ' H' G' c' t kp s' sl h' hr'
      obtain ⟨g, c2, s2, p2⟩ := end_slots (by rw [hl, hps]) h0 kp sl.b
      have p3 : (c' ++ t).Perm (g ++ (c2 ++ t)) := by
        rw [← List.append_assoc]
        exact p2.append_right t
      exact a v H' G' c2 t ((s'.perm (List.Perm.refl _) p3).less fun z hz => List.mem_append_right _ hz) s2 (h'.perm p3).right hr'
end
end Y
end
section
set_option Elab.async false
set_option linter.all false
set_option maxRecDepth 100000
set_option maxHeartbeats 4000000
set_option autoImplicit false
/-! Y12: a checker: does this expression of the text stand for that expression of the small language? -/
namespace Y
open PySem L2
/-- what a global name stands for -/
inductive GE where
  | fn (k : Str)
  | cst (p : PV)
  | xc (d : XD)
/-- what the checker knows of a block -/
structure Sc where
  N : List Str
  scope : Scope
  fnS : Str → Bool
  gl : List (Str × GE)
  bl : List Str
  lend : Str → List Bool
  pr : List Nat
  /-- not within an except suite; the slot of the name of the exception that is held -/
  calm : Bool
  cur : Option Nat
def GlOk (ad : Ad) (X : Cx) (cf : Cf) (cm : Bool) (x : Str) : GE → Prop
  | .fn k => ∃ kk fd ps, FnOk X.prog X.w X.K X.mg X.base (L2.CX X.prog X.w) kk (ad k) fd ps (SpOf ad.base X.K (cf.call k)) ∧ (cm = true → Room kk X.A) ∧ X.mg x = some (.ref (ad k)) ∧ PySem.W.keepIn X.K (.ref (ad k)) = true ∧ Binds X.K fd ps []
  | .cst p => ∃ u v, X.mg x = some u ∧ RelV v u ∧ ∀ G, Rep ad X.K G p v []
  | .xc d => x = d.cls ∧ X.mg x = some (.ref (ad x)) ∧ XdOk ad X.K d ∧ (∃ k, cm = true → Room (k + 2) X.A) ∧ d.fs ≠ [] ∧ ∃ (fI cc cda : Addr) (B i newId : String) (bmB : List Value) (fd : FuncData) (body : List Stmt) (scope : Scope), EX.ExA X.prog X.K X.mg d.cls (ad d.cls) fI cc cda B i newId bmB fd d.fs [] body scope
structure Good (ad : Ad) (X : Cx) (W : WX) (cf : Cf) (sc : Sc) : Prop where
  hN : X.N = sc.N
  nd : X.N.Nodup
  hsc : X.env.scope = sc.scope
  hfn : ∀ x, sc.fnS x = true → X.fn x = true
  calm : sc.calm = true → X.calm = true ∧ ad.cur = none ∧ cf.cur = none
  held : ∀ i, sc.cur = some i → HeldAt ad X cf i
  hu : X.A.units + 65 < cLine
  tk : Takes X W
  blt : ∀ x ∈ sc.bl, X.mg x = none
  glob : ∀ x g, sc.gl.lookup x = some g → GlOk ad X cf sc.calm x g
  lend : cf.lend = sc.lend
variable {ad : Ad}

/-! ### names -/
def visC (sc : Sc) (x : Str) : Bool := match sc.scope.names.lookup x with
  | some .local => true
  | some .cell => true
  | some .free => true
  | _ => false
def nameC (sc : Sc) (x : Str) (i : Nat) : Bool := decide (sc.N[i]? = some x) && visC sc x && !(x == ("__debug__" : Str)) && !(x == ("__classdict__" : Str))
def globC (sc : Sc) (x : Str) : Bool := decide (sc.scope.names.lookup x = some .globalImplicit) && !(x == ("__debug__" : Str)) && decide (x ≠ ("__name__" : Str))
def bltC (sc : Sc) (x : Str) (y : Str) : Bool := decide (x = y) && globC sc x && sc.bl.contains x
def plainE : Expr → Bool
  | .Starred _ _ => false
  | _ => true
def plainEs : List Expr → Bool
  | [] => true
  | e :: r => plainE e && plainEs r
/-- an expression whose test is its value's -/
def valueE : Expr → Bool
  | .Name _ _ => true
  | .Call _ _ _ _ => true
  | .Subscript _ _ _ => true
  | .Attribute _ _ _ => true
  | .Constant _ _ _ => true
  | .List _ _ => true
  | .Tuple _ _ _ => true
  | .ListComp _ _ _ _ => true
  | .BinOp _ _ _ _ => true
  | _ => false
theorem valueE_true {e : Expr} (h : valueE e = true) (env : Env) (whole : Sem Value) : isTrue e env whole = (do let v ← whole; standAt e.pos; holding [v] (truthy v)) := by
  cases e <;> first
    | rfl
    | cases h
theorem star_cons {e : Expr} {es : List Expr} (h : plainE e = true) (env : Env) : starEach (e :: es) env = (false, eval e env) :: starEach es env := by
  cases e <;> first
    | rfl
    | cases h
theorem back_plain {pos : Pos} {env : Env} : ∀ {es : List Expr}, plainEs es = true → (backTo pos (starEach es env)).any (·.1) = false
  | [], _ => rfl
  | e :: es, h => by
    unfold plainEs at h
    rw [Bool.and_eq_true] at h
    rw [star_cons h.1]
    have := back_plain (pos := pos) (env := env) h.2
    unfold backTo at this ⊢
    rw [List.map_cons, List.any_cons, this]
    rfl
theorem all_plain {pos : Pos} {env : Env} : ∀ {es : List Expr}, plainEs es = true → (backTo pos (starEach es env)).all (fun x => !x.1) = true
  | [], _ => rfl
  | e :: es, h => by
    unfold plainEs at h
    rw [Bool.and_eq_true] at h
    rw [star_cons h.1]
    have := all_plain (pos := pos) (env := env) h.2
    unfold backTo at this ⊢
    rw [List.map_cons, List.all_cons, this]
    rfl
section
variable {X : Cx} {W : WX} {cf : Cf} {sc : Sc} {pos : Pos}
theorem Good.vis (g : Good ad X W cf sc) {x : Str} (h : visC sc x = true) : Vis X.env.scope x := by
  rw [g.hsc]
  unfold visC at h
  split at h
  · exact .inl (by assumption)
  · exact .inr (.inl (by assumption))
  · exact .inr (.inr (by assumption))
  · cases h
theorem Good.name (g : Good ad X W cf sc) {x : Str} {i : Nat} (h : nameC sc x i = true) : PE X (.Name x pos) (tVar i) := by
  unfold nameC at h
  simp only [Bool.and_eq_true, decide_eq_true_eq, Bool.not_eq_true'] at h
  obtain ⟨⟨⟨h1, h2⟩, h3⟩, h4⟩ := h
  exact pe_var (by rw [g.hN]; exact h1) (g.vis h2) h3 h4
theorem Good.gl (g : Good ad X W cf sc) {x : Str} (h : globC sc x = true) : Gl X x ∧ (x == ("__debug__" : Str)) = false ∧ x ≠ ("__name__" : Str) := by
  unfold globC at h
  simp only [Bool.and_eq_true, decide_eq_true_eq, Bool.not_eq_true'] at h
  refine ⟨?_, h.1.2, h.2⟩
  show X.env.scope.names.lookup x = _
  rw [g.hsc]
  exact h.1.1
theorem Good.bt (g : Good ad X W cf sc) {x y : Str} (h : bltC sc x y = true) : x = y ∧ Gl X x ∧ X.mg x = none ∧ (x == ("__debug__" : Str)) = false ∧ x ≠ ("__name__" : Str) := by
  unfold bltC at h
  simp only [Bool.and_eq_true, decide_eq_true_eq] at h
  obtain ⟨h1, h2, h3⟩ := g.gl h.1.2
  exact ⟨h.1.1, h1, g.blt x (List.contains_iff_mem.mp h.2), h2, h3⟩
end
/-- what is claimed of a pair: as a value, as a test -/
def Snd (ad : Ad) : Bool → Sc → Expr → IE → Prop
  | false, sc, e, ie => ∀ X W cf, Good ad X W cf sc → SE ad X W e (evE cf ie)
  | true, sc, e, ie => ∀ X W cf, Good ad X W cf sc → ST ad X W e (evT cf ie (evE cf ie))
abbrev Rec := Bool → Sc → Expr → IE → Bool
abbrev RecOk (ad : Ad) (rec : Rec) : Prop := ∀ m sc e ie, rec m sc e ie = true → Snd ad m sc e ie

/-! ### constants -/
def tyNames : List String := ["int", "str", "bool", "list", "tuple"]
def cstC (sc : Sc) : Expr → PV → Bool
  | .Constant (.int i) _ _, .int j => decide (i = j)
  | .Constant (.bool i) _ _, .bl j => decide (i = j)
  | .Constant .none _ _, .non => true
  | .Constant (.str i) _ _, .str j => decide (i = j)
  | .Name x _, .ty t => tyNames.contains t && bltC sc x (Str.ofString t)
  | .Name x _, .int j => globC sc x && (match sc.gl.lookup x with
    | some (.cst (.int i)) => decide (i = j)
    | _ => false)
  | .Name x _, .str j => globC sc x && (match sc.gl.lookup x with
    | some (.cst (.str i)) => decide (i = j)
    | _ => false)
  | .Name x _, .fn k => globC sc x && (match sc.gl.lookup x with
    | some (.fn k') => decide (k = k')
    | _ => false)
  | _, _ => false
theorem boot_ty : ∀ t ∈ tyNames, bootBuiltins (Str.ofString t) = some (.type t) := by decide +kernel
theorem cst_ok {sc : Sc} {e : Expr} {p : PV} (h : cstC sc e p = true) : Snd ad false sc e (.cst p) := fun X W cf g => by
  unfold cstC at h
  split at h
  · cases of_decide_eq_true h
    exact se_cst pe_int fun _ => .int _
  · cases of_decide_eq_true h
    exact se_cst pe_bl fun _ => .bl _
  · exact se_cst pe_non fun _ => .non
  · cases of_decide_eq_true h
    exact se_cst pe_str fun _ => .str _
  · rw [Bool.and_eq_true] at h
    obtain ⟨rfl, h1, h2, h3, h4⟩ := g.bt h.2
    exact se_cst (pe_bltn (v := .ty _) h1 h2 (boot_ty _ (List.contains_iff_mem.mp h.1)) rfl h4 h3) fun _ => .ty _
  · rw [Bool.and_eq_true] at h
    obtain ⟨h1, h2, h3⟩ := g.gl h.1
    have h := h.2
    split at h
    · rename_i i e
      cases of_decide_eq_true h
      obtain ⟨u, v, m, r, z⟩ := g.glob _ _ e
      exact se_cst (pe_glob h1 m r h2) z
    · cases h
  · rw [Bool.and_eq_true] at h
    obtain ⟨h1, h2, h3⟩ := g.gl h.1
    have h := h.2
    split at h
    · rename_i i e
      cases of_decide_eq_true h
      obtain ⟨u, v, m, r, z⟩ := g.glob _ _ e
      exact se_cst (pe_glob h1 m r h2) z
    · cases h
  · rw [Bool.and_eq_true] at h
    obtain ⟨h1, h2, h3⟩ := g.gl h.1
    have h := h.2
    split at h
    · rename_i i e
      cases of_decide_eq_true h
      obtain ⟨kk, fd, ps, F, hr, m, hk, hb⟩ := g.glob _ _ e
      exact se_cst (pe_glob (v := .ref (ad _)) h1 m rfl h2) fun _ => .fn _
    · cases h
  · cases h

/-! ### operands and lists -/
def opndC (rec : Rec) (sc : Sc) (e : Expr) : IE → Bool
  | .loc i => (match e with
    | .Name x _ => nameC sc x i
    | _ => false)
  | .it i k => (match e with
    | .Subscript (.Name x _) (.Constant (.int j) _ _) _ => nameC sc x i && decide (j = (k : Int))
    | _ => false)
  | ie => rec false sc e ie
theorem opnd_ok {rec : Rec} (hr : RecOk ad rec) {sc : Sc} {e : Expr} {ie : IE} (h : opndC rec sc e ie = true) {X : Cx} {W : WX} {cf : Cf} (g : Good ad X W cf sc) : SO ad X W e (opnd ie (evE cf ie)) := by
  by_cases hl : isLoc ie = true
  · cases ie with
    | loc i =>
      simp only [opndC] at h
      split at h
      · exact so_loc (g.name h)
      · cases h
    | it i k =>
      simp only [opndC] at h
      split at h
      · simp only [Bool.and_eq_true, decide_eq_true_eq] at h
        obtain ⟨h1, rfl⟩ := h
        exact so_it (pe_it (g.name h1) pe_int fun _ _ => rfl)
      · cases h
    | _ => cases hl
  · have hl : isLoc ie = false := by simpa using hl
    refine so_val hl ?_
    have h' : rec false sc e ie = true := by
      cases ie <;> first
        | exact h
        | cases hl
    exact hr _ _ _ _ h' X W cf g
def opndsC (rec : Rec) (sc : Sc) : List Expr → List IE → Bool
  | [], [] => true
  | e :: es, ie :: ies => plainE e && opndC rec sc e ie && opndsC rec sc es ies
  | _, _ => false
theorem opndsC_plain {rec : Rec} {sc : Sc} : ∀ {es : List Expr} {ies : List IE}, opndsC rec sc es ies = true → plainEs es = true
  | [], _, _ => rfl
  | e :: es, [], h => by cases h
  | e :: es, ie :: ies, h => by
    simp only [opndsC, Bool.and_eq_true] at h
    simp only [plainEs, Bool.and_eq_true]
    exact ⟨h.1.1, opndsC_plain h.2⟩
theorem opnds_ok {rec : Rec} (hr : RecOk ad rec) {sc : Sc} {X : Cx} {W : WX} {cf : Cf} (g : Good ad X W cf sc) : ∀ {es : List Expr} {ies : List IE}, opndsC rec sc es ies = true → SOs ad X W es (evO cf ies)
  | [], [], _ => sos_nil
  | [], _ :: _, h => by cases h
  | e :: es, [], h => by cases h
  | e :: es, ie :: ies, h => by
    simp only [opndsC, Bool.and_eq_true] at h
    exact sos_cons (opnd_ok hr h.1.2 g) (opnds_ok hr g h.2) (star_cons h.1.1 _)
def listC (rec : Rec) (sc : Sc) : List Expr → List IE → Bool
  | [], [] => true
  | e :: es, ie :: ies => plainE e && rec false sc e ie && listC rec sc es ies
  | _, _ => false
theorem list_ok {rec : Rec} (hr : RecOk ad rec) {sc : Sc} {X : Cx} {W : WX} {cf : Cf} (g : Good ad X W cf sc) : ∀ {es : List Expr} {ies : List IE}, listC rec sc es ies = true → SLs ad X W es (evL cf ies)
  | [], [], _ => sls_nil
  | [], _ :: _, h => by cases h
  | e :: es, [], h => by cases h
  | e :: es, ie :: ies, h => by
    simp only [listC, Bool.and_eq_true] at h
    exact sls_cons (hr _ _ _ _ h.1.2 X W cf g) (list_ok hr g h.2) (star_cons h.1.1 _)
def argC (rec : Rec) (sc : Sc) (ln : Bool) (e : Expr) : IE → Bool
  | .loc i => if ln then (match e with
    | .Name x _ => nameC sc x i
    | _ => false) else rec false sc e (.loc i)
  | .it _ _ => false
  | ie => rec false sc e ie
theorem arg_ok {rec : Rec} (hr : RecOk ad rec) {sc : Sc} {ln : Bool} {e : Expr} {ie : IE} (h : argC rec sc ln e ie = true) {X : Cx} {W : WX} {cf : Cf} (g : Good ad X W cf sc) : SO ad X W e (opA ln ie (evE cf ie)) := by
  refine so_opA (fun hb => ?_) fun hb => ?_
  · subst hb
    refine opnd_ok hr ?_ g
    cases ie <;> first
      | exact h
      | (simp only [argC, if_true] at h; exact h)
      | cases h
  · subst hb
    have h' : rec false sc e ie = true := by
      cases ie <;> first
        | exact h
        | cases h
    exact hr _ _ _ _ h' X W cf g
def argsC (rec : Rec) (sc : Sc) : List Bool → List Expr → List IE → Bool
  | _, [], [] => true
  | ls, e :: es, ie :: ies => plainE e && argC rec sc (ls.headD false) e ie && argsC rec sc ls.tail es ies
  | _, _, _ => false
theorem argsC_plain {rec : Rec} {sc : Sc} : ∀ {ls : List Bool} {es : List Expr} {ies : List IE}, argsC rec sc ls es ies = true → plainEs es = true
  | _, [], _, _ => rfl
  | _, e :: es, [], h => by cases h
  | ls, e :: es, ie :: ies, h => by
    simp only [argsC, Bool.and_eq_true] at h
    simp only [plainEs, Bool.and_eq_true]
    exact ⟨h.1.1, argsC_plain h.2⟩
theorem args_ok {rec : Rec} (hr : RecOk ad rec) {sc : Sc} {X : Cx} {W : WX} {cf : Cf} (g : Good ad X W cf sc) : ∀ {ls : List Bool} {es : List Expr} {ies : List IE}, argsC rec sc ls es ies = true → SAs ad X W es (evA cf ls ies)
  | _, [], [], _ => sas_nil
  | _, [], _ :: _, h => by cases h
  | _, e :: es, [], h => by cases h
  | ls, e :: es, ie :: ies, h => by
    simp only [argsC, Bool.and_eq_true] at h
    exact sas_cons (arg_ok hr h.1.2 g) (args_ok hr g h.2) (star_cons h.1.1 _)
end Y
end
section
set_option Elab.async false
set_option linter.all false
set_option maxRecDepth 100000
set_option maxHeartbeats 4000000
set_option autoImplicit false
/-! Y13: the checker: operations, targets, what is walked. -/
namespace Y
open PySem L2
variable {ad : Ad} {K : PySem.W.Frag} {G G' G1 G2 H H' H1 H2 : Hp}
section
variable {X : Cx} {W : WX} {cf : Cf} {sc : Sc} {rec : Rec}
/-! ### operations -/
def binC (rec : Rec) (sc : Sc) (o : Operator) (e : Expr) (es : List IE) : Bool := match e, es with
  | .BinOp a o' b _, [x, y] => decide (o = o') && opndC rec sc a x && opndC rec sc b y
  | _, _ => false
theorem bin_ok (hr : RecOk ad rec) {o : Operator} {e : Expr} {es : List IE} (h : binC rec sc o e es = true) (g : Good ad X W cf sc) : SE ad X W e (evE cf (.op (.bin o) es)) := by
  unfold binC at h
  split at h
  · simp only [Bool.and_eq_true, decide_eq_true_eq] at h
    obtain ⟨⟨rfl, h1⟩, h2⟩ := h
    exact (pe_op (op_bin o) (opnd_ok hr h1 g) (opnd_ok hr h2 g)).imp fun _ _ _ q => rd_op2 q
  · cases h
def cmpC (rec : Rec) (sc : Sc) (o : CmpOp) (e : Expr) (es : List IE) : Bool := match e, es with
  | .Compare a [o'] [b] _, [x, y] => decide (o = o') && !behindInMarks o b && opndC rec sc a x && opndC rec sc b y
  | _, _ => false
theorem cmp_ok (hr : RecOk ad rec) {o : CmpOp} {e : Expr} {es : List IE} (h : cmpC rec sc o e es = true) (g : Good ad X W cf sc) : SE ad X W e (evE cf (.op (.cmp o) es)) := by
  unfold cmpC at h
  split at h
  · simp only [Bool.and_eq_true, decide_eq_true_eq, Bool.not_eq_true'] at h
    obtain ⟨⟨⟨rfl, h0⟩, h1⟩, h2⟩ := h
    exact (pe_cmpR (op_cmpN g.hu o) (opnd_ok hr h1 g) (opnd_ok hr h2 g) h0).imp fun _ _ _ q => rd_op2 q
  · cases h
/-- .. as a test -/
theorem cmp_okT (hr : RecOk ad rec) {o : CmpOp} {e : Expr} {es : List IE} (h : cmpC rec sc o e es = true) (g : Good ad X W cf sc) : ST ad X W e (evT cf (.op (.cmp o) es) (evE cf (.op (.cmp o) es))) := by
  unfold cmpC at h
  split at h
  · simp only [Bool.and_eq_true, decide_eq_true_eq, Bool.not_eq_true'] at h
    obtain ⟨⟨⟨rfl, h0⟩, h1⟩, h2⟩ := h
    exact (pt_cmpR (op_cmpN g.hu o) (opnd_ok hr h1 g) (opnd_ok hr h2 g) h0).imp fun _ _ _ q => rd_op2 (rd_asB (by simpa only [evT] using q))
  · cases h
def negC (rec : Rec) (sc : Sc) (e : Expr) (es : List IE) : Bool := match e, es with
  | .UnaryOp .USub a _, [x] => opndC rec sc a x
  | _, _ => false
theorem neg_ok (hr : RecOk ad rec) {e : Expr} {es : List IE} (h : negC rec sc e es = true) (g : Good ad X W cf sc) : SE ad X W e (evE cf (.op .neg es)) := by
  unfold negC at h
  split at h
  · refine (pe_un un_neg (opnd_ok hr h g)).imp fun _ _ _ q => rd_imp (rd_op1 q) fun v H1 q => ?_
    obtain ⟨p, G, c, r, vp, hh, e, k⟩ := rn1 (c := []) q
    cases p with
    | int i =>
      cases e
      exact ⟨i, vp.int, done0 hh k (.int _)⟩
    | _ => cases e
  · cases h
def notC (rec : Rec) (sc : Sc) (e : Expr) (es : List IE) : Bool := match e, es with
  | .UnaryOp .Not a _, [x] => opndC rec sc a x
  | _, _ => false
theorem not_ok (hr : RecOk ad rec) {e : Expr} {es : List IE} (h : notC rec sc e es = true) (g : Good ad X W cf sc) : SE ad X W e (evE cf (.op .not es)) := by
  unfold notC at h
  split at h
  · refine (pe_not (opnd_ok hr h g)).imp fun _ _ _ q => rd_imp (rd_op1 q) fun v H1 q => ?_
    obtain ⟨p, G, c, r, vp, hh, e, k⟩ := rn1 (c := []) q
    cases p with
    | bl i =>
      cases e
      exact ⟨i, vp.bl, done0 hh k (.bl _)⟩
    | _ => cases e
  · cases h
def plainIxE : Expr → Bool
  | .Slice _ _ _ _ => false
  | _ => true
theorem plainIxE_ok {e : Expr} (h : plainIxE e = true) : PlainIx e := by
  cases e <;> first
    | exact fun _ _ => rfl
    | cases h
def ixC (rec : Rec) (sc : Sc) (e : Expr) (es : List IE) : Bool := match e, es with
  | .Subscript a b _, [x, y] => plainIxE b && opndC rec sc a x && opndC rec sc b y
  | _, _ => false
theorem ix_ok (hr : RecOk ad rec) {e : Expr} {es : List IE} (h : ixC rec sc e es = true) (g : Good ad X W cf sc) : SE ad X W e (evE cf (.op .ix es)) := by
  unfold ixC at h
  split at h
  · simp only [Bool.and_eq_true] at h
    obtain ⟨⟨h0, h1⟩, h2⟩ := h
    exact (pe_ix op_ixN (opnd_ok hr h1 g) (opnd_ok hr h2 g) (plainIxE_ok h0)).imp fun _ _ _ q => rd_op2 q
  · cases h
def sliceC (rec : Rec) (sc : Sc) (lo hi : Bool) (e : Expr) (es : List IE) : Bool := match lo, hi, e, es with
  | false, false, .Subscript a (.Slice none none none _) _, [x] => opndC rec sc a x
  | true, false, .Subscript a (.Slice (some b) none none _) _, [x, y] => opndC rec sc a x && opndC rec sc b y
  | false, true, .Subscript a (.Slice none (some b) none _) _, [x, y] => opndC rec sc a x && opndC rec sc b y
  | _, _, _, _ => false
theorem slice_ok (hr : RecOk ad rec) {lo hi : Bool} {e : Expr} {es : List IE} (h : sliceC rec sc lo hi e es = true) (g : Good ad X W cf sc) : SE ad X W e (evE cf (.op (.slice lo hi) es)) := by
  unfold sliceC at h
  split at h
  · exact se_slice0 (opnd_ok hr h g)
  · rw [Bool.and_eq_true] at h
    exact se_slice1 (opnd_ok hr h.1 g) (opnd_ok hr h.2 g)
  · rw [Bool.and_eq_true] at h
    exact se_slice2 (opnd_ok hr h.1 g) (opnd_ok hr h.2 g)
  · cases h
def backC (rec : Rec) (sc : Sc) (e : Expr) (es : List IE) : Bool := match e, es with
  | .Subscript a (.Slice none none (some (.UnaryOp .USub (.Constant (.int i) _ _) _)) _) _, [x] => decide (i = 1) && opndC rec sc a x
  | _, _ => false
theorem back_ok (hr : RecOk ad rec) {e : Expr} {es : List IE} (h : backC rec sc e es = true) (g : Good ad X W cf sc) : SE ad X W e (evE cf (.op .back es)) := by
  unfold backC at h
  split at h
  · simp only [Bool.and_eq_true, decide_eq_true_eq] at h
    obtain ⟨rfl, h⟩ := h
    exact se_back (opnd_ok hr h g)
  · cases h
/-- f(e, ..), f built in -/
def bltCallC (rec : Rec) (sc : Sc) (y : String) (e : Expr) (es : List IE) : Bool := match e with
  | .Call (.Name x _) (a :: as) [] _ => bltC sc x (Str.ofString y) && opndsC rec sc (a :: as) es
  | _ => false
theorem bltCall_ok (hr : RecOk ad rec) {y : String} {f : Op} {e : Expr} {es : List IE} (h : bltCallC rec sc y e es = true) (g : Good ad X W cf sc)
    (hc : (∃ id, bootBuiltins (Str.ofString y) = some (.builtin id) ∧ CallR X (.builtin id) fun xs H Q => RN ad X.K (opN f) xs H Q) ∨ (∃ id, bootBuiltins (Str.ofString y) = some (.type id) ∧ CallR X (.type id) fun xs H Q => RN ad X.K (opN f) xs H Q)) : SE ad X W e (evE cf (.op f es)) := by
  unfold bltCallC at h
  split at h
  · rw [Bool.and_eq_true] at h
    obtain ⟨rfl, h1, h2, h3, h4⟩ := g.bt h.1
    have hp := opndsC_plain h.2
    simp only [plainEs, Bool.and_eq_true] at hp
    have ha := opnds_ok (W := W) hr g h.2
    rcases hc with ⟨id, hb, hc⟩ | ⟨id, hb, hc⟩
    · exact (pe_callB hc h1 h2 hb ha h4 h3 (star_cons hp.1 _) (back_plain hp.2)).imp fun _ _ _ q => rd_op q
    · exact (pe_callTy hc h1 h2 hb ha h4 h3 (star_cons hp.1 _) (back_plain hp.2)).imp fun _ _ _ q => rd_op q
  · cases h
/-- 'sep'.join(e) -/
def joinC (rec : Rec) (sc : Sc) (e : Expr) (es : List IE) : Bool := match e, es with
  | .Call (.Attribute (.Constant (.str z) _ _) name apos) [a] [] cpos, [.cst (.str z'), x] => decide (name = ("join" : Str)) && decide (z = z') && (apos.endLine == cpos.line) && opndsC rec sc [a] [x]
  | _, _ => false
theorem rd_os_cst {z : Str} {es : List IE} {σ : St} {H : Hp} {Q : List V → Hp → Prop} (h : rd ad X W (RelOs ad X.K) (evO cf (.cst (.str z) :: es)) σ H Q) : rd ad X W (RelOs ad X.K) (evO cf es) σ H fun xs H1 => Q (.str z :: xs) H1 := by
  obtain ⟨ρ, G, c, sl, hh, ha⟩ := h
  simp only [evO, opnd, evE, Res.bind, PV.frz] at ha
  refine ⟨ρ, G, c, sl, hh, ?_⟩
  cases e : evO cf es ρ with
  | bad => rw [e] at ha; exact ha
  | ex x r => rw [e] at ha; exact ha
  | ok os ρ1 =>
    rw [e] at ha
    exact fun v H1 G1 c1 t s sl1 h1 ⟨et, hv⟩ => ha _ H1 G1 c1 t s sl1 h1 ⟨et, .cons (.str z) hv⟩
theorem join_ok (hr : RecOk ad rec) {e : Expr} {es : List IE} (h : joinC rec sc e es = true) (g : Good ad X W cf sc) : SE ad X W e (evE cf (.op .join es)) := by
  unfold joinC at h
  split at h
  · simp only [Bool.and_eq_true, decide_eq_true_eq] at h
    obtain ⟨⟨⟨rfl, rfl⟩, hl⟩, h⟩ := h
    have hp := opndsC_plain h
    simp only [plainEs, Bool.and_eq_true] at hp
    have ha := opnds_ok (W := W) hr g h
    refine (pe_bm PySem.F.plainAttrs_str PySem.F.slot_str_join PySem.F.type_str_join (mtN_join (ad := ad)) pe_str ha rfl ?_ hl (star_cons hp.1 _) rfl).imp fun _ _ _ q => ?_
    · rw [all_plain (by simp [plainEs, hp.1])]
      rfl
    · exact ⟨rfl, rd_os_cst (rd_op q)⟩
  · cases h
/-! ### targets -/
def locC (sc : Sc) (x : Str) : Bool := match sc.scope.names.lookup x with
  | some .local => true
  | some .cell => sc.fnS x
  | _ => false
def tgC : Nat → Sc → Expr → IT → Bool
  | 0, _, _, _ => false
  | n + 1, sc, e, t => (match e, t with
    | .Name x _, .nm i => decide (sc.N[i]? = some x) && locC sc x
    | .Tuple es _ _, .tp ts => tgsC (tgC n) sc es ts
    | _, _ => false)
where tgsC (rec : Sc → Expr → IT → Bool) (sc : Sc) : List Expr → List IT → Bool
  | [], [] => true
  | e :: es, t :: ts => plainE e && rec sc e t && tgsC rec sc es ts
  | _, _ => false
theorem Good.loc (g : Good ad X W cf sc) {x : Str} (h : locC sc x = true) : Loc X.env.scope x ∧ (X.fn x = true ∨ X.env.scope.names.lookup x = some .local) := by
  rw [g.hsc]
  unfold locC at h
  split at h
  · exact ⟨.inl (by assumption), .inr (by assumption)⟩
  · exact ⟨.inr (by assumption), .inl (g.hfn _ h)⟩
  · cases h
theorem assign_cons {e : Expr} {es : List Expr} (h : plainE e = true) (env : Env) : assignEach (e :: es) env = (false, assign e env) :: assignEach es env := by
  cases e <;> first
    | rfl
    | cases h
theorem tgs_plain {r : Sc → Expr → IT → Bool} : ∀ {es : List Expr} {ts : List IT}, tgC.tgsC r sc es ts = true → (∀ env, (assignEach es env).length = ts.length ∧ (assignEach es env).findIdx? (·.1) = none)
  | [], [], _ => fun _ => ⟨rfl, rfl⟩
  | [], _ :: _, h => by cases h
  | _ :: _, [], h => by cases h
  | e :: es, t :: ts, h => fun env => by
    simp only [tgC.tgsC, Bool.and_eq_true] at h
    obtain ⟨h1, h2⟩ := tgs_plain h.2 env
    rw [assign_cons h.1.1]
    simp [h1, h2, List.findIdx?_cons]
theorem tg_ok (g : Good ad X W cf sc) (hc : sc.calm = true) : ∀ (n : Nat) {e : Expr} {t : IT}, tgC n sc e t = true → PG X e (rdG ad X t)
  | 0, _, _, h => by cases h
  | n + 1, e, t, h => by
    unfold tgC at h
    split at h
    · simp only [Bool.and_eq_true, decide_eq_true_eq] at h
      obtain ⟨h1, h2⟩ := g.loc h.2
      exact sg_nm (.of_none (g.calm hc).2.1) (pg_name g.nd (by rw [g.hN]; exact h.1) h1 h2)
    · have key : ∀ {es : List Expr} {ts : List IT}, tgC.tgsC (tgC n) sc es ts = true → PGs X es (rdGs ad X ts) := by
        intro es
        induction es with
        | nil =>
          intro ts h
          cases ts with
          | nil => exact sgs_nil
          | cons => cases h
        | cons e es ih =>
          intro ts h
          cases ts with
          | nil => cases h
          | cons t ts =>
            simp only [tgC.tgsC, Bool.and_eq_true] at h
            exact sgs_cons (tg_ok g hc n h.1.2) (ih h.2) (by rw [assign_cons h.1.1]; rfl)
      have hp := tgs_plain h X.env
      exact sg_tp (g.calm hc).1 (key h) hp.1 hp.2
    · cases h
/-! ### what is walked -/
def notSet : Expr → Bool
  | .Set _ _ _ => false
  | _ => true
theorem notSet_ok {e : Expr} (h : notSet e = true) (env : Env) (x : Value) : foldedSetIterable e env x = pure x := by
  cases e <;> first
    | rfl
    | cases h
def isTup : Expr → Bool
  | .Tuple _ _ _ => true
  | _ => false
def srcC (rec : Rec) (sc : Sc) (tg it : Expr) : ISrc → Bool
  | .it e => rec false sc it e
  | .rng es => (match it, es with
    | .Call (.Name x _) [a] [] _, [e] => bltC sc x ("range" : Str) && opndsC rec sc [a] [e]
    | .Call (.Name x _) [a, b] [] _, [e, f] => bltC sc x ("range" : Str) && opndsC rec sc [a, b] [e, f]
    | _, _ => false)
  | .enm e => (match it with
    | .Call (.Name x _) [a] [] _ => bltC sc x ("enumerate" : Str) && isTup tg && plainE a && rec false sc a e
    | _ => false)
  | .zp e f => (match it with
    | .Call (.Name x _) [a, b] [] _ => bltC sc x ("zip" : Str) && isTup tg && plainE a && plainE b && rec false sc a e && rec false sc b f
    | _ => false)
theorem star1 {a : Expr} (h : plainE a = true) (env : Env) : starEach [a] env = [(false, eval a env)] := star_cons h env
theorem star2 {a b : Expr} (h : plainE a = true) (h2 : plainE b = true) (env : Env) : starEach [a, b] env = [(false, eval a env), (false, eval b env)] := by
  rw [star_cons h, star1 h2]
theorem src_ok (hr : RecOk ad rec) {tg it : Expr} {src : ISrc} (h : srcC rec sc tg it src = true) (g : Good ad X W cf sc) : SI ad X W tg it (evSrc cf src) := by
  cases src with
  | it e => exact si_it (hr _ _ _ _ h X W cf g)
  | rng es =>
    simp only [srcC] at h
    split at h
    · rw [Bool.and_eq_true] at h
      obtain ⟨rfl, h1, h2, h3, h4⟩ := g.bt h.1
      have hp := opndsC_plain h.2
      simp only [plainEs, Bool.and_eq_true] at hp
      exact si_rng1 h1 h2 (opnds_ok hr g h.2) (star1 hp.1 _)
    · rw [Bool.and_eq_true] at h
      obtain ⟨rfl, h1, h2, h3, h4⟩ := g.bt h.1
      have hp := opndsC_plain h.2
      simp only [plainEs, Bool.and_eq_true] at hp
      exact si_rng2 h1 h2 (opnds_ok hr g h.2) (star2 hp.1 hp.2.1 _) (star1 hp.2.1 _)
    · cases h
  | enm e =>
    simp only [srcC] at h
    split at h
    · simp only [Bool.and_eq_true] at h
      obtain ⟨⟨⟨hb, ht⟩, hp⟩, h⟩ := h
      obtain ⟨rfl, h1, h2, h3, h4⟩ := g.bt hb
      cases tg with
      | Tuple elts k p => exact si_enm h1 h2 (hr _ _ _ _ h X W cf g) (star1 hp _)
      | _ => cases ht
    · cases h
  | zp e f =>
    simp only [srcC] at h
    split at h
    · simp only [Bool.and_eq_true] at h
      obtain ⟨⟨⟨⟨⟨hb, ht⟩, hp⟩, hp2⟩, h⟩, h'⟩ := h
      obtain ⟨rfl, h1, h2, h3, h4⟩ := g.bt hb
      cases tg with
      | Tuple elts k p => exact si_zip h1 h2 (hr _ _ _ _ h X W cf g) (hr _ _ _ _ h' X W cf g) (star2 hp hp2 _) (star1 hp2 _)
      | _ => cases ht
    · cases h
end
end Y
end
section
set_option Elab.async false
set_option linter.all false
set_option maxRecDepth 100000
set_option maxHeartbeats 4000000
set_option autoImplicit false
/-! Y14: the checker: expressions, whole. -/
namespace Y
open PySem L2
variable {ad : Ad} {K : PySem.W.Frag} {G G' G1 G2 H H' H1 H2 : Hp}
theorem bf_len : bootBuiltins (Str.ofString "len") = some (.builtin "len") := by decide +kernel
theorem bf_list : bootBuiltins (Str.ofString "list") = some (.type "list") := by decide +kernel
theorem bf_tuple : bootBuiltins (Str.ofString "tuple") = some (.type "tuple") := by decide +kernel
theorem bf_int : bootBuiltins (Str.ofString "int") = some (.type "int") := by decide +kernel
theorem bf_str : bootBuiltins (Str.ofString "str") = some (.type "str") := by decide +kernel
theorem bf_all : bootBuiltins (Str.ofString "all") = some (.builtin "all") := by decide +kernel
theorem bf_any : bootBuiltins (Str.ofString "any") = some (.builtin "any") := by decide +kernel
theorem bf_sum : bootBuiltins (Str.ofString "sum") = some (.builtin "sum") := by decide +kernel
theorem bf_max : bootBuiltins (Str.ofString "max") = some (.builtin "max") := by decide +kernel
theorem bf_min : bootBuiltins (Str.ofString "min") = some (.builtin "min") := by decide +kernel
theorem bf_sorted : bootBuiltins (Str.ofString "sorted") = some (.builtin "sorted") := by decide +kernel
theorem bf_isi : bootBuiltins (Str.ofString "isinstance") = some (.builtin "isinstance") := by decide +kernel
section
variable {X : Cx} {W : WX} {cf : Cf} {sc : Sc} {rec : Rec} {pos : Pos}
def opC (rec : Rec) (sc : Sc) (e : Expr) (es : List IE) : Op → Bool
  | .bin o => binC rec sc o e es
  | .cmp o => cmpC rec sc o e es
  | .neg => negC rec sc e es
  | .not => notC rec sc e es
  | .ix => ixC rec sc e es
  | .slice lo hi => sliceC rec sc lo hi e es
  | .back => backC rec sc e es
  | .len => bltCallC rec sc "len" e es
  | .list => bltCallC rec sc "list" e es
  | .tuple => bltCallC rec sc "tuple" e es
  | .int => bltCallC rec sc "int" e es
  | .str => bltCallC rec sc "str" e es
  | .all => sc.calm && bltCallC rec sc "all" e es
  | .any => sc.calm && bltCallC rec sc "any" e es
  | .sum => sc.calm && bltCallC rec sc "sum" e es
  | .max => sc.calm && bltCallC rec sc "max" e es
  | .sorted => bltCallC rec sc "sorted" e es
  | .isi => bltCallC rec sc "isinstance" e es
  | .join => joinC rec sc e es
  | .split => false
  | .min2 => sc.calm && bltCallC rec sc "min" e es
theorem op_ok (hr : RecOk ad rec) {f : Op} {e : Expr} {es : List IE} (h : opC rec sc e es f = true) (g : Good ad X W cf sc) : SE ad X W e (evE cf (.op f es)) := by
  cases f with
  | bin o => exact bin_ok hr h g
  | cmp o => exact cmp_ok hr h g
  | neg => exact neg_ok hr h g
  | not => exact not_ok hr h g
  | ix => exact ix_ok hr h g
  | slice lo hi => exact slice_ok hr h g
  | back => exact back_ok hr h g
  | len => exact bltCall_ok hr h g (.inl ⟨_, bf_len, callN_len⟩)
  | list => exact bltCall_ok hr h g (.inr ⟨_, bf_list, callN_list⟩)
  | tuple => exact bltCall_ok hr h g (.inr ⟨_, bf_tuple, callN_tuple⟩)
  | int => exact bltCall_ok hr h g (.inr ⟨_, bf_int, callN_int⟩)
  | str => exact bltCall_ok hr h g (.inr ⟨_, bf_str, callN_str⟩)
  | all =>
    rw [opC, Bool.and_eq_true] at h
    exact bltCall_ok hr h.2 g (.inl ⟨_, bf_all, callN_all (g.calm h.1).1⟩)
  | any =>
    rw [opC, Bool.and_eq_true] at h
    exact bltCall_ok hr h.2 g (.inl ⟨_, bf_any, callN_any (g.calm h.1).1⟩)
  | sum =>
    rw [opC, Bool.and_eq_true] at h
    exact bltCall_ok hr h.2 g (.inl ⟨_, bf_sum, callN_sum (g.calm h.1).1⟩)
  | max =>
    rw [opC, Bool.and_eq_true] at h
    exact bltCall_ok hr h.2 g (.inl ⟨_, bf_max, callN_max (g.calm h.1).1⟩)
  | sorted => exact bltCall_ok hr h g (.inl ⟨_, bf_sorted, callN_sorted g.hu⟩)
  | isi => exact bltCall_ok hr h g (.inl ⟨_, bf_isi, callN_isi⟩)
  | join => exact join_ok hr h g
  | split => cases h
  | min2 =>
    rw [opC, Bool.and_eq_true] at h
    exact bltCall_ok hr h.2 g (.inl ⟨_, bf_min, callN_min2 (g.calm h.1).1⟩)
/-! ### and, or -/
def boolC (rec : Rec) (m : Bool) (sc : Sc) (o : BoolOp) : List Expr → IE → Bool
  | [], _ => false
  | [a], x => rec m sc a x
  | a :: b :: r, x => (match o, x with
    | .And, .and y z => rec m sc a y && boolC rec m sc o (b :: r) z
    | .Or, .or y z => rec m sc a y && boolC rec m sc o (b :: r) z
    | _, _ => false)
theorem bool_ok (hr : RecOk ad rec) {o : BoolOp} (g : Good ad X W cf sc) : ∀ {es : List Expr} {ie : IE}, boolC rec false sc o es ie = true → SE ad X W (.BoolOp o es pos) (evE cf ie)
  | [], _, h => by cases h
  | [a], x, h => pe_one (hr _ _ _ _ h X W cf g)
  | a :: b :: r, x, h => by
    unfold boolC at h
    split at h
    · rw [Bool.and_eq_true] at h
      exact se_and (hr _ _ _ _ h.1 X W cf g) (bool_ok hr g h.2)
    · rw [Bool.and_eq_true] at h
      exact se_or (hr _ _ _ _ h.1 X W cf g) (bool_ok hr g h.2)
    · cases h
theorem bool_okW (hr : RecOk ad rec) {o : BoolOp} (g : Good ad X W cf sc) : ∀ {es : List Expr} {ie : IE}, boolC rec true sc o es ie = true → SW ad X W (.BoolOp o es pos) (evT cf ie (evE cf ie))
  | [], _, h => by cases h
  | [a], x, h => by
    cases o with
    | And => exact pw_and1 (hr _ _ _ _ h X W cf g)
    | Or => exact pw_or1 (hr _ _ _ _ h X W cf g)
  | a :: b :: r, x, h => by
    unfold boolC at h
    split at h
    · rw [Bool.and_eq_true] at h
      exact sw_and (hr _ _ _ _ h.1 X W cf g) (bool_okW hr g h.2)
    · rw [Bool.and_eq_true] at h
      exact sw_or (hr _ _ _ _ h.1 X W cf g) (bool_okW hr g h.2)
    · cases h
/-! ### comprehensions -/
def Sc.blk (sc : Sc) (scope : Scope) : Sc := { sc with scope := relS scope sc.scope, fnS := fun x => scope.names.lookup x == some .cell }
def ownP (sc : Sc) (own : List Nat) : List (Str × Nat) := own.map fun i => (sc.N.getD i ⟨#[]⟩, i)
theorem ownP_map (sc : Sc) (own : List Nat) : (ownP sc own).map (·.2) = own := by
  unfold ownP
  rw [List.map_map]
  exact List.map_id _
theorem Good.blk (g : Good ad X W cf sc) (hc : sc.calm = true) {s : Shared} {H : Hp} {scope : Scope} {cl : List (Str × Addr)} {C : Addr} {fp : List Addr} : Good ad (X.blk s H scope (compEnvC scope cl C X.env) fp) W0 cf (sc.blk scope) where
  hN := g.hN
  nd := g.nd
  hsc := by
    show relS scope X.env.scope = relS scope sc.scope
    rw [g.hsc]
  hfn := fun x h => h
  calm := fun h => g.calm h
  held := fun i h x hx => by rw [(g.calm hc).2.2] at hx; cases hx
  hu := g.hu
  tk := takes0
  blt := g.blt
  glob := fun x ge h => by
    have := g.glob x ge h
    cases ge with
    | fn k => exact this
    | cst p => exact this
    | xc d => exact this
  lend := g.lend
def ifsC (rec : Rec) (sc : Sc) : List Expr → List IE → Bool
  | [], [] => true
  | [e], [x] => rec true sc e x
  | _, _ => false
theorem ifs_ok (hr : RecOk ad rec) {es : List Expr} {ies : List IE} (h : ifsC rec sc es ies = true) (g : Good ad X W cf sc) : PTs X es (rd ad X W RelB (evIfs cf ies)) := by
  unfold ifsC at h
  split at h
  · refine ⟨fun pins s σ H Q I hw => pts_nil.run pins s σ H Q I ?_⟩
    obtain ⟨ρ, G, c, sl, hh, ha⟩ := hw
    simp only [evIfs] at ha
    exact aft_b ha sl hh
  · have := pts_one (hr _ _ _ _ h X W cf g)
    refine ⟨fun pins s σ H Q I hw => this.run pins s σ H Q I ?_⟩
    simpa only [evIfs] using hw
  · cases h
def compC (rec : Rec) (sc : Sc) (el t it : Expr) (fs : List Expr) (scope : Scope) (elt : IE) (tg : IT) (src : ISrc) (ifs : List IE) (own : List Nat) : Bool :=
  sc.calm && blkC sc.N sc.scope scope (ownP sc own) && srcC rec sc t it src && notSet it && tgC 5 (sc.blk scope) t tg && tg.slots.all own.contains && ifsC rec (sc.blk scope) fs ifs && rec false (sc.blk scope) el elt
structure CompOk (ad : Ad) (X : Cx) (W : WX) (cf : Cf) (el t it : Expr) (fs : List Expr) (scope : Scope) (elt : IE) (tg : IT) (src : ISrc) (ifs : List IE) (own : List (Str × Nat)) : Prop where
  calm : X.calm = true
  hn : ad.cur = none
  si : SI ad X W t it (evSrc cf src)
  bo : BlkOk X.N X.env.scope scope own
  sl : ∀ j ∈ tg.slots, j ∈ own.map (·.2)
  pg : ∀ (s : Shared) (H : Hp) (C : Addr) (cl : List (Str × Addr)) (fp : List Addr), PG (X.blk s H scope (compEnvC scope cl C X.env) fp) t (rdG ad X tg)
  pt : ∀ (s : Shared) (H : Hp) (C : Addr) (cl : List (Str × Addr)) (fp : List Addr), PTs (X.blk s H scope (compEnvC scope cl C X.env) fp) fs (rd ad X W0 RelB (evIfs cf ifs))
  pe : ∀ (s : Shared) (H : Hp) (C : Addr) (cl : List (Str × Addr)) (fp : List Addr), PE (X.blk s H scope (compEnvC scope cl C X.env) fp) el (rd ad X W0 (RelP ad X.K) (evE cf elt))
  fs : ∀ x, foldedSetIterable it X.env x = pure x
theorem comp_ok (hr : RecOk ad rec) {el t it : Expr} {fs : List Expr} {scope : Scope} {elt : IE} {tg : IT} {src : ISrc} {ifs : List IE} {own : List Nat} (h : compC rec sc el t it fs scope elt tg src ifs own = true) (g : Good ad X W cf sc) : CompOk ad X W cf el t it fs scope elt tg src ifs (ownP sc own) := by
  unfold compC at h
  simp only [Bool.and_eq_true] at h
  obtain ⟨⟨⟨⟨⟨⟨⟨hc, h1⟩, h2⟩, h3⟩, h4⟩, h5⟩, h6⟩, h7⟩ := h
  refine ⟨(g.calm hc).1, (g.calm hc).2.1, src_ok hr h2 g, ?_, ?_, fun s H C cl fp => tg_ok (W := W0) (cf := cf) (g.blk hc) hc 5 h4, fun s H C cl fp => ifs_ok (W := W0) hr h6 (g.blk hc), fun s H C cl fp => hr _ _ _ _ h7 _ W0 cf (g.blk hc), notSet_ok h3 _⟩
  · rw [g.hN, g.hsc]
    exact blkOk_by h1
  · rw [ownP_map]
    exact fun j hj => List.contains_iff_mem.mp (List.all_eq_true.mp h5 j hj)
theorem CompOk.se {el t it : Expr} {fs : List Expr} {scope : Scope} {elt : IE} {tg : IT} {src : ISrc} {ifs : List IE} {own : List (Str × Nat)} (c : CompOk ad X W cf el t it fs scope elt tg src ifs own) (nd : X.N.Nodup) :
    SE ad X W (.ListComp el [⟨t, it, fs, 0⟩] scope pos) (evE cf (.comp elt tg src ifs (own.map (·.2)))) :=
  se_comp c.hn c.calm nd c.si c.bo c.sl c.pg c.pt c.pe c.fs
def compVC (rec : Rec) (sc : Sc) (el t : Expr) (x : Str) (fs : List Expr) (scope : Scope) (elt : IE) (tg : IT) (i : Nat) (ifs : List IE) (own : List Nat) : Bool :=
  sc.calm && blkC sc.N sc.scope scope (ownP sc own) && nameC sc x i && tgC 5 (sc.blk scope) t tg && tg.slots.all own.contains && ifsC rec (sc.blk scope) fs ifs && rec false (sc.blk scope) el elt
structure CompVOk (ad : Ad) (X : Cx) (W : WX) (cf : Cf) (el t : Expr) (x : Str) (fs : List Expr) (scope : Scope) (elt : IE) (tg : IT) (i : Nat) (ifs : List IE) (own : List (Str × Nat)) : Prop where
  calm : X.calm = true
  hn : ad.cur = none
  nm : ∀ p, PE X (.Name x p) (tVar i)
  bo : BlkOk X.N X.env.scope scope own
  sl : ∀ j ∈ tg.slots, j ∈ own.map (·.2)
  pg : ∀ (s : Shared) (H : Hp) (C : Addr) (cl : List (Str × Addr)) (fp : List Addr), PG (X.blk s H scope (compEnvC scope cl C X.env) fp) t (rdG ad X tg)
  pt : ∀ (s : Shared) (H : Hp) (C : Addr) (cl : List (Str × Addr)) (fp : List Addr), PTs (X.blk s H scope (compEnvC scope cl C X.env) fp) fs (rd ad X W0 RelB (evIfs cf ifs))
  pe : ∀ (s : Shared) (H : Hp) (C : Addr) (cl : List (Str × Addr)) (fp : List Addr), PE (X.blk s H scope (compEnvC scope cl C X.env) fp) el (rd ad X W0 (RelP ad X.K) (evE cf elt))
theorem compV_ok (hr : RecOk ad rec) {el t : Expr} {x : Str} {fs : List Expr} {scope : Scope} {elt : IE} {tg : IT} {i : Nat} {ifs : List IE} {own : List Nat} (h : compVC rec sc el t x fs scope elt tg i ifs own = true) (g : Good ad X W cf sc) : CompVOk ad X W cf el t x fs scope elt tg i ifs (ownP sc own) := by
  unfold compVC at h
  simp only [Bool.and_eq_true] at h
  obtain ⟨⟨⟨⟨⟨⟨hc, h1⟩, h2⟩, h4⟩, h5⟩, h6⟩, h7⟩ := h
  refine ⟨(g.calm hc).1, (g.calm hc).2.1, fun p => g.name h2, ?_, ?_, fun s H C cl fp => tg_ok (W := W0) (cf := cf) (g.blk hc) hc 5 h4, fun s H C cl fp => ifs_ok (W := W0) hr h6 (g.blk hc), fun s H C cl fp => hr _ _ _ _ h7 _ W0 cf (g.blk hc)⟩
  · rw [g.hN, g.hsc]
    exact blkOk_by h1
  · rw [ownP_map]
    exact fun j hj => List.contains_iff_mem.mp (List.all_eq_true.mp h5 j hj)
theorem CompVOk.se {el t : Expr} {x : Str} {p0 : Pos} {fs : List Expr} {scope : Scope} {elt : IE} {tg : IT} {i : Nat} {ifs : List IE} {own : List (Str × Nat)} (c : CompVOk ad X W cf el t x fs scope elt tg i ifs own) (nd : X.N.Nodup) :
    SE ad X W (.ListComp el [⟨t, .Name x p0, fs, 0⟩] scope pos) (evE cf (.compv elt tg i ifs (own.map (·.2)))) :=
  (pe_lc c.calm nd (pi_list (c.nm p0)) c.bo c.pg c.pt c.pe fun _ => rfl).imp fun _ _ _ q => rd_compv c.hn c.sl q
/-! ### expressions -/
def nameE (sc : Sc) (e : Expr) (i : Nat) : Bool := match e with
  | .Name x _ => nameC sc x i
  | _ => false
/-- a side of a comparison -/
def dspC (rec : Rec) (sc : Sc) (e : Expr) (t : Option Bool) (es : List IE) : Bool := match t, es with
  | none, [ie] => opndC rec sc e ie
  | some true, es => (match e with
    | .Tuple els _ _ => opndsC rec sc els es
    | _ => false)
  | some false, es => (match e with
    | .List els _ => opndsC rec sc els es
    | _ => false)
  | _, _ => false
theorem dsp_ok (hr : RecOk ad rec) {e : Expr} {t : Option Bool} {es : List IE} (h : dspC rec sc e t es = true) (g : Good ad X W cf sc) : SD ad X W cf e t es := by
  unfold dspC at h
  split at h
  · exact sd_one (opnd_ok hr h g)
  · split at h
    · exact sd_tup (opnds_ok hr g h)
    · cases h
  · split at h
    · exact sd_lst (opnds_ok hr g h)
    · cases h
  · cases h
def exprC (rec : Rec) (sc : Sc) (e : Expr) : IE → Bool
  | .cst p => cstC sc e p
  | .loc i => nameE sc e i
  | .mov i => nameE sc e i
  | .op f es => opC rec sc e es f
  | .chain f g x y z => (match e with
    | .Compare a [f', g'] [b, d] _ => decide (f = f') && decide (g = g') && !lastMarks [f, g] [b, d] && opndC rec sc a x && opndC rec sc b y && opndC rec sc d z
    | _ => false)
  | .dcmp f t es u ds => (match e with
    | .Compare a [f'] [b] _ => decide (f = f') && !behindInMarks f b && dspC rec sc a t es && dspC rec sc b u ds
    | _ => false)
  | .slc x y z => (match e with
    | .Subscript a (.Slice (some b) (some d) none _) _ => opndC rec sc a x && opndC rec sc b y && opndC rec sc d z
    | _ => false)
  | .and x y => (match e with
    | .BoolOp .And es _ => boolC rec false sc .And es (.and x y)
    | _ => false)
  | .or x y => (match e with
    | .BoolOp .Or es _ => boolC rec false sc .Or es (.or x y)
    | _ => false)
  | .ite t x y => (match e with
    | .IfExp c a b _ => rec true sc c t && rec false sc a x && rec false sc b y
    | _ => false)
  | .lst es => (match e with
    | .List els _ => listC rec sc els es
    | _ => false)
  | .tup es => (match e with
    | .Tuple els _ _ => listC rec sc els es
    | _ => false)
  | .call k ls es => (match e with
    | .Call (.Name x _) as [] _ => sc.calm && globC sc x && (match sc.gl.lookup x with
      | some (.fn k') => decide (k = k')
      | _ => false) && argsC rec sc ls as es
    | _ => false)
  | .comp elt tg src ifs own => (match e with
    | .ListComp el [⟨t, it, fs, as⟩] scope _ => decide (as = 0) && compC rec sc el t it fs scope elt tg src ifs own
    | _ => false)
  | .compv elt tg i ifs own => (match e with
    | .ListComp el [⟨t, .Name x _, fs, as⟩] scope _ => decide (as = 0) && compVC rec sc el t x fs scope elt tg i ifs own
    | _ => false)
  | .xf f => (match e, sc.cur with
    | .Attribute (.Name x _) n _, some i => decide (n = f) && nameC sc x i
    | _, _ => false)
  | .xi _ => false
  | .tupo es => (match e with
    | .Tuple els _ _ => listC rec sc els es
    | _ => false)
  | .it _ _ => false
theorem nameE_ok {e : Expr} {i : Nat} (h : nameE sc e i = true) (g : Good ad X W cf sc) : ∃ x p, e = .Name x p ∧ PE X (.Name x p) (tVar i) := by
  unfold nameE at h
  split at h
  · exact ⟨_, _, rfl, g.name h⟩
  · cases h
theorem expr_ok (hr : RecOk ad rec) {e : Expr} {ie : IE} (h : exprC rec sc e ie = true) : Snd ad false sc e ie := fun X W cf g => by
  cases ie with
  | cst p => exact cst_ok h X W cf g
  | loc i =>
    obtain ⟨x, p, rfl, hp⟩ := nameE_ok h g
    exact se_loc hp
  | mov i =>
    obtain ⟨x, p, rfl, hp⟩ := nameE_ok h g
    exact se_mov hp
  | op f es => exact op_ok hr h g
  | chain f g' x y z =>
    simp only [exprC] at h
    split at h
    · simp only [Bool.and_eq_true, decide_eq_true_eq, Bool.not_eq_true'] at h
      obtain ⟨⟨⟨⟨⟨rfl, rfl⟩, h0⟩, h1⟩, h2⟩, h3⟩ := h
      exact se_chain g.hu (opnd_ok hr h1 g) (opnd_ok hr h2 g) (opnd_ok hr h3 g) h0
    · cases h
  | dcmp f t es u ds =>
    simp only [exprC] at h
    split at h
    · simp only [Bool.and_eq_true, decide_eq_true_eq, Bool.not_eq_true'] at h
      obtain ⟨⟨⟨rfl, h0⟩, h1⟩, h2⟩ := h
      exact (pe_cmpR (op_cmpN g.hu _) (dsp_ok (W := W) hr h1 g) (dsp_ok (W := W) hr h2 g) h0).imp fun _ _ _ q => rd_dcmp q
    · cases h
  | slc x y z =>
    simp only [exprC] at h
    split at h
    · simp only [Bool.and_eq_true] at h
      exact se_slice3 (opnd_ok hr h.1.1 g) (opnd_ok hr h.1.2 g) (opnd_ok hr h.2 g)
    · cases h
  | and x y =>
    simp only [exprC] at h
    split at h
    · exact bool_ok hr g h
    · cases h
  | or x y =>
    simp only [exprC] at h
    split at h
    · exact bool_ok hr g h
    · cases h
  | ite t x y =>
    simp only [exprC] at h
    split at h
    · simp only [Bool.and_eq_true] at h
      exact se_ite (hr _ _ _ _ h.1.1 X W cf g) (hr _ _ _ _ h.1.2 X W cf g) (hr _ _ _ _ h.2 X W cf g)
    · cases h
  | lst es =>
    simp only [exprC] at h
    split at h
    · exact se_lst (list_ok hr g h)
    · cases h
  | tup es =>
    simp only [exprC] at h
    split at h
    · exact se_tup (list_ok hr g h)
    · cases h
  | call k ls es =>
    simp only [exprC] at h
    split at h
    · rename_i x p as p2
      simp only [Bool.and_eq_true] at h
      obtain ⟨⟨⟨hc, h1⟩, h2⟩, h3⟩ := h
      obtain ⟨g1, g2, g3⟩ := g.gl h1
      split at h2
      · rename_i k' e
        cases of_decide_eq_true h2
        obtain ⟨kk, fd, ps, F, hr0, m, hk, hb⟩ := g.glob _ _ e
        have hr' := hr0 hc
        cases as with
        | nil =>
          cases es with
          | nil => exact se_call0 F hr' g1 m hk hb g.tk g2
          | cons => cases h3
        | cons a as =>
          have hp := argsC_plain h3
          simp only [plainEs, Bool.and_eq_true] at hp
          exact se_call F hr' g1 m hk hb g.tk (args_ok hr g h3) g2 (star_cons hp.1 _) (back_plain hp.2)
      · cases h2
    · cases h
  | comp elt tg src ifs own =>
    simp only [exprC] at h
    split at h
    · simp only [Bool.and_eq_true, decide_eq_true_eq] at h
      obtain ⟨rfl, h⟩ := h
      have := (comp_ok hr h g).se (pos := ‹_›) g.nd
      rw [ownP_map] at this
      exact this
    · cases h
  | compv elt tg i ifs own =>
    simp only [exprC] at h
    split at h
    · rename_i el t x p0 fs as scope p1
      simp only [Bool.and_eq_true, decide_eq_true_eq] at h
      obtain ⟨rfl, h⟩ := h
      have := (compV_ok hr h g).se (p0 := p0) (pos := p1) g.nd
      rw [ownP_map] at this
      exact this
    · cases h
  | xf f =>
    simp only [exprC] at h
    split at h
    · rename_i x p n p1 i hcur
      simp only [Bool.and_eq_true, decide_eq_true_eq] at h
      obtain ⟨rfl, h⟩ := h
      exact se_xf (g.held i hcur) (g.name h) rfl
    · cases h
  | xi t => cases h
  | tupo es =>
    simp only [exprC] at h
    split at h
    · exact se_tupo (list_ok hr g h)
    · cases h
  | it i k => cases h
/-! ### tests -/
def notNot : Op → Bool
  | .not => false
  | _ => true
def valT (rec : Rec) (sc : Sc) (e : Expr) : IE → Bool
  | .op f es => notNot f && rec false sc e (.op f es)
  | .chain _ _ _ _ _ => false
  | .dcmp _ _ _ _ _ => false
  | .and _ _ => false
  | .or _ _ => false
  | ie => opndC rec sc e ie
def testC (rec : Rec) (sc : Sc) (e : Expr) (ie : IE) : Bool := match e with
  | .UnaryOp .Not a _ => (match ie with
    | .op .not [x] => rec true sc a x
    | _ => false)
  | .BoolOp o es _ => boolC rec true sc o es ie
  | .Compare a os bs p => (match ie with
    | .op (.cmp o) es => cmpC rec sc o (.Compare a os bs p) es
    | .chain f g x y z => (match os, bs with
      | [f', g'], [b, d] => decide (f = f') && decide (g = g') && !lastMarks [f, g] [b, d] && opndC rec sc a x && opndC rec sc b y && opndC rec sc d z
      | _, _ => false)
    | .dcmp f t es u ds => (match os, bs with
      | [f'], [b] => decide (f = f') && !behindInMarks f b && dspC rec sc a t es && dspC rec sc b u ds
      | _, _ => false)
    | _ => false)
  | e => valueE e && valT rec sc e ie
theorem evT_op {f : Op} {es : List IE} {run : Fr → Res PV} (h : notNot f = true) (ρ : Fr) : evT cf (.op f es) run ρ = asB (run ρ) := by
  cases f <;> first
    | simp only [evT]
    | cases h
def valIE : IE → Bool
  | .op _ _ => false
  | .chain _ _ _ _ _ => false
  | .dcmp _ _ _ _ _ => false
  | .and _ _ => false
  | .or _ _ => false
  | _ => true
theorem evT_val {ie : IE} {run : Fr → Res PV} (h : valIE ie = true) (ρ : Fr) : evT cf ie run ρ = (opnd ie run ρ).bind fun o ρ1 => match rsv ρ1 o with
    | some p => (match truth p with
      | some k => .ok k ρ1
      | none => .bad)
    | none => .bad := by
  cases ie <;> first
    | first | (simp only [evT]; done) | (simp only [evT]; rfl)
    | cases h
theorem st_valT (hr : RecOk ad rec) {e : Expr} {ie : IE} (he : valueE e = true) (h : valT rec sc e ie = true) (g : Good ad X W cf sc) : ST ad X W e (evT cf ie (evE cf ie)) := by
  by_cases hv : valIE ie = true
  · have h' : opndC rec sc e ie = true := by
      cases ie <;> first
        | exact h
        | cases hv
    refine (pt_truth (opnd_ok (W := W) hr h' g) (valueE_true he _)).imp fun σ H Q q => rd_truth (ie := ie) (run := evE cf ie) ?_
    obtain ⟨ρ, G, c, sl, hh, ha⟩ := q
    exact ⟨ρ, G, c, sl, hh, by rw [evT_val hv] at ha; exact ha⟩
  · cases ie with
    | op f es =>
      simp only [valT, Bool.and_eq_true] at h
      refine (pt_truth (hr _ _ _ _ h.2 X W cf g) (valueE_true he _)).imp fun σ H Q q => ?_
      have q' : rd ad X W RelB (fun ρ => asB (evE cf (.op f es) ρ)) σ H Q := by
        obtain ⟨ρ, G, c, sl, hh, ha⟩ := q
        exact ⟨ρ, G, c, sl, hh, by rw [evT_op h.1] at ha; exact ha⟩
      exact rd_imp (rd_asB q') fun v H1 ⟨k, e, q⟩ => ⟨k, by subst e; rfl, q⟩
    | chain => cases h
    | dcmp => cases h
    | and => cases h
    | or => cases h
    | _ => exact absurd rfl hv
theorem test_ok (hr : RecOk ad rec) {e : Expr} {ie : IE} (h : testC rec sc e ie = true) : Snd ad true sc e ie := fun X W cf g => by
  unfold testC at h
  split at h
  · split at h
    · exact st_not (hr _ _ _ _ h X W cf g)
    · cases h
  · exact (bool_okW hr g h).pt
  · split at h
    · exact cmp_okT hr h g
    · split at h
      · simp only [Bool.and_eq_true, decide_eq_true_eq, Bool.not_eq_true'] at h
        obtain ⟨⟨⟨⟨⟨rfl, rfl⟩, h0⟩, h1⟩, h2⟩, h3⟩ := h
        exact (pt_chain (op_cmpN g.hu _) (op_cmpN g.hu _) (opnd_ok hr h1 g) (opnd_ok hr h2 g) (opnd_ok hr h3 g) h0).imp fun _ _ _ q => rd_chain (W := W) (rd_asB (by simpa only [evT] using q))
      · cases h
    · split at h
      · simp only [Bool.and_eq_true, decide_eq_true_eq, Bool.not_eq_true'] at h
        obtain ⟨⟨⟨rfl, h0⟩, h1⟩, h2⟩ := h
        exact (pt_cmpR (op_cmpN g.hu _) (dsp_ok (W := W) hr h1 g) (dsp_ok (W := W) hr h2 g) h0).imp fun _ _ _ q => rd_dcmp (rd_asB (by simpa only [evT] using q))
      · cases h
    · cases h
  · rw [Bool.and_eq_true] at h
    exact st_valT hr h.1 h.2 g
/-- the checker -/
def chk : Nat → Rec
  | 0 => fun _ _ _ _ => false
  | n + 1 => fun m sc e ie => match m with
    | false => exprC (chk n) sc e ie
    | true => testC (chk n) sc e ie
theorem chk_ok : ∀ n : Nat, RecOk ad (chk n)
  | 0 => fun m sc e ie h => by cases h
  | n + 1 => fun m sc e ie h => by
    cases m with
    | false => exact expr_ok (chk_ok n) h
    | true => exact test_ok (chk_ok n) h
end
end Y
end
section
set_option Elab.async false
set_option linter.all false
set_option maxRecDepth 100000
set_option maxHeartbeats 4000000
set_option autoImplicit false
/-! Y15: the checker: statements. -/
namespace Y
open PySem L2
variable {ad : Ad}
structure GoodS (ad : Ad) (X : Cx) (W : WX) (cf : Cf) (sc : Sc) (P : Pt) : Prop where
  g : Good ad X W cf sc
  pass : PassesOwn (model X.prog X.w) X.A X.env X.xe
  pr : P.pr = sc.pr
  curp : ∀ z, ad.cur = some z → z.i ∈ P.pr
  stk : X.stack = X.env :: X.outer
  frm : X.env.frame = some X.env.locals
def scopeOfC : Expr → Option Scope
  | .ListComp _ _ s _ => some s
  | .SetComp _ _ s _ => some s
  | .DictComp _ _ _ s _ => some s
  | _ => none
def blkFn (sc : Sc) : Bool := (if sc.scope.kind.isAnnotationScope then ScopeKind.function else sc.scope.kind) == .function
def swC (sc : Sc) (v : Expr) (x : Str) (p : Pos) : Bool := match scopeOfC v with
  | none => false
  | some s => blkFn sc && sc.scope.names.lookup x == some .local && p.line == v.pos.line && !(s.names.any fun (n, k) => n == x && (k == .local || k == .cell))
section
variable {X : Cx} {W : WX} {cf : Cf} {sc : Sc} {P : Pt} {rec : Rec} {pos : Pos}
theorem sw_eq (g : Good ad X W cf sc) (v : Expr) (x : Str) (p : Pos) (line : Nat) : swapsWith v (some (.Name x p)) line X.env = pure (swC sc v x p) := by
  have e1 : X.env.blockKind = (if sc.scope.kind.isAnnotationScope then ScopeKind.function else sc.scope.kind) := by
    unfold Env.blockKind
    rw [g.hsc]
  have e2 : X.env.kindOf x = sc.scope.names.lookup x := by
    unfold Env.kindOf
    rw [g.hsc]
  cases v <;> first
    | rfl
    | (simp only [swapsWith, swC, scopeOfC, blkFn, e1, e2])
def notName : Expr → Bool
  | .Name _ _ => false
  | _ => true
theorem sw_no {v t : Expr} (h : notName t = true) (line : Nat) (env : Env) : swapsWithSole [t] v line env = pure false := by
  cases t <;> first
    | (cases v <;> rfl)
    | cases h
theorem sw_drop {v : Expr} (h : (scopeOfC v).isNone = true) (line : Nat) (env : Env) : swapsWith v none line env = pure false := by
  cases v <;> first
    | rfl
    | cases h
theorem Good.store (g : Good ad X W cf sc) {x : Str} {i : Nat} (h1 : decide (sc.N[i]? = some x) = true) (h2 : locC sc x = true) : X.N[i]? = some x ∧ Loc X.env.scope x ∧ (X.fn x = true ∨ X.env.scope.names.lookup x = some .local) := by
  obtain ⟨a, b⟩ := g.loc h2
  exact ⟨by rw [g.hN]; exact of_decide_eq_true h1, a, b⟩
theorem prC (s : GoodS ad X W cf sc P) {i : Nat} (h : sc.pr.contains i = false) : i ∉ P.pr ∧ Free ad i := by
  have h1 : i ∉ P.pr := fun z => by
    rw [s.pr] at z
    rw [List.contains_iff_mem.mpr z] at h
    cases h
  exact ⟨h1, fun z e q => h1 (q ▸ s.curp z e)⟩
theorem Good.prs (g : Good ad X W cf sc) (pr : List Nat) : Good ad X W cf { sc with pr := pr } := ⟨g.hN, g.nd, g.hsc, g.hfn, g.calm, g.held, g.hu, g.tk, g.blt, g.glob, g.lend⟩
/-- name = value -/
def setC (rec : Rec) (sc : Sc) (i : Nat) (st : Stmt) (e : IE) : Bool := match st with
  | .Assign [.Name x p] v _ => decide (sc.N[i]? = some x) && locC sc x && !sc.pr.contains i && (match swC sc v x p with
    | false => rec false sc v e
    | true => (match v, e with
      | .ListComp el [⟨t, it, fs, as⟩] scope _, .comp elt tg src ifs own => decide (as = 0) && compC rec sc el t it fs scope elt tg src ifs own
      | .ListComp el [⟨t, .Name x2 _, fs, as⟩] scope _, .compv elt tg j ifs own => decide (as = 0) && compVC rec sc el t x2 fs scope elt tg j ifs own
      | _, _ => false))
  | _ => false
theorem set_ok (hr : RecOk ad rec) {i : Nat} {st : Stmt} {e : IE} (h : setC rec sc i st e = true) (s : GoodS ad X W cf sc P) : SS ad X W P st (evS cf (.set i e)) := by
  have g := s.g
  unfold setC at h
  split at h
  · rename_i x p v spos
    simp only [Bool.and_eq_true, Bool.not_eq_true'] at h
    obtain ⟨⟨⟨h1, h2⟩, h3⟩, h⟩ := h
    obtain ⟨a, b, c⟩ := g.store h1 h2
    split at h
    · rename_i hsw
      exact ss_set (ps_set g.nd a b (hr _ _ _ _ h X W cf g) (by rw [sw_eq g, hsw]) c) (prC s h3)
    · rename_i hsw
      split at h
      · simp only [Bool.and_eq_true, decide_eq_true_eq] at h
        obtain ⟨rfl, h⟩ := h
        have k := comp_ok (X := X) (W := W) (cf := cf) hr h g
        have hl : sc.scope.names.lookup x = some .local := by
          simp only [swC, scopeOfC, Bool.and_eq_true] at hsw
          simpa using hsw.1.1.2
        refine ss_set ((ps_setLc k.calm g.nd a (by rw [g.hsc]; exact hl) (by rw [sw_eq g, hsw]) k.si k.bo k.pg k.pt k.pe k.fs).imp fun D σ H q => ?_) (prC s h3)
        obtain ⟨ρ, G, cc, sl, hh, ha⟩ := q
        have q' : rd ad X W (RelP ad X.K) (evE cf (.comp _ _ _ _ ((ownP sc _).map (·.2)))) σ H fun x H1 => gName i x σ H1 D.nx := ⟨ρ, G, cc, sl, hh, by rw [ownP_map]; exact ha⟩
        exact rd_comp k.hn k.sl q'
      · simp only [Bool.and_eq_true, decide_eq_true_eq] at h
        obtain ⟨rfl, h⟩ := h
        have k := compV_ok (X := X) (W := W) (cf := cf) hr h g
        have hl : sc.scope.names.lookup x = some .local := by
          simp only [swC, scopeOfC, Bool.and_eq_true] at hsw
          simpa using hsw.1.1.2
        refine ss_set ((ps_setLc k.calm g.nd a (by rw [g.hsc]; exact hl) (by rw [sw_eq g, hsw]) (pi_list (k.nm _)) k.bo k.pg k.pt k.pe fun _ => rfl).imp fun D σ H q => ?_) (prC s h3)
        obtain ⟨ρ, G, cc, sl, hh, ha⟩ := q
        have q' : rd ad X W (RelP ad X.K) (evE cf (.compv _ _ _ _ ((ownP sc _).map (·.2)))) σ H fun x H1 => gName i x σ H1 D.nx := ⟨ρ, G, cc, sl, hh, by rw [ownP_map]; exact ha⟩
        exact rd_compv k.hn k.sl q'
      · cases h
  · cases h
/-- a, b = value (not a display) -/
def isTupD : Expr → Bool
  | .Tuple _ _ _ => true
  | _ => false
def asgC (rec : Rec) (sc : Sc) (tg : IT) (st : Stmt) (e : IE) : Bool := match st with
  | .Assign [.Tuple es k p] v _ => sc.calm && !isTupD v && tgC 5 sc (.Tuple es k p) tg && tg.slots.all (fun j => !sc.pr.contains j) && rec false sc v e
  | _ => false
theorem swst_no {es : List Expr} {k : Nat} {p : Pos} {v : Expr} (h : isTupD v = false) (env : Env) : swappedStores [.Tuple es k p] v env = pure none := by
  cases v <;> first
    | rfl
    | cases h
theorem asg_ok (hr : RecOk ad rec) {tg : IT} {st : Stmt} {e : IE} (h : asgC rec sc tg st e = true) (s : GoodS ad X W cf sc P) : SS ad X W P st (evS cf (.asg tg e)) := by
  unfold asgC at h
  split at h
  · simp only [Bool.and_eq_true, Bool.not_eq_true'] at h
    obtain ⟨⟨⟨⟨hc, h1⟩, h2⟩, h3⟩, h4⟩ := h
    refine ss_asg (ps_asg (hr _ _ _ _ h4 X W cf s.g) (tg_ok s.g hc 5 h2) (sw_no rfl _ _) (swst_no h1 _) rfl) fun j hj => (prC s ?_).1
    have := List.all_eq_true.mp h3 j hj
    simpa using this
  · cases h
/-- name += value -/
def augC (rec : Rec) (sc : Sc) (i : Nat) (op : Operator) (st : Stmt) (e : IE) : Bool := match st with
  | .AugAssign (.Name x _) o v _ => decide (o = op) && (decide (op = .Add) || decide (op = .Sub)) && decide (sc.N[i]? = some x) && locC sc x && visC sc x && !sc.pr.contains i && rec false sc v e
  | _ => false
theorem aug_ok (hr : RecOk ad rec) {i : Nat} {op : Operator} {st : Stmt} {e : IE} (h : augC rec sc i op st e = true) (s : GoodS ad X W cf sc P) : SS ad X W P st (evS cf (.aug i op e)) := by
  unfold augC at h
  split at h
  · simp only [Bool.and_eq_true, Bool.or_eq_true, Bool.not_eq_true'] at h
    obtain ⟨⟨⟨⟨⟨⟨h0, ho⟩, h1⟩, h2⟩, hv⟩, h3⟩, h⟩ := h
    cases of_decide_eq_true h0
    obtain ⟨a, b, c⟩ := s.g.store h1 h2
    rcases ho with ho | ho
    · cases of_decide_eq_true ho
      exact ss_aug (ps_aug s.g.nd a b (hr _ _ _ _ h X W cf s.g) ip_add c) (prC s h3) (.inl ⟨rfl, rfl⟩)
    · cases of_decide_eq_true ho
      exact ss_aug (ps_aug s.g.nd a b (hr _ _ _ _ h X W cf s.g) ip_sub c) (prC s h3) (.inr ⟨rfl, rfl⟩)
  · cases h
/-- name[ix] = value -/
def subC (rec : Rec) (sc : Sc) (i : Nat) (ix e : IE) (st : Stmt) : Bool := match st with
  | .Assign [.Subscript (.Name x _) b _] v _ => nameC sc x i && plainIxE b && opndC rec sc b ix && rec false sc v e
  | _ => false
theorem sub_ok (hr : RecOk ad rec) {i : Nat} {ix e : IE} {st : Stmt} (h : subC rec sc i ix e st = true) (s : GoodS ad X W cf sc P) : SS ad X W P st (evS cf (.sub i ix e)) := by
  unfold subC at h
  split at h
  · rename_i x p b p2 v p3
    simp only [Bool.and_eq_true] at h
    obtain ⟨⟨⟨h1, h2⟩, h3⟩, h4⟩ := h
    refine (ps_asg (hr _ _ _ _ h4 X W cf s.g) (pg_sub (s.g.name h1) (opnd_ok (W := W) hr h3 s.g) set_list fun v => ?_) (sw_no rfl _ _) (by cases v <;> rfl) rfl).imp fun D σ H q => rd_sub q
    cases b <;> first
      | rfl
      | cases h2
  · cases h
/-- name.append(e), name.extend(e) -/
def appC (rec : Rec) (sc : Sc) (m : Str) (i : Nat) (e : IE) (st : Stmt) : Bool := match st with
  | .Expr (.Call (.Attribute (.Name x _) name apos) [a] [] cpos) _ => decide (name = m) && nameC sc x i && (apos.endLine == cpos.line) && plainE a && rec false sc a e
  | _ => false
theorem few1 {a : Expr} (h : plainE a = true) {cpos : Pos} {env : Env} : ((backTo cpos (starEach [a] env)).all (fun x => !x.1) && (backToKw cpos (keywordEach [] env)).all (fun x => x.1.isSome)
      && decide ([a].length + ([] : List Keyword).length + (if ([] : List Keyword).isEmpty then 0 else 1) < 30)) = true := by
  rw [all_plain (by simp [plainEs, h])]
  rfl
theorem app_ok' (hr : RecOk ad rec) {i : Nat} {e : IE} {st : Stmt} (h : appC rec sc ("append" : Str) i e st = true) (s : GoodS ad X W cf sc P) : SS ad X W P st (evS cf (.app i e)) := by
  unfold appC at h
  split at h
  · simp only [Bool.and_eq_true, decide_eq_true_eq] at h
    obtain ⟨⟨⟨⟨rfl, h1⟩, h2⟩, h3⟩, h4⟩ := h
    exact (ps_expr (pe_bm PySem.F.plainAttrs_list PySem.F.slot_list_append PySem.F.type_list_append (fun pins s σ H x xs v us Q I r rs q => mt_append pins s σ H x xs v us Q I r rs q) (s.g.name h1) (pa_cons (hr _ _ _ _ h4 X W cf s.g) pa_nil (star1 h3 _)) rfl (few1 h3) h2 (star1 h3 _) rfl) rfl).imp fun D σ H q => rd_app q
  · cases h
theorem ext_ok' (hr : RecOk ad rec) {i : Nat} {e : IE} {st : Stmt} (h : appC rec sc ("extend" : Str) i e st = true) (s : GoodS ad X W cf sc P) : SS ad X W P st (evS cf (.ext i e)) := by
  unfold appC at h
  split at h
  · simp only [Bool.and_eq_true, decide_eq_true_eq] at h
    obtain ⟨⟨⟨⟨rfl, h1⟩, h2⟩, h3⟩, h4⟩ := h
    exact (ps_expr (pe_bm PySem.F.plainAttrs_list PySem.F.slot_list_extend PySem.F.type_list_extend (fun pins s σ H x xs v us Q I r rs q => mt_extend pins s σ H x xs v us Q I r rs q) (s.g.name h1) (pa_cons (hr _ _ _ _ h4 X W cf s.g) pa_nil (star1 h3 _)) rfl (few1 h3) h2 (star1 h3 _) rfl) rfl).imp fun D σ H q => rd_ext q
  · cases h
/-! ### blocks -/
abbrev RecS := Sc → List Stmt → List IS → Bool
abbrev RecSOk (ad : Ad) (recB : RecS) : Prop := ∀ sc sts iss, recB sc sts iss = true → ∀ X W cf P, GoodS ad X W cf sc P → SB ad X W P sts (evB cf iss)
/-- a class of errors of the text -/
def clsC (sc : Sc) (k : Str) : Bool := globC sc k && (match sc.gl.lookup k with
  | some (.xc _) => true
  | _ => false)
theorem Good.cls (g : Good ad X W cf sc) {k : Str} (h : clsC sc k = true) : Names X k (.ref (ad k)) := by
  unfold clsC at h
  rw [Bool.and_eq_true] at h
  obtain ⟨h1, h2, h3⟩ := g.gl h.1
  have h4 := h.2
  split at h4
  · rename_i d hd
    exact ⟨h1, h2, .inl (g.glob k _ hd).2.1⟩
  · cases h4
def Sc.suite (sc : Sc) : Sc := { sc with calm := false, cur := none }
def Sc.suiteN (sc : Sc) (i : Nat) : Sc := { sc with calm := false, cur := some i, pr := i :: sc.pr }
def hdsC (recB : RecS) (sc : Sc) : List ExceptHandler → IH → Bool
  | [], .nil => true
  | .ExceptHandler (some (.Name k _)) none (b₀ :: suite) _ :: r, .cons k' none is r' => decide (k = k') && clsC sc k && recB sc.suite (b₀ :: suite) is && hdsC recB sc r r'
  | _, _ => false
def tryC (recB : RecS) (sc : Sc) (st : Stmt) (ib : List IS) (ih : IH) : Bool := match st, ih with
  | .Try body [.ExceptHandler (some (.Name k _)) (some n) (b₀ :: suite) _] [] [] _, .cons k' (some i) is .nil =>
    sc.calm && decide (k = k') && clsC sc k && decide (sc.N[i]? = some n) && decide (sc.scope.names.lookup n = some .local) && !sc.pr.contains i && recB sc body ib && recB (sc.suiteN i) (b₀ :: suite) is
  | .Try body (h₀ :: hds) [] [] _, ih => sc.calm && recB sc body ib && hdsC recB sc (h₀ :: hds) ih
  | _, _ => false
theorem Good.tr (g : Good ad X W cf sc) (hc : sc.calm = true) {W' : WX} {pn : List (Addr × Obj)} {xe : Value → Shared → Prop} (t : Takes (X.tr pn xe) W') : Good ad (X.tr pn xe) W' cf sc := by
  refine ⟨g.hN, g.nd, g.hsc, g.hfn, g.calm, fun i h x hx => ?_, g.hu, t, g.blt, fun x ge h => ?_, g.lend⟩
  · rw [(g.calm hc).2.2] at hx
    cases hx
  · have := g.glob x ge h
    cases ge <;> exact this
theorem Good.suite (g : Good ad X W cf sc) {sc' : Sc} {z : Option Xc} {cf' : Cf} {a : Addr} {pn : List (Addr × Obj)} (hN : sc'.N = sc.N) (hs : sc'.scope = sc.scope) (hf : sc'.fnS = sc.fnS) (hg : sc'.gl = sc.gl) (hb : sc'.bl = sc.bl) (hl : sc'.lend = sc.lend) (hcm : sc'.calm = false)
    (hcf : cf'.call = cf.call ∧ cf'.lend = cf.lend) (hh : ∀ i, sc'.cur = some i → HeldAt ⟨ad.fn, z⟩ (X.suite a pn) cf' i) : Good ⟨ad.fn, z⟩ (X.suite a pn) W0 cf' sc' := by
  refine ⟨g.hN.trans hN.symm, g.nd, g.hsc.trans hs.symm, fun x h => g.hfn x (by rw [← hf]; exact h), fun h => ?_, hh, g.hu, takes_none5, fun x h => g.blt x (by rw [← hb]; exact h), fun x ge h => ?_, ?_⟩
  · rw [hcm] at h
    cases h
  · have := g.glob x ge (by rw [← hg]; exact h)
    cases ge with
    | fn k =>
      obtain ⟨kk, fd, ps, h1, h2, h3⟩ := this
      refine ⟨kk, fd, ps, ?_, fun h => (by rw [hcm] at h; cases h), h3⟩
      rw [hcf.1]
      exact h1
    | cst p =>
      obtain ⟨u, v, h1, h2, h3⟩ := this
      exact ⟨u, v, h1, h2, fun G => Rep.re (ad := ad) (ad' := ⟨ad.fn, z⟩) rfl (h3 G)⟩
    | xc d =>
      obtain ⟨h1, h2, h3, h4, h5, h6⟩ := this
      exact ⟨h1, h2, XdOk.re (ad := ad) (ad' := ⟨ad.fn, z⟩) rfl h3, ⟨0, fun h => (by rw [hcm] at h; cases h)⟩, h5, h6⟩
  · rw [hcf.2, hl]
    exact g.lend
theorem hds_ok {recB : RecS} (hb : ∀ ad, RecSOk ad recB) (s : GoodS ad X W cf sc P) (hc : sc.calm = true) : ∀ {hds : List ExceptHandler} {ih : IH}, hdsC recB sc hds ih = true → noNames ih = true ∧ HdsOk X hds (hdsL ad X P cf ih) := by
  intro hds ih h
  have hcur : ad.cur = none := (s.g.calm hc).2.1
  have had : (⟨ad.fn, none⟩ : Ad) = ad := by
    obtain ⟨f, c⟩ := ad
    cases hcur
    rfl
  induction hds generalizing ih with
  | nil =>
    cases ih with
    | nil => exact ⟨rfl, .nil⟩
    | cons => cases h
  | cons hd r ihr =>
    unfold hdsC at h
    split at h
    · cases ‹_ :: _ = []›
    · rename_i k np b₀ suite p r0 k' is r' e1
      cases e1
      simp only [Bool.and_eq_true, decide_eq_true_eq] at h
      obtain ⟨⟨⟨rfl, h1⟩, h2⟩, h3⟩ := h
      obtain ⟨n1, n2⟩ := ihr h3
      refine ⟨by simp [noNames, n1], .cons (s.g.cls h1) (fun a oe cls d pn hz hf => ?_) n2⟩
      have gs : Good ad (X.suite a ((a, oe) :: pn)) W0 cf sc.suite := by
        have := s.g.suite (sc' := sc.suite) (z := none) (cf' := cf) (a := a) (pn := (a, oe) :: pn) rfl rfl rfl rfl rfl rfl rfl ⟨rfl, rfl⟩ fun i h => by cases h
        rwa [had] at this
      exact hb ad _ _ _ h2 _ _ _ P ⟨gs, PassesOwn.never, s.pr, s.curp, s.stk, s.frm⟩
    · cases h
theorem try_ok {recB : RecS} (hb : ∀ ad, RecSOk ad recB) {st : Stmt} {ib : List IS} {ih : IH} (h : tryC recB sc st ib ih = true) (s : GoodS ad X W cf sc P) : SS ad X W P st (evS cf (.tryx ib ih)) := by
  unfold tryC at h
  split at h
  · rename_i body k np n b₀ suite p1 p2 k' i is
    simp only [Bool.and_eq_true, decide_eq_true_eq, Bool.not_eq_true'] at h
    obtain ⟨⟨⟨⟨⟨⟨⟨hc, rfl⟩, h1⟩, h2⟩, h3⟩, h4⟩, h5⟩, h6⟩ := h
    have hcur : ad.cur = none := (s.g.calm hc).2.1
    refine ss_tryAs s.stk s.frm s.g.nd (by rw [s.g.hN]; exact h2) ?_ (s.g.cls h1) s.g.tk hcur (prC s h4).1 (fun W' pn xe t pw => hb ad _ _ _ h5 _ _ _ P ⟨s.g.tr hc t, pw, s.pr, s.curp, s.stk, s.frm⟩) fun a oe dd x pn hz hf σ0 => ?_
    · show X.env.scope.names.lookup n = _
      rw [s.g.hsc]
      exact h3
    · refine hb _ _ _ _ h6 _ _ _ _ ⟨s.g.suite (sc' := sc.suiteN i) rfl rfl rfl rfl rfl rfl rfl ⟨rfl, rfl⟩ ?_, PassesOwn.never, by show i :: P.pr = i :: sc.pr; rw [s.pr], fun z e => by cases e; exact List.mem_cons_self, s.stk, s.frm⟩
      intro j e x' ex
      cases e
      cases ex
      exact ⟨X, a, dd, oe, pn, rfl, rfl, hz, hf⟩
  · simp only [Bool.and_eq_true] at h
    obtain ⟨⟨hc, h1⟩, h2⟩ := h
    obtain ⟨n1, n2⟩ := hds_ok hb s hc h2
    exact ss_tryMany s.stk s.frm s.g.tk n1 (fun W' pn xe t pw => hb ad _ _ _ h1 _ _ _ P ⟨s.g.tr hc t, pw, s.pr, s.curp, s.stk, s.frm⟩) n2
  · cases h
def raiC (rec : Rec) (sc : Sc) (st : Stmt) (d : XD) (es : List IE) : Bool := match st with
  | .Raise (some (.Call (.Name x _) (a :: as) [] _)) none _ => sc.calm && globC sc x && plainEs (a :: as) && listC rec sc (a :: as) es && (match sc.gl.lookup x with
    | some (.xc d') => decide (d = d')
    | _ => false)
  | _ => false
theorem rai_ok (hr : RecOk ad rec) {st : Stmt} {d : XD} {es : List IE} (h : raiC rec sc st d es = true) (s : GoodS ad X W cf sc P) : SS ad X W P st (evS cf (.rai d es)) := by
  unfold raiC at h
  split at h
  · rename_i x p a as p1 p2
    simp only [Bool.and_eq_true] at h
    obtain ⟨⟨⟨⟨hc, h1⟩, h2⟩, h3⟩, h4⟩ := h
    split at h4
    · rename_i d' hd
      have := of_decide_eq_true h4
      subst this
      obtain ⟨rfl, q2, q3, ⟨k, q4⟩, q5, fI, cc, cda, B, i, nid, bmB, fd, body, scope, T⟩ := s.g.glob _ _ hd
      obtain ⟨g1, g2, g3⟩ := s.g.gl h1
      simp only [plainEs, Bool.and_eq_true] at h2
      exact ss_rai (s.g.calm hc).1 s.g.tk T rfl q3 (q4 hc) (list_ok hr s.g h3) g1 g2 q5 (star_cons h2.1 _) (back_plain h2.2)
    · cases h4
  · cases h
/-- name[k].append('x') -/
def appiC (sc : Sc) (st : Stmt) (i k : Nat) (z : Str) : Bool := match st with
  | .Expr (.Call (.Attribute (.Subscript (.Name x _) (.Constant (.int j) _ _) _) name apos) [.Constant (.str z') _ _] [] cpos) _ => decide (name = ("append" : Str)) && decide (z' = z) && nameC sc x i && decide (j = (k : Int)) && (apos.endLine == cpos.line)
  | _ => false
theorem appi_ok {st : Stmt} {i k : Nat} {z : Str} (h : appiC sc st i k z = true) (s : GoodS ad X W cf sc P) : SS ad X W P st (evS cf (.appi i k z)) := by
  unfold appiC at h
  split at h
  · simp only [Bool.and_eq_true, decide_eq_true_eq] at h
    obtain ⟨⟨⟨⟨rfl, rfl⟩, h1⟩, rfl⟩, h2⟩ := h
    exact (ps_expr (pe_bm PySem.F.plainAttrs_list PySem.F.slot_list_append PySem.F.type_list_append (fun pins s σ H x xs v us Q I r rs q => mt_append pins s σ H x xs v us Q I r rs q) (pe_it (s.g.name h1) pe_int fun _ _ => rfl) (pa_cons pe_str pa_nil rfl) rfl (few1 rfl) h2 rfl rfl) rfl).imp fun D σ H q => rd_appi q
  · cases h
def stmtC (rec : Rec) (recB : RecS) (sc : Sc) (st : Stmt) : IS → Bool
  | .set i e => setC rec sc i st e
  | .asg tg e => asgC rec sc tg st e
  | .par _ _ => false
  | .aug i o e => augC rec sc i o st e
  | .sub i ix e => subC rec sc i ix e st
  | .app i e => appC rec sc ("append" : Str) i e st
  | .ext i e => appC rec sc ("extend" : Str) i e st
  | .exp e => (match st with
    | .Expr v _ => (scopeOfC v).isNone && rec false sc v e
    | _ => false)
  | .ret e => (match st with
    | .Return (some v) _ => rec false sc v e
    | _ => false)
  | .retN => (match st with
    | .Return none _ => true
    | _ => false)
  | .ife t a b => (match st with
    | .If c p q _ => rec true sc c t && recB sc p a && recB sc q b
    | _ => false)
  | .fors tg src body => (match st with
    | .For t it b [] _ => sc.calm && srcC rec sc t it src && notSet it && tgC 5 sc t tg && tg.slots.all (fun j => !sc.pr.contains j) && recB sc b body
    | _ => false)
  | .forv tg i body => (match st with
    | .For t (.Name x _) b [] _ => sc.calm && nameC sc x i && tgC 5 sc t tg && tg.slots.all (fun j => !sc.pr.contains j) && !tg.slots.contains i && recB { sc with pr := i :: sc.pr } b body
    | _ => false)
  | .whl t body => (match st with
    | .While c b [] _ => rec true sc c t && recB sc b body
    | _ => false)
  | .brk => (match st with
    | .Break _ => true
    | _ => false)
  | .cnt => (match st with
    | .Continue _ => true
    | _ => false)
  | .pas => (match st with
    | .Pass _ => true
    | .Expr (.Constant (.str _) _ _) _ => true
    | _ => false)
  | .rai d es => raiC rec sc st d es
  | .tryx ib ih => tryC recB sc st ib ih
  | .appi i k x => appiC sc st i k x
theorem stmt_ok (hra : ∀ ad, RecOk ad rec) {recB : RecS} (hba : ∀ ad, RecSOk ad recB) {st : Stmt} {is : IS} (h : stmtC rec recB sc st is = true) (s : GoodS ad X W cf sc P) : SS ad X W P st (evS cf is) := by
  have hr := hra ad
  have hb := hba ad
  cases is with
  | set i e => exact set_ok hr h s
  | asg tg e => exact asg_ok hr h s
  | par is es => cases h
  | aug i o e => exact aug_ok hr h s
  | sub i ix e => exact sub_ok hr h s
  | app i e => exact app_ok' hr h s
  | ext i e => exact ext_ok' hr h s
  | exp e =>
    simp only [stmtC] at h
    split at h
    · rw [Bool.and_eq_true] at h
      exact ss_expr (hr _ _ _ _ h.2 X W cf s.g) (sw_drop h.1 _ _)
    · cases h
  | ret e =>
    simp only [stmtC] at h
    split at h
    · exact ss_ret (hr _ _ _ _ h X W cf s.g)
    · cases h
  | retN =>
    simp only [stmtC] at h
    split at h
    · exact ss_retN
    · cases h
  | ife t a b =>
    simp only [stmtC] at h
    split at h
    · simp only [Bool.and_eq_true] at h
      exact ss_if (hr _ _ _ _ h.1.1 X W cf s.g) (hb _ _ _ h.1.2 X W cf P s) (hb _ _ _ h.2 X W cf P s)
    · cases h
  | fors tg src body =>
    simp only [stmtC] at h
    split at h
    · simp only [Bool.and_eq_true] at h
      obtain ⟨⟨⟨⟨⟨hc, h1⟩, h2⟩, h3⟩, h4⟩, h5⟩ := h
      refine ss_for s.pass (s.g.calm hc).1 (src_ok hr h1 s.g) (tg_ok s.g hc 5 h3) (hb _ _ _ h5 X W cf P s) (notSet_ok h2 _) fun j hj => (prC s ?_).1
      have := List.all_eq_true.mp h4 j hj
      simpa using this
    · cases h
  | forv tg i body =>
    simp only [stmtC] at h
    split at h
    · simp only [Bool.and_eq_true, Bool.not_eq_true'] at h
      obtain ⟨⟨⟨⟨⟨hc, h1⟩, h2⟩, h3⟩, h4⟩, h5⟩ := h
      refine ss_forv s.pass (s.g.calm hc).1 (s.g.name h1) (tg_ok s.g hc 5 h2) (fun σ0 => hb _ _ _ h5 X W cf ⟨i :: P.pr, σ0⟩ ⟨s.g.prs _, s.pass, by show i :: P.pr = i :: sc.pr; rw [s.pr], fun z e => List.mem_cons_of_mem _ (s.curp z e), s.stk, s.frm⟩) (fun j hj => (prC s ?_).1) fun z => ?_
      · have := List.all_eq_true.mp h3 j hj
        simpa using this
      · rw [List.contains_iff_mem.mpr z] at h4
        cases h4
    · cases h
  | whl t body =>
    simp only [stmtC] at h
    split at h
    · rw [Bool.and_eq_true] at h
      exact ss_while s.pass (hr _ _ _ _ h.1 X W cf s.g) (hb _ _ _ h.2 X W cf P s)
    · cases h
  | brk =>
    simp only [stmtC] at h
    split at h
    · exact ss_break
    · cases h
  | cnt =>
    simp only [stmtC] at h
    split at h
    · exact ss_continue
    · cases h
  | pas =>
    simp only [stmtC] at h
    split at h
    · exact ss_pass
    · exact ss_doc
    · cases h
  | rai d es => exact rai_ok hr h s
  | tryx ib ih => exact try_ok hba h s
  | appi i k x => exact appi_ok h s
def blockC (r : Stmt → IS → Bool) : List Stmt → List IS → Bool
  | [], [] => true
  | st :: sts, is :: iss => r st is && blockC r sts iss
  | _, _ => false
def chkB (rec : Rec) : Nat → RecS
  | 0 => fun _ _ _ => false
  | n + 1 => fun sc sts iss => blockC (stmtC rec (chkB rec n) sc) sts iss
theorem chkB_ok (hr : ∀ ad, RecOk ad rec) : ∀ (n : Nat) (ad : Ad), RecSOk ad (chkB rec n)
  | 0, ad => fun sc sts iss h => by cases h
  | n + 1, ad => fun sc sts iss h X W cf P s => by
    have ih := chkB_ok hr n
    change blockC (stmtC rec (chkB rec n) sc) sts iss = true at h
    induction sts generalizing iss with
    | nil =>
      cases iss with
      | nil => exact sb_nil
      | cons => cases h
    | cons st sts ih2 =>
      cases iss with
      | nil => cases h
      | cons is iss =>
        simp only [blockC, Bool.and_eq_true] at h
        exact sb_cons (stmt_ok hr ih h.1 s) (ih2 _ h.2)
end
end Y
end
section
set_option Elab.async false
set_option linter.all false
set_option maxRecDepth 100000
set_option maxHeartbeats 4000000
set_option autoImplicit false
/-! Y16: all the defs of a law keep what the evaluator says of them; the law's end. -/
namespace Y
open PySem L2
variable {ad : Ad}
/-- a def of the text -/
structure Ent where
  key : Str
  st : Stmt
  N : List Str
  ps : List Str
  fd : Fd
def tblOf (es : List Ent) : Tb := fun k => (es.find? fun e => decide (e.key = k)).map (·.fd)
theorem tblOf_mem : ∀ {es : List Ent} {e : Ent}, (es.map (·.key)).Nodup → e ∈ es → tblOf es e.key = some e.fd
  | a :: es, e, nd, h => by
    rw [List.map_cons, List.nodup_cons] at nd
    unfold tblOf
    rw [List.find?_cons]
    by_cases he : a.key = e.key
    · rw [decide_eq_true he]
      rcases List.mem_cons.mp h with rfl | h
      · rfl
      · exact absurd (List.mem_map.mpr ⟨e, h, he.symm⟩) nd.1
    · rw [decide_eq_false he]
      rcases List.mem_cons.mp h with rfl | h
      · exact absurd rfl he
      · exact tblOf_mem nd.2 h
structure Lw where
  es : List Ent
  cs : List (Str × PV)
  bl : List Str
  xs : List XD
def Lw.T (l : Lw) : Tb := tblOf l.es
def Lw.gl (l : Lw) : List (Str × GE) := l.es.map (fun e => (e.key, GE.fn e.key)) ++ (l.cs.map (fun c => (c.1, GE.cst c.2)) ++ l.xs.map fun d => (d.cls, GE.xc d))
def Lw.sc (l : Lw) (e : Ent) : Sc := { N := e.N, scope := defScope e.st, fnS := fun _ => true, gl := l.gl, bl := l.bl, lend := lendOf l.T, pr := protOf e.fd, calm := true, cur := none }
instance (N P : List Str) (sc : Scope) : Decidable (sc.kind = .function ∧ sc.isCoroutine = false ∧ sc.isGenerator = false ∧ N.Nodup ∧ N.take P.length = P ∧ (∀ x ∈ P, sc.names.lookup x = some .local ∨ sc.names.lookup x = some .cell) ∧ (∀ y ∈ sc.names, y.2 ≠ .free)) := inferInstance
def scopeC (N P : List Str) (sc : Scope) : Bool := decide (sc.kind = .function ∧ sc.isCoroutine = false ∧ sc.isGenerator = false ∧ N.Nodup ∧ N.take P.length = P ∧ (∀ x ∈ P, sc.names.lookup x = some .local ∨ sc.names.lookup x = some .cell) ∧ (∀ y ∈ sc.names, y.2 ≠ .free))
theorem scopeC_ok {N P : List Str} {sc : Scope} (h : scopeC N P sc = true) : FnScope N P sc := by
  obtain ⟨h1, h2, h3, h4, h5, h6, h7⟩ := of_decide_eq_true h
  exact ⟨h1, h2, h3, h4, h5, h6, h7⟩
def Lw.entC (l : Lw) (e : Ent) : Bool := scopeC e.N e.ps (defScope e.st) && decide (e.fd.n = e.N.length) && decide (e.fd.ps = e.ps.length) && chkB (chk 40) 30 (l.sc e) (defBody e.st) e.fd.body
def Lw.ok (l : Lw) : Prop := (l.es.map (·.key)).Nodup ∧ ∀ e ∈ l.es, l.entC e = true
/-- what the module's run has left of a def -/
def EntOk (ad : Ad) (K : PySem.W.Frag) (mg : Str → Option Value) (e : Ent) : Prop := ∃ fdat, Fun K e.key e.key e.st (ad e.key) fdat ∧ Binds K fdat e.ps [] ∧ mg e.key = some (.ref (ad e.key))
def CstOk (mg : Str → Option Value) (c : Str × PV) : Prop := ∃ u v, mg c.1 = some u ∧ RelV v u ∧ ∀ ad K G, Rep ad K G c.2 v []
/-- what the written part says of a class of errors -/
def XcFact (P : Program) (ad : Ad) (K : PySem.W.Frag) (mg : Str → Option Value) (d : XD) : Prop := mg d.cls = some (.ref (ad d.cls)) ∧ XdOk ad K d ∧ d.fs ≠ [] ∧ ∃ (fI cc cda : Addr) (B i newId : String) (bmB : List Value) (fd : FuncData) (body : List Stmt) (scope : Scope), EX.ExA P K mg d.cls (ad d.cls) fI cc cda B i newId bmB fd d.fs [] body scope
section
variable {P : Program} {w : World} {K : PySem.W.Frag} {mg : Str → Option Value} {base : Heap}
theorem lookup_map_mem {α β : Type} {f : α → Str × β} : ∀ {l : List α} {x : Str} {g : β}, (l.map f).lookup x = some g → ∃ a ∈ l, f a = (x, g)
  | [], x, g, h => by simp at h
  | a :: l, x, g, h => by
    rw [List.map_cons] at h
    rcases hf : f a with ⟨n, b⟩
    rw [hf, List.lookup_cons] at h
    cases hx : x == n with
    | true =>
      rw [hx] at h
      cases h
      rw [eq_of_beq hx]
      exact ⟨a, List.mem_cons_self, hf⟩
    | false =>
      rw [hx] at h
      obtain ⟨a', h1, h2⟩ := lookup_map_mem h
      exact ⟨a', List.mem_cons_of_mem _ h1, h2⟩
theorem lookup_app {β : Type} : ∀ {l m : List (Str × β)} {x : Str} {g : β}, (l ++ m).lookup x = some g → l.lookup x = some g ∨ m.lookup x = some g
  | [], m, x, g, h => .inr h
  | (n, b) :: l, m, x, g, h => by
    rw [List.cons_append, List.lookup_cons] at h
    rw [List.lookup_cons]
    cases hx : x == n with
    | true => rw [hx] at h; exact .inl h
    | false => rw [hx] at h; exact lookup_app h
theorem fn_bad {f : Addr} {fd : FuncData} {ps : List Str} {call : List PV → CR} {k : Nat} (h : ∀ as, call as = .bad) : FnOk P w K mg base (L2.CX P w) k f fd ps (SpOf ad K call) := by
  refine ⟨fun vs H Q E ⟨as, G, c, r, hh, a⟩ => ?_, fun A outer s H args us vs Q E hr e0 hb r ⟨as, G, c, r', hh, a⟩ => ?_⟩
  · rw [h] at a; exact a.elim
  · rw [h] at a; exact a.elim
/-- every def, at every depth of calls -/
theorem all_ok (hcur : ad.cur = none) {l : Lw} (hl : l.ok) (hE : ∀ e ∈ l.es, EntOk ad K mg e) (hc : ∀ c ∈ l.cs, CstOk mg c) (hbl : ∀ x ∈ l.bl, mg x = none) (hxs : ∀ d ∈ l.xs, XcFact P ad K mg d) (fuel : Nat) : ∀ n : Nat, ∀ e ∈ l.es, ∀ fdat, Fun K e.key e.key e.st (ad e.key) fdat →
    FnOk P w K mg base (L2.CX P w) (n + 2) (ad e.key) fdat e.ps (SpOf ad K (callN l.T fuel n e.key))
  | 0, e, he, fdat, F => fn_bad fun as => rfl
  | n + 1, e, he, fdat, F => by
    have hbase : ad.base = ad := by
      obtain ⟨f, c⟩ := ad
      cases hcur
      rfl
    have ih := all_ok hcur hl hE hc hbl hxs fuel n
    have ec := hl.2 e he
    simp only [Lw.entC, Bool.and_eq_true, decide_eq_true_eq] at ec
    obtain ⟨⟨⟨h1, h2⟩, h3⟩, h4⟩ := ec
    have hT : l.T e.key = some e.fd := tblOf_mem hl.1 he
    have hrun : callN l.T fuel (n + 1) e.key = runF ⟨callN l.T fuel n, lendOf l.T, fuel, none⟩ e.fd := by
      funext as
      simp only [callN, hT]
    rw [hrun]
    refine fn_run hcur F (scopeC_ok h1) h2 h3 fun X cdv A outer s H vs E hX hr tk pass => ?_
    subst hX
    have g : Good ad (cxOf (L2.CX P w) P w K mg base e.N e.key (defScope e.st) (ad e.key) cdv A outer s H E) (fun cls d _ H => E cls d H) ⟨callN l.T fuel n, lendOf l.T, fuel, none⟩ (l.sc e) := by
      refine ⟨rfl, (scopeC_ok h1).nd, rfl, fun _ _ => rfl, fun _ => ⟨rfl, hcur, rfl⟩, fun i h => (by cases h), ?_, tk, hbl, fun x ge hx => ?_, rfl⟩
      · have := hr.un
        omega
      · rcases lookup_app hx with hx | hx
        · obtain ⟨e', he', e2⟩ := lookup_map_mem hx
          cases e2
          obtain ⟨fdat', F', b1, b3⟩ := hE e' he'
          exact ⟨n + 2, fdat', e'.ps, by rw [hbase]; exact ih e' he' fdat' F', fun _ => hr, b3, F'.kp, b1⟩
        · rcases lookup_app hx with hx | hx
          · obtain ⟨c, hcm, e2⟩ := lookup_map_mem hx
            cases e2
            obtain ⟨u, v, m, r, z⟩ := hc c hcm
            exact ⟨u, v, m, r, fun G => z ad K G⟩
          · obtain ⟨d, hdm, e2⟩ := lookup_map_mem hx
            cases e2
            obtain ⟨z1, z2, z3, z4⟩ := hxs d hdm
            exact ⟨rfl, z1, z2, ⟨n, fun _ => hr⟩, z3, z4⟩
    exact chkB_ok (fun _ => chk_ok 40) 30 _ _ _ _ h4 _ _ _ _ ⟨g, pass, rfl, fun z e => (by rw [hcur] at e; cases e), rfl, rfl⟩
end
/-- the law's promise from a run of the evaluator -/
theorem law_sp {K : PySem.W.Frag} {H : Hp} {a : Addr} {ns : List Int} {call : List PV → CR} (hS : SqL K H a (ns.map V.int)) (h : ∃ as, call [.lck (ns.map .int)] = .ok (.bl true) as) : SpOf ad K call [.ref a] H (fun v _ => v = .bl true) fun _ _ _ => False := by
  obtain ⟨as, h⟩ := h
  have hr : ∀ ms : List Int, RepL ad K H (ms.map PV.int) (ms.map V.int) [] := fun ms => by
    induction ms with
    | nil => exact .nil
    | cons m ms ih => exact RepL.cons0 (.int m) ih
  refine ⟨[.lck (ns.map .int)], H, [], RepL.cons0 (.lck hS (hr ns)) .nil, ⟨Sub.refl H, (fun z hz => nomatch hz), (fun z hz => nomatch hz), List.nodup_nil⟩, ?_⟩
  rw [h]
  intro v H' G' c' t s sl hh r
  cases r
  rfl
theorem noCX {P : Program} {w : World} {H : Hp} {s s' : Shared} {e : Value} (h : L2.CX P w [] H s (fun _ _ _ => False) e s') : False := by
  obtain ⟨_, _, _, _, _, _, _, _, _, _, _, _, z⟩ := h
  exact z
end Y
end
section
set_option Elab.async false
set_option linter.all false
set_option maxRecDepth 100000
set_option maxHeartbeats 4000000
set_option autoImplicit false
/-! Y17: the law's end. -/
namespace Y
open PySem L2
def adF (mg : Str → Option Value) : Str → Addr := fun k => match mg k with
  | some (.ref a) => a
  | _ => 0
def adOf (mg : Str → Option Value) : Ad := ⟨adF mg, none⟩
theorem adOf_at {mg : Str → Option Value} {x : Str} {f : Addr} (h : mg x = some (.ref f)) : adOf mg x = f := by
  show adF mg x = f
  unfold adF
  rw [h]
/-- what the module's run has left of a def, by its place -/
def EntF (K : PySem.W.Frag) (mg : Str → Option Value) (x : Str) (st : Stmt) (ps : List Str) : Prop := ∃ f fdat, Fun K x x st f fdat ∧ (∀ us : List Value, us.length = ps.length → bindArgs fdat ⟨us, []⟩ = pure (ps.zip us)) ∧ mg x = some (.ref f)
section
variable {K : PySem.W.Frag} {h : Heap} {mg : Str → Option Value}
theorem ent_fact {x : Str} {st : Stmt} {ps : List Str} (X : K.In h) (G : h.Ns mainGlobals mg) {f : Addr} {od an : Option Addr} {sl : Array (Option Value)} {oc kV dc pm cd ct : Value} (a : PySem.W.nsIn K mainGlobals x = some (some (.ref f)))
    (l : K.lookup f = some ⟨oc, od, .func (PySem.W.fnOf x x (defArgs st) (defBody st) (defScope st) .none kV dc pm an cd ct), sl⟩) (c : PySem.W.codeIn K cd x = true) (k : PySem.W.keepIn K (.ref f) = true)
    (hb : ∀ us : List Value, us.length = ps.length → bindArgs (PySem.W.fnOf x x (defArgs st) (defBody st) (defScope st) .none kV dc pm an cd ct) ⟨us, []⟩ = pure (ps.zip us)) : EntF K mg x st ps :=
  ⟨f, _, fun_mk l c k, hb, PySem.W.mg_of X G a⟩
theorem EntF.ok {e : Ent} (F : EntF K mg e.key e.st e.ps) : EntOk (adOf mg) K mg e := by
  obtain ⟨f, fdat, F, hb, hm⟩ := F
  have ea : adOf mg e.key = f := adOf_at hm
  exact ⟨fdat, by rw [ea]; exact F, .all hb, by rw [ea]; exact hm⟩
theorem law_end {P : Program} {w : World} {l : Lw} {e : Ent} {fa : Addr} {x : Str} (hl : l.ok) (he : e ∈ l.es) (hps : e.ps = [x]) (hF : ∀ e ∈ l.es, EntF K mg e.key e.st e.ps) (hc : ∀ c ∈ l.cs, CstOk mg c) (hbl : ∀ x ∈ l.bl, mg x = none) (hxs : ∀ d ∈ l.xs, XcFact P (adOf mg) K mg d) (hmg : mg e.key = some (.ref fa))
    (fuel n : Nat) (hp : ∀ ns : List Int, ns.length ≤ 63 → ∃ as, callN l.T fuel n e.key [.lck (ns.map .int)] = .ok (.bl true) as) :
    ∃ (fd : FuncData) (sp : Sp), (∀ (s : Shared) (u : Value), BindsTo s fd ⟨[u], []⟩ [(x, u)]) ∧
        (∀ (H : Hp) (a : Addr) (ns : List Int), ns.length ≤ 63 → Only H → SqL K H a (ns.map V.int) → sp [.ref a] H (fun v _ => v = .bl true) fun _ _ _ => False) ∧
        ∀ base : Heap, K.In base → base.Ns mainGlobals mg → FnOk P w K mg base (L2.CX P w) (n + 2) fa fd [x] sp := by
  obtain ⟨f, fdat, F, hb, hm⟩ := hF e he
  have ef : fa = f := by
    rw [hmg] at hm
    exact Value.ref.inj (Option.some.inj hm)
  subst ef
  refine ⟨fdat, SpOf (adOf mg) K (callN l.T fuel n e.key), fun s u => .of_eq ?_, fun H a ns hl hO hS => law_sp hS (hp ns hl), fun base h1 h2 => ?_⟩
  · have := hb [u] (by rw [hps]; rfl)
    rw [hps] at this
    exact this
  · have ea : adOf mg e.key = fa := adOf_at hmg
    have ao := all_ok (P := P) (w := w) (base := base) rfl hl (fun e he => (hF e he).ok) hc hbl hxs fuel n e he fdat (by rw [ea]; exact F)
    rw [ea, hps] at ao
    exact ao
end
theorem cst_int {mg : Str → Option Value} {x : Str} {i : Int} {t : Nat} (h : mg x = some (.int i t)) : CstOk mg (x, .int i) := ⟨_, .int i, h, ⟨t, rfl⟩, fun _ _ _ => .int i⟩
theorem cst_str {mg : Str → Option Value} {x : Str} {i : Str} {t : Nat} (h : mg x = some (.str i t)) : CstOk mg (x, .str i) := ⟨_, .str i, h, ⟨t, rfl⟩, fun _ _ _ => .str i⟩
/-- the goal that the head leaves, from a law's end by its written part -/
theorem walk_y {l : PySem.W.OpenLaw} {k n : Nat} {q : Program} {loose : List Str} {XP : (Str → Option Value) → Heap → Prop} {YP : World → Heap → Prop} {d : DefRec} {x : Str}
    (hn : l.most = some n) (hn2 : n ≤ sizeLine) (hdf : d.params.defaults = []) (hr : Room k callerA)
    (F : ∀ (w : World) (mg : Str → Option Value) (fa : Addr) (h : Heap), YP w h → h.Ns mainGlobals mg → mg d.name = some (.ref fa) → ∃ K : PySem.W.Frag, K.In h ∧ ∃ (fd : FuncData) (sp : Sp), (∀ (s : Shared) (u : Value), BindsTo s fd ⟨[u], []⟩ [(x, u)]) ∧
        (∀ (H : Hp) (a : Addr) (ns : List Int), ns.length ≤ n → Only H → SqL K H a (ns.map V.int) → sp [.ref a] H (fun v _ => v = .bl true) fun _ _ _ => False) ∧
        ∀ base : Heap, K.In base → base.Ns mainGlobals mg → FnOk l.prog w K mg base (L2.CX l.prog w) k fa fd [x] sp) :
    PySem.W.WalkO q loose XP YP l.row.toRowW d [] (fun f vs => PySem.call f vs) := by
  refine Att.attach_call hn hdf fun w s0 s1 mg mb fa o pm cd doc a vs ns G z ho hd hcd hmg hobj hints hlen hg => ?_
  obtain ⟨K, kx, fd, sp, hb, hsp, hF⟩ := F w mg fa _ z G.T.g hmg
  exact law_call kx G.T.g G.T.b G.T.builtins G.T.nolimit hg hobj hints (Nat.le_trans hlen hn2) hr hF hb
    (fun H hO hS => hsp H a ns hlen hO hS) (fun H e s2 c => noCX c)
end Y
end
section
set_option Elab.async false
set_option linter.all false
set_option maxRecDepth 100000
set_option maxHeartbeats 2000000
set_option autoImplicit false
/-! X1: what the written part says of a class of errors, from facts that k_is answers. -/
namespace Y
open PySem L2 PySem.W
/-- __init__ of a class whose body is it alone -/
def iniOf : Stmt → Stmt
  | .ClassDef _ _ _ [f] _ _ _ _ _ _ _ => f
  | s => s
def TakeP (K : Frag) (C : Addr) : List Str → Prop
  | [] => True
  | f :: r => takerIn K C f = some none ∧ findIn K (.ref C) f = some none ∧ TakeP K C r
theorem TakeP.at {K : Frag} {C : Addr} : ∀ {fs : List Str}, TakeP K C fs → ∀ f ∈ fs, takerIn K C f = some none ∧ findIn K (.ref C) f = some none
  | [], _, _, h => by cases h
  | g :: r, ⟨h1, h2, h3⟩, f, h => by
    rcases List.mem_cons.mp h with rfl | h
    · exact ⟨h1, h2⟩
    · exact TakeP.at h3 f h
def RelsP (K : Frag) (C : Addr) : List (Str × Bool) → Prop
  | [] => True
  | (k, b) :: r => (∃ D, nsIn K mainGlobals k = some (some (.ref D)) ∧ subIn K (.ref D) (.type "BaseException") = some true ∧ hasDictIn K D = true ∧ typeIn K (.ref D) = some (.type "type") ∧ subIn K (.ref C) (.ref D) = some b) ∧ RelsP K C r
theorem RelsP.at {K : Frag} {h : Heap} {mg : Str → Option Value} (X : K.In h) (G : h.Ns mainGlobals mg) {C : Addr} : ∀ {l : List (Str × Bool)}, RelsP K C l → ∀ k b, l.lookup k = some b → exmOne K (.ref C) (.ref (adOf mg k)) = some b
  | [], _, k, b, h => by simp at h
  | (k', b') :: r, ⟨⟨D, h1, h2, h3, h4, h5⟩, hr⟩, k, b, h => by
    rw [List.lookup_cons] at h
    cases e : k == k' with
    | true =>
      rw [e] at h
      cases h
      cases eq_of_beq e
      rw [adOf_at (mg_of X G h1)]
      exact exm_ref h2 h3 h4 h5
    | false =>
      rw [e] at h
      exact RelsP.at X G hr k b h
def TysP (K : Frag) (C : Addr) : List (String × Bool) → Prop
  | [] => True
  | (t, b) :: r => (kitMeta t = true ∧ subIn K (.ref C) (.type t) = some b) ∧ TysP K C r
theorem TysP.at {K : Frag} {C : Addr} : ∀ {l : List (String × Bool)}, TysP K C l → ∀ t b, l.lookup t = some b → kitOne K (.ref C) (.type t) = some b
  | [], _, t, b, h => by simp at h
  | (t', b') :: r, ⟨⟨h1, h2⟩, hr⟩, t, b, h => by
    rw [List.lookup_cons] at h
    cases e : t == t' with
    | true =>
      rw [e] at h
      cases h
      rw [eq_of_beq e]
      show (if ((Value.ref C : Value) == Value.type t') = true then _ else (if kitMeta t' = true then subIn K (.ref C) (.type t') else none)) = _
      rw [if_neg (by intro z; cases (beq_iff_eq.mp z)), if_pos h1]
      exact h2
    | false =>
      rw [e] at h
      exact TysP.at hr t b h
theorem xc_mk {P : Program} {K : Frag} {h : Heap} {mg : Str → Option Value} (X : K.In h) (G : h.Ns mainGlobals mg) {d : XD} {st : Stmt} {B i newId : String} {bmB : List Value} {qual : Str} {C fI cc cda : Addr} {oc doc pm ct : Value} {od an : Option Addr} {osl ccs csl : Array (Option Value)}
    {ccl cl : Value} {cdd cld : Option Addr} {vs : Array Value} {file : Str} {tf : Nat} {dV kV : Value}
    (FB : ExcBaseFacts B newId i bmB) (SF : StoreFacts B bmB "object.__setattr__" "object") (KF : KxsFacts B i)
    (aC : nsIn K mainGlobals d.cls = some (some (.ref C))) (ini : excInitIn K C bmB newId = true) (over : excOver K C bmB = true) (sup : ks_superIn K C C "__init__" = some (some (.builtin i)))
    (sa : findIn K (.ref C) "__setattr__" = some (some (.builtin "object.__setattr__"))) (hd : hasDictIn K C = true) (subB : subIn K (.ref C) (.type B) = some true)
    (iC : findIn K (.ref C) "__init__" = some (some (.ref fI)))
    (lk : K.lookup fI = some ⟨oc, od, .func (ksFn "__init__" qual (defArgs (iniOf st)) (defBody (iniOf st)) (defScope (iniOf st)) dV kV doc pm an (.ref cda) ct cc), osl⟩)
    (cd : codeIn K (.ref cda) qual = true) (lc : K.lookup cda = some ⟨ccl, cdd, .fields vs, ccs⟩) (v2 : vs[2]? = some (.str file tf)) (hf : ((P.main.file : Str) == file) = true)
    (cell : K.lookup cc = some ⟨cl, cld, .cell (some (.ref C)), csl⟩) (top : (P.main.scope.names.lookup ("super" : Str)).isSome = false)
    (hhead : ∃ ar, ((defArgs (iniOf st)).posonlyargs ++ (defArgs (iniOf st)).args).head? = some ar ∧ ar.arg = ("self" : Str)) (bdy : EX.exBody d.fs (defBody (iniOf st)) = true)
    (hs : (defScope (iniOf st)).kind = .function ∧ (defScope (iniOf st)).isCoroutine = false ∧ (defScope (iniOf st)).isGenerator = false ∧ (∀ x ∈ (defScope (iniOf st)).names, x.2 ≠ .cell) ∧ (defScope (iniOf st)).names.lookup ("super" : Str) = some .globalImplicit ∧ (defScope (iniOf st)).names.lookup ("__class__" : Str) = some .free ∧ (defScope (iniOf st)).names.lookup ("self" : Str) = some .local)
    (hs2 : (∀ f ∈ d.fs, (defScope (iniOf st)).names.lookup f = some .local ∧ (f == ("__debug__" : Str)) = false) ∧ ("self" :: d.fs : List Str).Nodup ∧ d.fs.length ≤ 800 ∧ d.fs ≠ [])
    (tk : TakeP K C d.fs) (opq : nsIn K cStatics "thirdparty.any" = some none) (mgs : nsIn K mainGlobals "super" = some none) (msub : mroIn K C (.ref C) = some true)
    (tI : typeIn K (.ref fI) = some (.type "function")) (kC : keepIn K (.ref C) = true) (exC : subIn K (.ref C) (.type "BaseException") = some true) (tyC : typeIn K (.ref C) = some (.type "type"))
    (hb : ∀ us : List Value, us.length = d.fs.length + 1 → bindArgs (ksFn "__init__" qual (defArgs (iniOf st)) (defBody (iniOf st)) (defScope (iniOf st)) dV kV doc pm an (.ref cda) ct cc) ⟨us, []⟩ = pure ((("self" : Str) :: d.fs).zip us))
    (ga : findIn K (.ref C) "__getattribute__" = some (some (.builtin "BaseException.__getattribute__"))) (gg : findIn K (.ref C) "__getattr__" = some none)
    (ha : findIn K (.ref C) "__class__" = some (some (.builtin "object.__class__"))) (hn : specialIn K (.builtin "object.__class__") "__get__" = some (some (.builtin "getset_descriptor.__get__"))) (ht : takesIn K (.builtin "object.__class__") = some true) (hm : mroIn K C (.type "object") = some true)
    (rel : RelsP K C d.rel) (ty : TysP K C d.ty) : XcFact P (adOf mg) K mg d := by
  have gC := mg_of X G aC
  have eC : adOf mg d.cls = C := adOf_at gC
  refine ⟨by rw [eC]; exact gC, ?_, hs2.2.2.2, fI, cc, cda, B, i, newId, bmB, ksFn "__init__" qual (defArgs (iniOf st)) (defBody (iniOf st)) (defScope (iniOf st)) dV kV doc pm an (.ref cda) ct cc, defBody (iniOf st), defScope (iniOf st), ?_⟩
  · constructor
    · rw [eC]; exact ⟨ga, gg, exC, hd⟩
    · rw [eC]; exact ⟨ga, gg, exC, hd, ha, hn, ht, hm⟩
    · rw [eC]; exact fun f hf => (tk.at f hf).2
    · rw [eC]; exact RelsP.at X G rel
    · rw [eC]; exact TysP.at ty
  · rw [eC]
    refine ⟨⟨FB, SF, KF, ini, over, sup, sa, hd, subB⟩, ⟨⟨oc, od, osl, lk⟩, ?_, ⟨ccl, cdd, vs, ccs, file, tf, lc, v2, hf⟩, ⟨cl, cld, csl, cell⟩, top, bdy, hs.1, hs.2.1, hs.2.2.1, hs.2.2.2.1, hs.2.2.2.2.1, hs.2.2.2.2.2.1, hs.2.2.2.2.2.2, fun f hf => ⟨(hs2.1 f hf).1, (tk.at f hf).1, (hs2.1 f hf).2⟩, hs2.2.1, hs2.2.2.1, opq, mg_none_of X G mgs, msub⟩, iC, tI, kC, exC, tyC, gC, fun s x us hl => ?_⟩
    · obtain ⟨ar, h1, h2⟩ := hhead
      exact ⟨qual, _, dV, kV, doc, pm, an, ct, ar, rfl, cd, h1, h2⟩
    · refine .of_eq ?_
      rw [List.append_nil]
      exact hb (.ref x :: us) (by simpa using hl)
end Y
end
section
set_option Elab.async false
set_option linter.all false
set_option maxRecDepth 100000
set_option maxHeartbeats 2000000
set_option autoImplicit false
/-! Z1: rules for what the evaluator gives: apply them from the left. -/
namespace Y
open PySem
def Res.sat {α : Type} (r : Res α) (Q : α → Fr → Prop) (E : PX → Fr → Prop) : Prop := match r with
  | .ok a ρ => Q a ρ
  | .ex x ρ => E x ρ
  | .bad => False
def CR.sat (r : CR) (Q : PV → Fr → Prop) (E : PX → Fr → Prop) : Prop := match r with
  | .ok a ρ => Q a ρ
  | .ex x ρ => E x ρ
  | .bad => False
section
variable {α β : Type} {Q : α → Fr → Prop} {E : PX → Fr → Prop} {c : Cf} {ρ : Fr}
theorem sat_bind {r : Res β} {f : β → Fr → Res α} : (r.bind f).sat Q E ↔ r.sat (fun a ρ => (f a ρ).sat Q E) E := by
  cases r <;> rfl
theorem Res.sat.mono {r : Res α} {Q' : α → Fr → Prop} (h : r.sat Q' E) (k : ∀ a ρ, Q' a ρ → Q a ρ) : r.sat Q E := by
  cases r with
  | ok a ρ => exact k _ _ h
  | ex x ρ => exact h
  | bad => exact h
theorem CR.sat.mono {r : CR} {Q Q' : PV → Fr → Prop} (h : r.sat Q' E) (k : ∀ a ρ, Q' a ρ → Q a ρ) : r.sat Q E := by
  cases r with
  | ok a ρ => exact k _ _ h
  | ex x ρ => exact h
  | bad => exact h
end
section
variable {Q : PV → Fr → Prop} {E : PX → Fr → Prop} {c : Cf} {ρ : Fr}
theorem s_cst {p : PV} (h : Q p ρ) : (evE c (.cst p) ρ).sat Q E := by simp only [evE]; exact h
theorem s_loc {i : Nat} {p p' : PV} (e : ρ.at i = some p) (f : p.frz = p') (h : Q p' (ρ.set i (some p'))) : (evE c (.loc i) ρ).sat Q E := by subst f; simp only [evE, e]; exact h
theorem s_mov {i : Nat} {p : PV} (e : ρ.at i = some p) (h : Q p (ρ.set i none)) : (evE c (.mov i) ρ).sat Q E := by simp only [evE, e]; exact h
theorem s_op {f : Op} {es : List IE} (h : (evO c es ρ).sat (fun os ρ1 => ∃ ps r, rsvL ρ1 os = some ps ∧ opN f ps = some r ∧ Q r ρ1) E) : (evE c (.op f es) ρ).sat Q E := by
  simp only [evE]
  refine sat_bind.mpr (h.mono fun os ρ1 ⟨ps, r, e1, e2, q⟩ => ?_)
  rw [e1]
  dsimp only
  rw [e2]
  exact q
theorem s_and {a b : IE} (h : (evE c a ρ).sat (fun p ρ1 => ∃ k, p = .bl k ∧ (k = true → (evE c b ρ1).sat Q E) ∧ (k = false → Q (.bl false) ρ1)) E) : (evE c (.and a b) ρ).sat Q E := by
  simp only [evE, asB]
  refine sat_bind.mpr (sat_bind.mpr (h.mono fun p ρ1 ⟨k, e, q1, q2⟩ => ?_))
  subst e
  cases k with
  | true => exact q1 rfl
  | false => exact q2 rfl
theorem s_or {a b : IE} (h : (evE c a ρ).sat (fun p ρ1 => ∃ k, p = .bl k ∧ (k = true → Q (.bl true) ρ1) ∧ (k = false → (evE c b ρ1).sat Q E)) E) : (evE c (.or a b) ρ).sat Q E := by
  simp only [evE, asB]
  refine sat_bind.mpr (sat_bind.mpr (h.mono fun p ρ1 ⟨k, e, q1, q2⟩ => ?_))
  subst e
  cases k with
  | true => exact q1 rfl
  | false => exact q2 rfl
theorem s_ite {t a b : IE} (h : (evT c t (evE c t) ρ).sat (fun k ρ1 => (k = true → (evE c a ρ1).sat Q E) ∧ (k = false → (evE c b ρ1).sat Q E)) E) : (evE c (.ite t a b) ρ).sat Q E := by
  simp only [evE]
  refine sat_bind.mpr (h.mono fun k ρ1 ⟨q1, q2⟩ => ?_)
  cases k with
  | true => exact q1 rfl
  | false => exact q2 rfl
theorem s_lst {es : List IE} (h : (evL c es ρ).sat (fun ps ρ1 => ∃ qs, PV.frzL ps = qs ∧ okS ps.length = true ∧ Q (.lst true qs) ρ1) E) : (evE c (.lst es) ρ).sat Q E := by
  simp only [evE]
  refine sat_bind.mpr (h.mono fun ps ρ1 ⟨qs, f, e, q⟩ => ?_)
  subst f
  rw [if_pos e]
  exact q
theorem s_tup {es : List IE} (h : (evL c es ρ).sat (fun ps ρ1 => ∃ qs, PV.frzL ps = qs ∧ okS ps.length = true ∧ Q (.tup qs) ρ1) E) : (evE c (.tup es) ρ).sat Q E := by
  simp only [evE]
  refine sat_bind.mpr (h.mono fun ps ρ1 ⟨qs, f, e, q⟩ => ?_)
  subst f
  rw [if_pos e]
  exact q
theorem s_call {k : Str} {ls : List Bool} {es : List IE} (h : (evA c ls es ρ).sat (fun os ρ0 => ∃ as ρ1, takeA os ρ0 = some (as, ρ1) ∧ (c.call k (as.map (·.1))).sat (fun r as' => Q r (give (as.map (·.2)) as' ρ1)) fun x as' => E x (give (as.map (·.2)) as' ρ1)) E) : (evE c (.call k ls es) ρ).sat Q E := by
  simp only [evE]
  refine sat_bind.mpr (h.mono fun os ρ0 ⟨as, ρ1, et, q⟩ => ?_)
  rw [et]
  show (callR c k as ρ1).sat Q E
  unfold callR
  cases e : c.call k (as.map (·.1)) with
  | ok r as' => rw [e] at q; exact q
  | ex x as' => rw [e] at q; exact q
  | bad => rw [e] at q; exact q
theorem s_slc {x a b : IE} (h : (opnd x (evE c x) ρ).sat (fun o ρ1 => (opnd a (evE c a) ρ1).sat (fun y ρ2 => ∃ i, rsv ρ2 y = some (.int i) ∧ (opnd b (evE c b) ρ2).sat (fun z ρ3 => ∃ p j r, rsv ρ3 o = some p ∧ rsv ρ3 z = some (.int j) ∧ sliceN p (some i) (some j) = some r ∧ Q r ρ3) E) E) E) : (evE c (.slc x a b) ρ).sat Q E := by
  simp only [evE]
  refine sat_bind.mpr (h.mono fun o ρ1 q => sat_bind.mpr (q.mono fun y ρ2 ⟨i, e1, q⟩ => ?_))
  rw [e1]
  refine sat_bind.mpr (q.mono fun z ρ3 ⟨p, j, r, e2, e3, e4, q⟩ => ?_)
  rw [e2, e3]
  dsimp only [Option.bind, partN]
  rw [e4]
  exact q
end
section
variable {Q : OV → Fr → Prop} {E : PX → Fr → Prop} {c : Cf} {ρ : Fr}
theorem o_loc {i : Nat} {run : Fr → Res PV} {p : PV} (e : ρ.at i = some p) (h : Q (.vw i) ρ) : (opnd (.loc i) run ρ).sat Q E := by simp only [opnd, e]; exact h
def isL0 : IE → Bool
  | .loc _ => true
  | .it _ _ => true
  | _ => false
theorem o_it {i k : Nat} {run : Fr → Res PV} {xs : List PV} (e : ρ.at i = some (.tup xs)) (hk : k < xs.length) (h : Q (.vi i k) ρ) : (opnd (.it i k) run ρ).sat Q E := by simp only [opnd, e, hk, if_true]; exact h
theorem o_val {ie : IE} {run : Fr → Res PV} (e : isL0 ie = false) (h : (run ρ).sat (fun p ρ1 => ∃ p', p.frz = p' ∧ Q (.vl p') ρ1) E) : (opnd ie run ρ).sat Q E := by
  have : opnd ie run ρ = (run ρ).bind fun p ρ' => .ok (.vl p.frz) ρ' := by
    cases ie <;> first
      | rfl
      | cases e
  rw [this]
  exact sat_bind.mpr (h.mono fun p ρ1 ⟨p', f, q⟩ => by subst f; exact q)
end
section
variable {E : PX → Fr → Prop} {c : Cf} {ρ : Fr}
theorem os_nil {Q : List OV → Fr → Prop} (h : Q [] ρ) : (evO c [] ρ).sat Q E := by simp only [evO]; exact h
theorem os_cons {Q : List OV → Fr → Prop} {e : IE} {es : List IE} (h : (opnd e (evE c e) ρ).sat (fun o ρ1 => (evO c es ρ1).sat (fun os ρ2 => Q (o :: os) ρ2) E) E) : (evO c (e :: es) ρ).sat Q E := by
  simp only [evO]
  exact sat_bind.mpr (h.mono fun o ρ1 q => sat_bind.mpr (q.mono fun _ _ z => z))
theorem l_nil {Q : List PV → Fr → Prop} (h : Q [] ρ) : (evL c [] ρ).sat Q E := by simp only [evL]; exact h
theorem l_cons {Q : List PV → Fr → Prop} {e : IE} {es : List IE} (h : (evE c e ρ).sat (fun o ρ1 => (evL c es ρ1).sat (fun os ρ2 => Q (o :: os) ρ2) E) E) : (evL c (e :: es) ρ).sat Q E := by
  simp only [evL]
  exact sat_bind.mpr (h.mono fun o ρ1 q => sat_bind.mpr (q.mono fun _ _ z => z))
theorem a_nil {ls : List Bool} {Q : List OV → Fr → Prop} (h : Q [] ρ) : (evA c ls [] ρ).sat Q E := by simp only [evA]; exact h
theorem a_cons {ls : List Bool} {Q : List OV → Fr → Prop} {e : IE} {es : List IE} (h : (opA (ls.headD false) e (evE c e) ρ).sat (fun o ρ1 => (evA c ls.tail es ρ1).sat (fun os ρ2 => Q (o :: os) ρ2) E) E) : (evA c ls (e :: es) ρ).sat Q E := by
  simp only [evA]
  exact sat_bind.mpr (h.mono fun o ρ1 q => sat_bind.mpr (q.mono fun _ _ z => z))
/-- a name that is handed over: as it is where nothing in it is held alone, else lent -/
theorem g_see {b : Bool} {i : Nat} {run : Fr → Res PV} {Q : PV × Option Nat → Fr → Prop} {p : PV} (hb : b = true) (e : ρ.at i = some p) (f : p.fz = true) (h : Q (p, none) ρ) : (argd b (.loc i) run ρ).sat Q E := by
  subst hb
  simp only [argd, e, f, if_true]
  exact h
theorem g_lend {b : Bool} {i : Nat} {run : Fr → Res PV} {Q : PV × Option Nat → Fr → Prop} {p : PV} (hb : b = true) (e : ρ.at i = some p) (f : p.fz = false) (h : Q (p, some i) (ρ.set i none)) : (argd b (.loc i) run ρ).sat Q E := by
  subst hb
  simp only [argd, e, f, Bool.false_eq_true, if_false]
  exact h
theorem g_val {b : Bool} {ie : IE} {run : Fr → Res PV} {Q : PV × Option Nat → Fr → Prop} (e : (b && isL0 ie) = false) (h : (run ρ).sat (fun p ρ1 => ∃ p', p.frz = p' ∧ Q (p', none) ρ1) E) : (argd b ie run ρ).sat Q E := by
  have : argd b ie run ρ = (run ρ).bind fun p ρ' => .ok (p.frz, none) ρ' := by
    cases b with
    | false => cases ie <;> rfl
    | true =>
      cases ie <;> first
        | rfl
        | cases e
  rw [this]
  exact sat_bind.mpr (h.mono fun p ρ1 ⟨p', f, q⟩ => by subst f; exact q)
end
/-! tests -/
section
variable {Q : Bool → Fr → Prop} {E : PX → Fr → Prop} {c : Cf} {ρ : Fr} {run : Fr → Res PV}
theorem t_and {a b : IE} (h : (evT c a (evE c a) ρ).sat (fun k ρ1 => (k = true → (evT c b (evE c b) ρ1).sat Q E) ∧ (k = false → Q false ρ1)) E) : (evT c (.and a b) run ρ).sat Q E := by
  simp only [evT]
  refine sat_bind.mpr (h.mono fun k ρ1 ⟨q1, q2⟩ => ?_)
  cases k with
  | true => exact q1 rfl
  | false => exact q2 rfl
theorem t_or {a b : IE} (h : (evT c a (evE c a) ρ).sat (fun k ρ1 => (k = true → Q true ρ1) ∧ (k = false → (evT c b (evE c b) ρ1).sat Q E)) E) : (evT c (.or a b) run ρ).sat Q E := by
  simp only [evT]
  refine sat_bind.mpr (h.mono fun k ρ1 ⟨q1, q2⟩ => ?_)
  cases k with
  | true => exact q1 rfl
  | false => exact q2 rfl
theorem t_not {a : IE} (h : (evT c a (evE c a) ρ).sat (fun k ρ1 => Q (!k) ρ1) E) : (evT c (.op .not [a]) run ρ).sat Q E := by
  simp only [evT]
  exact sat_bind.mpr h
def nNot : Op → Bool
  | .not => false
  | _ => true
theorem t_op {f : Op} {es : List IE} (hf : nNot f = true) (h : (run ρ).sat (fun p ρ1 => ∃ k, p = .bl k ∧ Q k ρ1) E) : (evT c (.op f es) run ρ).sat Q E := by
  have : evT c (.op f es) run ρ = asB (run ρ) := by
    cases f <;> first
      | simp only [evT]
      | cases hf
  rw [this]
  refine sat_bind.mpr (h.mono fun p ρ1 ⟨k, e, q⟩ => ?_)
  subst e
  exact q
theorem t_dcmp {f : CmpOp} {t u : Option Bool} {es ds : List IE} (h : (run ρ).sat (fun p ρ1 => ∃ k, p = .bl k ∧ Q k ρ1) E) : (evT c (.dcmp f t es u ds) run ρ).sat Q E := by
  simp only [evT]
  refine sat_bind.mpr (h.mono fun p ρ1 ⟨k, e, q⟩ => ?_)
  subst e
  exact q
theorem t_chain {f g : CmpOp} {x y z : IE} (h : (run ρ).sat (fun p ρ1 => ∃ k, p = .bl k ∧ Q k ρ1) E) : (evT c (.chain f g x y z) run ρ).sat Q E := by
  simp only [evT]
  refine sat_bind.mpr (h.mono fun p ρ1 ⟨k, e, q⟩ => ?_)
  subst e
  exact q
def isV0 : IE → Bool
  | .op _ _ => false
  | .chain _ _ _ _ _ => false
  | .dcmp _ _ _ _ _ => false
  | .and _ _ => false
  | .or _ _ => false
  | _ => true
theorem t_val {ie : IE} (hv : isV0 ie = true) (h : (opnd ie run ρ).sat (fun o ρ1 => ∃ p k, rsv ρ1 o = some p ∧ truth p = some k ∧ Q k ρ1) E) : (evT c ie run ρ).sat Q E := by
  have : evT c ie run ρ = (opnd ie run ρ).bind fun o ρ1 => match rsv ρ1 o with
    | some p => (match truth p with
      | some k => .ok k ρ1
      | none => .bad)
    | none => .bad := by
    cases ie <;> first
      | first | (simp only [evT]; done) | (simp only [evT]; rfl)
      | cases hv
  rw [this]
  refine sat_bind.mpr (h.mono fun o ρ1 ⟨p, k, e1, e2, q⟩ => ?_)
  rw [e1]
  dsimp only
  rw [e2]
  exact q
theorem i_nil (h : Q true ρ) : (evIfs c [] ρ).sat Q E := by simp only [evIfs]; exact h
theorem i_one {e : IE} (h : (evT c e (evE c e) ρ).sat Q E) : (evIfs c [e] ρ).sat Q E := by simp only [evIfs]; exact h
end
/-! chains -/
theorem s_chain {Q : PV → Fr → Prop} {E : PX → Fr → Prop} {c : Cf} {ρ : Fr} {f g : CmpOp} {x y z : IE} (h : (opnd x (evE c x) ρ).sat (fun o1 ρ1 => (opnd y (evE c y) ρ1).sat (fun o2 ρ2 => ∃ p q k, rsv ρ2 o1 = some p ∧ rsv ρ2 o2 = some q ∧ cmpN f p q = some k ∧
    (k = false → Q (.bl false) ρ2) ∧ (k = true → (opnd z (evE c z) ρ2).sat (fun o3 ρ3 => ∃ q' r k', rsv ρ3 o2 = some q' ∧ rsv ρ3 o3 = some r ∧ cmpN g q' r = some k' ∧ Q (.bl k') ρ3) E)) E) E) : (evE c (.chain f g x y z) ρ).sat Q E := by
  simp only [evE]
  refine sat_bind.mpr (h.mono fun o1 ρ1 h => sat_bind.mpr (h.mono fun o2 ρ2 ⟨p, q, k, e1, e2, e3, q1, q2⟩ => ?_))
  rw [e1, e2]
  dsimp only
  rw [e3]
  cases k with
  | false => exact q1 rfl
  | true =>
    refine sat_bind.mpr ((q2 rfl).mono fun o3 ρ3 ⟨q', r, k', f1, f2, f3, q⟩ => ?_)
    rw [f1, f2]
    dsimp only
    rw [f3]
    exact q
theorem s_dcmp {Q : PV → Fr → Prop} {E : PX → Fr → Prop} {c : Cf} {ρ : Fr} {f : CmpOp} {t u : Option Bool} {es ds : List IE} (h : (evO c es ρ).sat (fun x ρ1 => okS x.length = true ∧ (evO c ds ρ1).sat (fun y ρ2 => okS y.length = true ∧ ∃ p q k, (rsvL ρ2 x).bind (dspP t) = some p ∧ (rsvL ρ2 y).bind (dspP u) = some q ∧ cmpN f p q = some k ∧ Q (.bl k) ρ2) E) E) : (evE c (.dcmp f t es u ds) ρ).sat Q E := by
  simp only [evE]
  refine sat_bind.mpr (sat_bind.mpr (h.mono fun x ρ1 ⟨o1, h⟩ => ?_))
  unfold fitO
  rw [if_pos o1]
  refine sat_bind.mpr (sat_bind.mpr (h.mono fun y ρ2 ⟨o2, p, q, k, e1, e2, e3, h⟩ => ?_))
  rw [if_pos o2]
  show Res.sat (match (rsvL ρ2 x).bind (dspP t), (rsvL ρ2 y).bind (dspP u) with
      | some p, some q => (match cmpN f p q with
        | some k => .ok (.bl k) ρ2
        | none => .bad)
      | _, _ => .bad) Q E
  rw [e1, e2]
  dsimp only
  rw [e3]
  exact h
/-! what is walked -/
section
variable {Q : List PV → Fr → Prop} {E : PX → Fr → Prop} {c : Cf} {ρ : Fr}
theorem w_it {e : IE} (h : (evE c e ρ).sat (fun p ρ1 => ∃ p' xs, p.frz = p' ∧ srcOf p' = some xs ∧ Q xs ρ1) E) : (evSrc c (.it e) ρ).sat Q E := by
  simp only [evSrc]
  refine sat_bind.mpr (h.mono fun p ρ1 ⟨p', xs, f, e, q⟩ => ?_)
  subst f
  rw [e]
  exact q
theorem w_rng {es : List IE} (h : (evO c es ρ).sat (fun os ρ1 => ∃ ps xs, rsvL ρ1 os = some ps ∧ rngN ps = some xs ∧ Q xs ρ1) E) : (evSrc c (.rng es) ρ).sat Q E := by
  simp only [evSrc]
  refine sat_bind.mpr (h.mono fun os ρ1 ⟨ps, xs, e1, e2, q⟩ => ?_)
  rw [e1]
  dsimp only [Option.bind]
  rw [e2]
  exact q
theorem w_enm {e : IE} (h : (evE c e ρ).sat (fun p ρ1 => ∃ p' xs, p.frz = p' ∧ enmP [p'] = some xs ∧ Q xs ρ1) E) : (evSrc c (.enm e) ρ).sat Q E := by
  simp only [evSrc]
  refine sat_bind.mpr (g_val (b := false) rfl (h.mono fun p ρ1 ⟨p', xs, f, e, q⟩ => ⟨p', f, ?_⟩))
  rw [e]
  exact q
/-- a comprehension's loop, by an invariant of what is left, what is made, the slots -/
theorem comp_loop {turn : PV → Fr → Res (Option PV)} {own : List Nat} (I : List PV → List PV → Fr → Prop) (step : ∀ x r acc ρ, I (x :: r) acc ρ → (turn x ρ).sat (fun y ρ1 => match y with
    | some y => ∃ y', y.frz = y' ∧ acc.length < sizeLine ∧ I r (acc ++ [y']) (wipeF ρ1 own)
    | none => I r acc (wipeF ρ1 own)) fun _ _ => False) : ∀ (xs acc : List PV) (ρ : Fr), I xs acc ρ → (compL turn own xs ρ acc).sat (fun ys ρ => I [] ys ρ) fun _ _ => False
  | [], acc, ρ, h => h
  | x :: r, acc, ρ, h => by
    have s := step x r acc ρ h
    unfold compL
    cases e : turn x ρ with
    | bad => rw [e] at s; exact s
    | ex x ρ1 => rw [e] at s; exact s.elim
    | ok y ρ1 =>
      rw [e] at s
      cases y with
      | none => exact comp_loop I step r acc _ s
      | some y =>
        obtain ⟨y', f, h1, h2⟩ := s
        subst f
        dsimp only
        rw [if_pos h1]
        exact comp_loop I step r _ _ h2
end
theorem s_comp {Q : PV → Fr → Prop} {E : PX → Fr → Prop} {c : Cf} {ρ : Fr} {elt : IE} {tg : IT} {src : ISrc} {ifs : List IE} {own : List Nat} (I : List PV → List PV → Fr → Prop) (h : (evSrc c src ρ).sat (fun xs ρ1 => I xs [] (wipeF (frzAt ρ1 own) own) ∧ ∀ ys ρ2, I [] ys ρ2 → Q (.lst true ys) (backAt (frzAt ρ1 own) ρ2 own)) E)
    (step : ∀ x r acc ρ, I (x :: r) acc ρ → ∃ ρ2, asg tg x ρ = some ρ2 ∧ (evIfs c ifs ρ2).sat (fun k ρ3 => (k = true → (evE c elt ρ3).sat (fun y ρ4 => ∃ y', y.frz = y' ∧ acc.length < sizeLine ∧ I r (acc ++ [y']) (wipeF ρ4 own)) fun _ _ => False) ∧ (k = false → I r acc (wipeF ρ3 own))) fun _ _ => False) :
    (evE c (.comp elt tg src ifs own) ρ).sat Q E := by
  simp only [evE]
  refine sat_bind.mpr (h.mono fun xs ρ1 ⟨h0, hk⟩ => ?_)
  have L := comp_loop (own := own) (turn := fun x ρ => match asg tg x ρ with
        | some ρ2 => (evIfs c ifs ρ2).bind fun k ρ3 => if k then (evE c elt ρ3).bind fun y ρ4 => .ok (some y) ρ4 else .ok none ρ3
        | none => .bad) I (fun x r acc ρ hI => by
      obtain ⟨ρ2, e, q⟩ := step x r acc ρ hI
      rw [e]
      refine sat_bind.mpr (q.mono fun k ρ3 ⟨q1, q2⟩ => ?_)
      cases k with
      | true =>
        rw [if_pos rfl]
        exact sat_bind.mpr (q1 rfl)
      | false =>
        rw [if_neg Bool.false_ne_true]
        exact q2 rfl) xs [] _ h0
  generalize compL _ own xs _ [] = r at L
  cases r with
  | ok ys ρ2 => exact hk ys ρ2 L
  | ex x ρ2 => exact L.elim
  | bad => exact L.elim
/-! statements -/
section
variable {Q : Fl → Fr → Prop} {E : PX → Fr → Prop} {c : Cf} {ρ : Fr}
theorem b_nil (h : Q .nx ρ) : (evB c [] ρ).sat Q E := by simp only [evB]; exact h
theorem b_cons {s : IS} {r : List IS} (h : (evS c s ρ).sat (fun f ρ1 => match f with
    | .nx => (evB c r ρ1).sat Q E
    | z => Q z ρ1) E) : (evB c (s :: r) ρ).sat Q E := by
  simp only [evB]
  cases e : evS c s ρ with
  | bad => rw [e] at h; exact h
  | ex x ρ1 => rw [e] at h; exact h
  | ok f ρ1 =>
    rw [e] at h
    cases f <;> exact h
theorem k_set {i : Nat} {e : IE} (h : (evE c e ρ).sat (fun p ρ1 => i < ρ1.length ∧ Q .nx (ρ1.set i (some p))) E) : (evS c (.set i e) ρ).sat Q E := by
  simp only [evS]
  refine sat_bind.mpr (h.mono fun p ρ1 ⟨e, q⟩ => ?_)
  rw [if_pos e]
  exact q
theorem k_asg {tg : IT} {e : IE} (h : (evE c e ρ).sat (fun p ρ1 => ∃ p' ρ2, p.frz = p' ∧ asg tg p' ρ1 = some ρ2 ∧ Q .nx ρ2) E) : (evS c (.asg tg e) ρ).sat Q E := by
  simp only [evS]
  refine sat_bind.mpr (h.mono fun p ρ1 ⟨p', ρ2, f, e, q⟩ => ?_)
  subst f
  rw [e]
  exact q
theorem k_add {i : Nat} {e : IE} {a : Int} (e0 : ρ.at i = some (.int a)) (h : (evE c e ρ).sat (fun p ρ1 => ∃ b, p = .int b ∧ Q .nx (ρ1.set i (some (.int (a + b))))) E) : (evS c (.aug i .Add e) ρ).sat Q E := by
  simp only [evS, e0]
  refine sat_bind.mpr (h.mono fun p ρ1 ⟨b, e, q⟩ => ?_)
  subst e
  exact q
theorem k_dec {i : Nat} {e : IE} {a : Int} (e0 : ρ.at i = some (.int a)) (h : (evE c e ρ).sat (fun p ρ1 => ∃ b, p = .int b ∧ Q .nx (ρ1.set i (some (.int (a - b))))) E) : (evS c (.aug i .Sub e) ρ).sat Q E := by
  simp only [evS, e0]
  refine sat_bind.mpr (h.mono fun p ρ1 ⟨b, e, q⟩ => ?_)
  subst e
  exact q
theorem k_sub {i : Nat} {ix e : IE} (h : (evE c e ρ).sat (fun p ρ1 => ∃ p', p.frz = p' ∧ isLst (ρ1.at i) = true ∧ (opnd ix (evE c ix) ρ1).sat (fun o ρ2 => ∃ xs k j, ρ2.at i = some (.lst true xs) ∧ rsv ρ2 o = some (.int k) ∧ L2.ixN xs.length k = some j ∧ Q .nx (ρ2.set i (some (.lst true (xs.set j p'))))) E) E) : (evS c (.sub i ix e) ρ).sat Q E := by
  simp only [evS]
  refine sat_bind.mpr (h.mono fun p ρ1 ⟨p', f, e, q⟩ => ?_)
  subst f
  rw [if_pos e]
  refine sat_bind.mpr (q.mono fun o ρ2 ⟨xs, k, j, e1, e2, e3, q⟩ => ?_)
  rw [e1, e2]
  dsimp only
  rw [e3]
  exact q
theorem k_app {i : Nat} {e : IE} (e0 : isLst (ρ.at i) = true) (h : (evE c e ρ).sat (fun p ρ1 => ∃ p' xs, p.frz = p' ∧ ρ1.at i = some (.lst true xs) ∧ xs.length < sizeLine ∧ Q .nx (ρ1.set i (some (.lst true (xs ++ [p']))))) E) : (evS c (.app i e) ρ).sat Q E := by
  simp only [evS, e0, if_true]
  refine sat_bind.mpr (h.mono fun p ρ1 ⟨p', xs, f, e1, e2, q⟩ => ?_)
  subst f
  rw [e1]
  dsimp only
  rw [if_pos e2]
  exact q
theorem k_ext {i : Nat} {e : IE} (e0 : isLst (ρ.at i) = true) (h : (evE c e ρ).sat (fun p ρ1 => ∃ xs o ys, ρ1.at i = some (.lst true xs) ∧ p.frz = .lst o ys ∧ xs.length + ys.length ≤ sizeLine ∧ Q .nx (ρ1.set i (some (.lst true (xs ++ ys))))) E) : (evS c (.ext i e) ρ).sat Q E := by
  simp only [evS, e0, if_true]
  refine sat_bind.mpr (h.mono fun p ρ1 ⟨xs, o, ys, e1, e2, e3, q⟩ => ?_)
  rw [e1, e2]
  dsimp only
  rw [if_pos e3]
  exact q
theorem k_exp {e : IE} (h : (evE c e ρ).sat (fun _ ρ1 => Q .nx ρ1) E) : (evS c (.exp e) ρ).sat Q E := by
  simp only [evS]
  exact sat_bind.mpr h
theorem k_ret {e : IE} (h : (evE c e ρ).sat (fun p ρ1 => Q (.rt p) ρ1) E) : (evS c (.ret e) ρ).sat Q E := by
  simp only [evS]
  exact sat_bind.mpr h
theorem k_retN (h : Q (.rt .non) ρ) : (evS c .retN ρ).sat Q E := by simp only [evS]; exact h
theorem k_brk (h : Q .bk ρ) : (evS c .brk ρ).sat Q E := by simp only [evS]; exact h
theorem k_cnt (h : Q .ct ρ) : (evS c .cnt ρ).sat Q E := by simp only [evS]; exact h
theorem k_pas (h : Q .nx ρ) : (evS c .pas ρ).sat Q E := by simp only [evS]; exact h
theorem k_ife {t : IE} {a b : List IS} (h : (evT c t (evE c t) ρ).sat (fun k ρ1 => (k = true → (evB c a ρ1).sat Q E) ∧ (k = false → (evB c b ρ1).sat Q E)) E) : (evS c (.ife t a b) ρ).sat Q E := by
  simp only [evS]
  refine sat_bind.mpr (h.mono fun k ρ1 ⟨q1, q2⟩ => ?_)
  cases k with
  | true => exact q1 rfl
  | false => exact q2 rfl
theorem for_loop {turn : PV → Fr → Res Fl} (I : List PV → Fr → Prop) (hend : ∀ ρ, I [] ρ → Q .nx ρ) (step : ∀ x r ρ, I (x :: r) ρ → (turn x ρ).sat (fun f ρ1 => match f with
    | .nx => I r ρ1
    | .ct => I r ρ1
    | .bk => Q .nx ρ1
    | .rt p => Q (.rt p) ρ1) E) : ∀ (xs : List PV) (ρ : Fr), I xs ρ → (forL turn xs ρ).sat Q E
  | [], ρ, h => hend ρ h
  | x :: r, ρ, h => by
    have s := step x r ρ h
    unfold forL
    cases e : turn x ρ with
    | bad => rw [e] at s; exact s
    | ex x ρ1 => rw [e] at s; exact s
    | ok f ρ1 =>
      rw [e] at s
      cases f with
      | nx => exact for_loop I hend step r ρ1 s
      | ct => exact for_loop I hend step r ρ1 s
      | bk => exact s
      | rt p => exact s
theorem k_for {tg : IT} {src : ISrc} {body : List IS} (I : List PV → Fr → Prop) (h : (evSrc c src ρ).sat (fun xs ρ1 => I xs ρ1) E) (hend : ∀ ρ, I [] ρ → Q .nx ρ) (step : ∀ x r ρ, I (x :: r) ρ → ∃ ρ2, asg tg x ρ = some ρ2 ∧ (evB c body ρ2).sat (fun f ρ1 => match f with
    | .nx => I r ρ1
    | .ct => I r ρ1
    | .bk => Q .nx ρ1
    | .rt p => Q (.rt p) ρ1) E) : (evS c (.fors tg src body) ρ).sat Q E := by
  simp only [evS]
  refine sat_bind.mpr (h.mono fun xs ρ1 h0 => for_loop I hend (fun x r ρ hI => ?_) xs ρ1 h0)
  obtain ⟨ρ2, e, q⟩ := step x r ρ hI
  rw [e]
  exact q
theorem whl_loop {t : Fr → Res Bool} {body : Fr → Res Fl} (I : Nat → Fr → Prop) (step : ∀ n ρ, I n ρ → (t ρ).sat (fun k ρ1 => (k = true → ∃ m, n = m + 1 ∧ (body ρ1).sat (fun f ρ2 => match f with
    | .nx => I m ρ2
    | .ct => I m ρ2
    | .bk => Q .nx ρ2
    | .rt p => Q (.rt p) ρ2) E) ∧ (k = false → Q .nx ρ1)) E) : ∀ (n : Nat) (ρ : Fr), I n ρ → ∀ m, n < m → (whlL t body m ρ).sat Q E
  | n, ρ, h, 0, hm => by omega
  | n, ρ, h, m + 1, hm => by
    have s := step n ρ h
    unfold whlL
    refine sat_bind.mpr (s.mono fun k ρ1 ⟨q1, q2⟩ => ?_)
    cases k with
    | false =>
      rw [if_neg Bool.false_ne_true]
      exact q2 rfl
    | true =>
      rw [if_pos rfl]
      obtain ⟨n', e, q⟩ := q1 rfl
      subst e
      cases e : body ρ1 with
      | bad => rw [e] at q; exact q
      | ex x ρ2 => rw [e] at q; exact q
      | ok f ρ2 =>
        rw [e] at q
        cases f with
        | nx => exact whl_loop I step n' ρ2 q m (by omega)
        | ct => exact whl_loop I step n' ρ2 q m (by omega)
        | bk => exact q
        | rt p => exact q
theorem k_whl {t : IE} {body : List IS} (I : Nat → Fr → Prop) (n : Nat) (h0 : I n ρ) (hf : n < c.fuel) (step : ∀ n ρ, I n ρ → (evT c t (evE c t) ρ).sat (fun k ρ1 => (k = true → ∃ m, n = m + 1 ∧ (evB c body ρ1).sat (fun f ρ2 => match f with
    | .nx => I m ρ2
    | .ct => I m ρ2
    | .bk => Q .nx ρ2
    | .rt p => Q (.rt p) ρ2) E) ∧ (k = false → Q .nx ρ1)) E) : (evS c (.whl t body) ρ).sat Q E := by
  simp only [evS]
  exact whl_loop I step n ρ h0 c.fuel hf
end
/-! a call -/
theorem c_run {T : Tb} {fuel n : Nat} {k : Str} {as : List PV} {d : Fd} {Q : PV → Fr → Prop} {E : PX → Fr → Prop} (hT : T k = some d) (hl : as.length = d.ps) (h : (evB ⟨callN T fuel n, lendOf T, fuel, none⟩ d.body (as.map some ++ List.replicate (d.n - d.ps) none)).sat (fun f ρ => match f with
    | .rt p => Q p (maskF d.lend (ρ.take d.ps))
    | .nx => Q .non (maskF d.lend (ρ.take d.ps))
    | _ => False) fun x ρ => E x (maskF d.lend (ρ.take d.ps))) : (callN T fuel (n + 1) k as).sat Q E := by
  simp only [callN, hT, runF]
  rw [if_pos hl]
  cases e : evB ⟨callN T fuel n, lendOf T, fuel, none⟩ d.body (as.map some ++ List.replicate (d.n - d.ps) none) with
  | bad => rw [e] at h; exact h
  | ex x ρ => rw [e] at h; exact h
  | ok f ρ =>
    rw [e] at h
    cases f <;> exact h
theorem sat_true {r : CR} (h : r.sat (fun p _ => p = .bl true) fun _ _ => False) : ∃ as, r = .ok (.bl true) as := by
  cases r with
  | ok p as => exact ⟨as, by rw [show p = .bl true from h]⟩
  | ex => exact h.elim
  | bad => exact h.elim
theorem frz_int {i : Int} : (PV.int i).frz = .int i := rfl
theorem frz_str {i : Str} : (PV.str i).frz = .str i := rfl
theorem frz_bl {i : Bool} : (PV.bl i).frz = .bl i := rfl
theorem frz_non : PV.non.frz = .non := rfl
theorem frz_ty {t : String} : (PV.ty t).frz = .ty t := rfl
end Y
end
section
set_option Elab.async false
set_option linter.all false
set_option maxRecDepth 100000
set_option maxHeartbeats 2000000
set_option autoImplicit false
/-! V1: what is wanted ahead of a piece of the small language: by computation. -/
namespace Y
open PySem
@[irreducible] def zC (f : Str → List PV → CR) (k : Str) (as : List PV) (Q : PV → Fr → Prop) (E : PX → Fr → Prop) : Prop := (f k as).sat Q E
@[irreducible] def zF (tg : IT) (body : Fr → (Fl → Fr → Prop) → Prop) (xs : List PV) (ρ : Fr) (Q : Fl → Fr → Prop) (E : PX → Fr → Prop) : Prop := ∃ I : List PV → Fr → Prop, I xs ρ ∧ (∀ ρ, I [] ρ → Q .nx ρ) ∧ ∀ x r ρ, I (x :: r) ρ → ∃ ρ2, asg tg x ρ = some ρ2 ∧ body ρ2 fun f ρ1 => match f with
    | .nx => I r ρ1
    | .ct => I r ρ1
    | .bk => Q .nx ρ1
    | .rt p => Q (.rt p) ρ1
@[irreducible] def zW (fuel : Nat) (t : Fr → (Bool → Fr → Prop) → Prop) (body : Fr → (Fl → Fr → Prop) → Prop) (ρ : Fr) (Q : Fl → Fr → Prop) (E : PX → Fr → Prop) : Prop := ∃ (I : Nat → Fr → Prop) (n : Nat), I n ρ ∧ n < fuel ∧ ∀ n ρ, I n ρ → t ρ fun k ρ1 => (k = true → ∃ m, n = m + 1 ∧ body ρ1 fun f ρ2 => match f with
    | .nx => I m ρ2
    | .ct => I m ρ2
    | .bk => Q .nx ρ2
    | .rt p => Q (.rt p) ρ2) ∧ (k = false → Q .nx ρ1)
@[irreducible] def zK (tg : IT) (own : List Nat) (ifs : Fr → (Bool → Fr → Prop) → Prop) (elt : Fr → (PV → Fr → Prop) → Prop) (xs : List PV) (ρ : Fr) (Q : PV → Fr → Prop) : Prop := ∃ I : List PV → List PV → Fr → Prop, I xs [] (wipeF (frzAt ρ own) own) ∧ (∀ ys ρ2, I [] ys ρ2 → Q (.lst true ys) (backAt (frzAt ρ own) ρ2 own)) ∧
  ∀ x r acc ρ, I (x :: r) acc ρ → ∃ ρ2, asg tg x ρ = some ρ2 ∧ ifs ρ2 fun k ρ3 => (k = true → elt ρ3 fun y ρ4 => ∃ y', y.frz = y' ∧ acc.length < sizeLine ∧ I r (acc ++ [y']) (wipeF ρ4 own)) ∧ (k = false → I r acc (wipeF ρ3 own))
@[irreducible] def zKv (tg : IT) (own : List Nat) (i : Nat) (ifs : Fr → (Bool → Fr → Prop) → Prop) (elt : Fr → (PV → Fr → Prop) → Prop) (n : Nat) (ρ : Fr) (Q : PV → Fr → Prop) : Prop := own.contains i = false ∧ ∃ I : Nat → List PV → Fr → Prop, I 0 [] (wipeF (frzAt ρ own) own) ∧ (∀ ys ρ2, I n ys ρ2 → vwLen ρ2 i n = true ∧ Q (.lst true ys) (backAt (frzAt ρ own) ρ2 own)) ∧
  ∀ j acc ρ, j < n → I j acc ρ → ∃ x ρ2, vwAt ρ i n j = some x ∧ asg tg x ρ = some ρ2 ∧ ifs ρ2 fun k ρ3 => (k = true → elt ρ3 fun y ρ4 => ∃ y', y.frz = y' ∧ acc.length < sizeLine ∧ I (j + 1) (acc ++ [y']) (wipeF ρ4 own)) ∧ (k = false → I (j + 1) acc (wipeF ρ3 own))
@[irreducible] def zFv (tg : IT) (i : Nat) (body : Fr → (Fl → Fr → Prop) → Prop) (n : Nat) (ρ : Fr) (Q : Fl → Fr → Prop) (E : PX → Fr → Prop) : Prop := ∃ I : Nat → Fr → Prop, I 0 ρ ∧ (∀ ρ, I n ρ → vwLen ρ i n = true ∧ Q .nx ρ) ∧ ∀ j ρ, j < n → I j ρ → ∃ x ρ2, vwAt ρ i n j = some x ∧ asg tg x ρ = some ρ2 ∧ body ρ2 fun f ρ1 => match f with
    | .nx => I (j + 1) ρ1
    | .ct => I (j + 1) ρ1
    | .bk => Q .nx ρ1
    | .rt p => Q (.rt p) ρ1
/-- nothing in it held alone -/
def wFrz (p : PV) (k : PV → Prop) : Prop := match p with
  | .int i => k (.int i)
  | .str x => k (.str x)
  | .bl b => k (.bl b)
  | .non => k .non
  | .ty t => k (.ty t)
  | .fn f => k (.fn f)
  | p => ∀ p', p.frz = p' → k p'
theorem wFrz_ok {p : PV} {k : PV → Prop} (h : wFrz p k) : k p.frz := by
  cases p <;> first
    | exact h
    | exact h _ rfl
def wFrzL : List PV → (List PV → Prop) → Prop
  | [], k => k []
  | p :: r, k => wFrz p fun p' => wFrzL r fun r' => k (p' :: r')
theorem wFrzL_ok : ∀ {ps : List PV} {k : List PV → Prop}, wFrzL ps k → k (PV.frzL ps)
  | [], _, h => h
  | p :: r, k, h => wFrzL_ok (k := fun r' => k (p.frz :: r')) (wFrz_ok h)
/-- an operation -/
def wOp (f : Op) (ps : List PV) (k : PV → Prop) : Prop := match f, ps with
  | .bin .Add, [.int i, .int j] => k (.int (i + j))
  | .bin .Sub, [.int i, .int j] => k (.int (i - j))
  | .bin .Mod, [.int i, .int j] => 0 < j ∧ k (.int (i % j))
  | .bin .FloorDiv, [.int i, .int j] => (0 < j ∧ j.natAbs.log2 < 9000) ∧ k (.int (i / j))
  | .bin .Mult, [.int i, .int j] => ((-(2 ^ 64) < i ∧ i < 2 ^ 64) ∨ (-(2 ^ 64) < j ∧ j < 2 ^ 64)) ∧ k (.int (i * j))
  | .bin .Add, [.str x, .str y] => okS (x.length + y.length) = true ∧ k (.str (x ++ y))
  | .bin .Add, [.lst _ xs, .lst _ ys] => (okS (xs.length + ys.length) = true ∧ PV.fzL xs = true ∧ PV.fzL ys = true) ∧ k (.lst true (xs ++ ys))
  | .cmp .Eq, [.int i, .int j] => k (.bl (decide (i = j)))
  | .cmp .NotEq, [.int i, .int j] => k (.bl (!decide (i = j)))
  | .cmp .Eq, [.str i, .str j] => k (.bl (decide (i = j)))
  | .cmp .NotEq, [.str i, .str j] => k (.bl (!decide (i = j)))
  | .cmp .Lt, [.int i, .int j] => k (.bl (decide (i < j)))
  | .cmp .LtE, [.int i, .int j] => k (.bl (decide (i ≤ j)))
  | .cmp .Gt, [.int i, .int j] => k (.bl (decide (j < i)))
  | .cmp .GtE, [.int i, .int j] => k (.bl (decide (j ≤ i)))
  | .cmp .Lt, [.str i, .str j] => k (.bl (decide (i.cps.toList < j.cps.toList)))
  | .cmp .LtE, [.str i, .str j] => k (.bl (decide (i.cps.toList ≤ j.cps.toList)))
  | .cmp .Is, [.non, .non] => k (.bl true)
  | .cmp .Is, [.int _, .non] => k (.bl false)
  | .cmp .Is, [.str _, .non] => k (.bl false)
  | .cmp .Is, [.lst _ _, .non] => k (.bl false)
  | .cmp .Is, [.tup _, .non] => k (.bl false)
  | .cmp .IsNot, [.non, .non] => k (.bl false)
  | .cmp .IsNot, [.int _, .non] => k (.bl true)
  | .cmp .IsNot, [.str _, .non] => k (.bl true)
  | .cmp .IsNot, [.lst _ _, .non] => k (.bl true)
  | .cmp .IsNot, [.tup _, .non] => k (.bl true)
  | .neg, [.int i] => k (.int (-i))
  | .not, [.bl b] => k (.bl (!b))
  | .len, [.lst _ xs] => k (.int xs.length)
  | .len, [.lck xs] => k (.int xs.length)
  | .len, [.tup xs] => k (.int xs.length)
  | .len, [.str x] => okS x.length = true ∧ k (.int x.length)
  | .list, [.lst _ xs] => PV.fzL xs = true ∧ k (.lst true xs)
  | .list, [.lck xs] => PV.fzL xs = true ∧ k (.lst true xs)
  | .list, [.tup xs] => PV.fzL xs = true ∧ k (.lst true xs)
  | .int, [.int i] => k (.int i)
  | .int, [.bl b] => k (.int (if b then 1 else 0))
  | .str, [.int i] => i.natAbs.log2 < 1920 ∧ k (.str (toString i))
  | .ix, [.lst _ xs, .int i] => ∃ x, L2.atI xs i = some x ∧ x.fz = true ∧ k x
  | .ix, [.lck xs, .int i] => ∃ x, L2.atI xs i = some x ∧ x.fz = true ∧ k x
  | .ix, [.tup xs, .int i] => ∃ x, L2.atI xs i = some x ∧ x.fz = true ∧ k x
  | .ix, [.str z, .int i] => okS z.length = true ∧ ∃ x, L2.atI z.cps.toList i = some x ∧ k (.str ⟨#[x]⟩)
  | .slice false true, [.lst _ xs, .int j] => PV.fzL xs = true ∧ k (.lst true (cutP xs none (some j)))
  | .slice true false, [.lst _ xs, .int j] => PV.fzL xs = true ∧ k (.lst true (cutP xs (some j) none))
  | .slice false false, [.lst _ xs] => PV.fzL xs = true ∧ k (.lst true xs)
  | .isi, [.int _, .ty T] => isiOk.contains T = true ∧ k (.bl (isiT "int" T))
  | .isi, [.str _, .ty T] => isiOk.contains T = true ∧ k (.bl (isiT "str" T))
  | .isi, [.bl _, .ty T] => isiOk.contains T = true ∧ k (.bl (isiT "bool" T))
  | .isi, [.non, .ty T] => isiOk.contains T = true ∧ k (.bl (isiT "NoneType" T))
  | .isi, [.lst _ _, .ty T] => isiOk.contains T = true ∧ k (.bl (isiT "list" T))
  | .isi, [.tup _, .ty T] => isiOk.contains T = true ∧ k (.bl (isiT "tuple" T))
  | .min2, [.int i, .int j] => k (.int (if j < i then j else i))
  | .slice false true, [.str z, .int j] => okS z.length = true ∧ k (.str (L2.cutS z none (some j)))
  | .slice true false, [.str z, .int j] => okS z.length = true ∧ k (.str (L2.cutS z (some j) none))
  | f, ps => ∃ r, opN f ps = some r ∧ k r
theorem n_mod {i j : Int} (h : 0 < j) : opN (.bin .Mod) [.int i, .int j] = some (.int (i % j)) := by
  show (if decide (0 < j) then some (PV.int (i % j)) else none) = _
  rw [decide_eq_true h]
  rfl
theorem n_fdiv {i j : Int} (h : 0 < j) (h2 : j.natAbs.log2 < 9000) : opN (.bin .FloorDiv) [.int i, .int j] = some (.int (i / j)) := by
  show (if decide (0 < j ∧ j.natAbs.log2 < 9000) then some (PV.int (i / j)) else none) = _
  rw [decide_eq_true ⟨h, h2⟩]
  rfl
theorem n_mul {i j : Int} (h : -(2 ^ 64) < j ∧ j < 2 ^ 64) : opN (.bin .Mult) [.int i, .int j] = some (.int (i * j)) := by
  show (if decide ((-(2 ^ 64) < i ∧ i < 2 ^ 64) ∨ (-(2 ^ 64) < j ∧ j < 2 ^ 64)) then some (PV.int (i * j)) else none) = _
  rw [decide_eq_true (Or.inr h)]
  rfl
theorem n_ix {o : Bool} {xs : List PV} {i : Int} {x : PV} (h : L2.atI xs i = some x) (hf : x.fz = true) : opN .ix [.lst o xs, .int i] = some x := by
  show (match L2.atI xs i with
    | some x => if x.fz then some x else none
    | none => none) = _
  rw [h]
  dsimp only
  rw [if_pos hf]
theorem n_ixk {xs : List PV} {i : Int} {x : PV} (h : L2.atI xs i = some x) (hf : x.fz = true) : opN .ix [.lck xs, .int i] = some x := by
  show (match L2.atI xs i with
    | some x => if x.fz then some x else none
    | none => none) = _
  rw [h]
  dsimp only
  rw [if_pos hf]
theorem n_ixt {xs : List PV} {i : Int} {x : PV} (h : L2.atI xs i = some x) (hf : x.fz = true) : opN .ix [.tup xs, .int i] = some x := by
  show (match L2.atI xs i with
    | some x => if x.fz then some x else none
    | none => none) = _
  rw [h]
  dsimp only
  rw [if_pos hf]
theorem n_ixs {z : Str} {i : Int} {x : Nat} (h0 : okS z.length = true) (h : L2.atI z.cps.toList i = some x) : opN .ix [.str z, .int i] = some (.str ⟨#[x]⟩) := by
  show (if okS z.length then (L2.atI z.cps.toList i).map fun c => PV.str ⟨#[c]⟩ else none) = _
  rw [if_pos h0, h]
  rfl
theorem cut_all {α : Type} (xs : List α) : cutP xs none none = xs := by
  simp [cutP, HT.sIx]
theorem eqv_int (i j : Int) : PyData.eqv (.int i) (.int j) = decide (i = j) := by
  simp [PyData.eqv]
  try rfl
theorem eqv_str (i j : Str) : PyData.eqv (.str i) (.str j) = decide (i = j) := by
  simp [PyData.eqv]
  try rfl
theorem wOp_ok {f : Op} {ps : List PV} {k : PV → Prop} (h : wOp f ps k) : ∃ r, opN f ps = some r ∧ k r := by
  unfold wOp at h
  split at h
  case h_3 => exact ⟨_, n_mod h.1, h.2⟩
  case h_4 => exact ⟨_, n_fdiv h.1.1 h.1.2, h.2⟩
  case h_5 =>
    refine ⟨_, ?_, h.2⟩
    show (if decide _ then _ else none) = _
    rw [decide_eq_true h.1]
    rfl
  case h_6 =>
    refine ⟨_, ?_, h.2⟩
    show (if _ then _ else none) = _
    rw [if_pos h.1]
  case h_7 =>
    refine ⟨_, ?_, h.2⟩
    show (if _ then _ else none) = _
    rw [if_pos (by simp only [h.1, Bool.and_self])]
  case h_8 => exact ⟨_, rfl, by simpa only [eqv_int] using h⟩
  case h_9 => exact ⟨_, rfl, by simpa only [eqv_int] using h⟩
  case h_10 => exact ⟨_, rfl, by simpa only [eqv_str] using h⟩
  case h_11 => exact ⟨_, rfl, by simpa only [eqv_str] using h⟩
  case h_46 =>
    refine ⟨_, ?_, h.2⟩
    show (if _ then _ else none) = _
    rw [if_pos h.1, cut_all]
  all_goals first
    | exact ⟨_, rfl, h⟩
    | (refine ⟨_, ?_, h.2⟩
       show (if _ then _ else none) = _
       rw [if_pos h.1])
    | (refine ⟨_, ?_, h.2⟩
       show (if decide _ then _ else none) = _
       rw [decide_eq_true h.1]
       rfl)
    | (obtain ⟨x, h1, h2, h3⟩ := h
       exact ⟨x, n_ix h1 h2, h3⟩)
    | (obtain ⟨x, h1, h2, h3⟩ := h
       exact ⟨x, n_ixk h1 h2, h3⟩)
    | (obtain ⟨x, h1, h2, h3⟩ := h
       exact ⟨x, n_ixt h1 h2, h3⟩)
    | (obtain ⟨h0, x, h1, h3⟩ := h
       exact ⟨_, n_ixs h0 h1, h3⟩)
    | exact h
    | skip
/-! ### by computation -/
def wRng (ps : List PV) (k : List PV → Prop) : Prop := match ps with
  | [.int j] => (-(2 ^ 62) ≤ j ∧ j < 2 ^ 62) ∧ k (rngI 0 j.toNat)
  | [.int i, .int j] => ((-(2 ^ 62) ≤ i ∧ i < 2 ^ 62) ∧ (-(2 ^ 62) ≤ j ∧ j < 2 ^ 62)) ∧ k (rngI i (j - i).toNat)
  | _ => False
theorem wRng_ok {ps : List PV} {k : List PV → Prop} (h : wRng ps k) : ∃ xs, rngN ps = some xs ∧ k xs := by
  unfold wRng at h
  split at h
  · refine ⟨_, ?_, h.2⟩
    show (if small62 _ then _ else none) = _
    rw [if_pos (show small62 _ = true from decide_eq_true h.1)]
  · refine ⟨_, ?_, h.2⟩
    show (if small62 _ && small62 _ then _ else none) = _
    rw [if_pos (by rw [show small62 _ = true from decide_eq_true h.1.1, show small62 _ = true from decide_eq_true h.1.2]; rfl)]
  · exact h.elim
abbrev NE : PX → Fr → Prop := fun _ _ => False
def wP (e : IE) (run : Fr → (PV → Fr → Prop) → (PX → Fr → Prop) → Prop) (ρ : Fr) (Q : OV → Fr → Prop) (E : PX → Fr → Prop) : Prop := match e with
  | .loc i => (match ρ.at i with
    | some _ => Q (.vw i) ρ
    | none => False)
  | .it i k => (match ρ.at i with
    | some (.tup xs) => (match Nat.blt k xs.length with
      | true => Q (.vi i k) ρ
      | false => False)
    | _ => False)
  | _ => run ρ (fun p ρ1 => wFrz p fun p' => Q (.vl p') ρ1) E
def wG (ln : Bool) (e : IE) (run : Fr → (PV → Fr → Prop) → (PX → Fr → Prop) → Prop) (ρ : Fr) (Q : OV → Fr → Prop) (E : PX → Fr → Prop) : Prop := match ln with
  | true => wP e run ρ Q E
  | false => run ρ (fun p ρ1 => wFrz p fun p' => Q (.vl p') ρ1) E
def wTake : List OV → Fr → (List (PV × Option Nat) → Fr → Prop) → Prop
  | [], ρ, k => k [] ρ
  | .vi _ _ :: _, _, _ => False
  | .vl p :: r, ρ, k => wTake r ρ fun as ρ' => k ((p, none) :: as) ρ'
  | .vw i :: r, ρ, k => (match ρ.at i with
    | some (.int a) => wTake r ρ fun as ρ' => k ((.int a, none) :: as) ρ'
    | some (.str a) => wTake r ρ fun as ρ' => k ((.str a, none) :: as) ρ'
    | some (.bl a) => wTake r ρ fun as ρ' => k ((.bl a, none) :: as) ρ'
    | some .non => wTake r ρ fun as ρ' => k ((.non, none) :: as) ρ'
    | some (.fn a) => wTake r ρ fun as ρ' => k ((.fn a, none) :: as) ρ'
    | some (.lst true xs) => wTake r (ρ.set i none) fun as ρ' => k ((.lst true xs, some i) :: as) ρ'
    | some p => (p.fz = true ∧ wTake r ρ fun as ρ' => k ((p, none) :: as) ρ') ∨ (p.fz = false ∧ wTake r (ρ.set i none) fun as ρ' => k ((p, some i) :: as) ρ')
    | none => False)
theorem wTake_ok : ∀ {os : List OV} {ρ : Fr} {k : List (PV × Option Nat) → Fr → Prop}, wTake os ρ k → ∃ as ρ1, takeA os ρ = some (as, ρ1) ∧ k as ρ1
  | [], ρ, k, h => ⟨[], ρ, rfl, h⟩
  | .vl p :: r, ρ, k, h => by
    obtain ⟨as, ρ1, e, q⟩ := wTake_ok (os := r) h
    exact ⟨_, ρ1, by simp only [takeA, e]; rfl, q⟩
  | .vi _ _ :: _, ρ, k, h => by simp only [wTake] at h
  | .vw i :: r, ρ, k, h => by
    have see : ∀ {p : PV}, ρ.at i = some p → p.fz = true → wTake r ρ (fun as ρ' => k ((p, none) :: as) ρ') → ∃ as ρ1, takeA (.vw i :: r) ρ = some (as, ρ1) ∧ k as ρ1 := fun {p} e f h => by
      obtain ⟨as, ρ1, e2, q⟩ := wTake_ok (os := r) h
      refine ⟨_, ρ1, ?_, q⟩
      simp only [takeA, e, f, if_true, e2]
      rfl
    have lend : ∀ {p : PV}, ρ.at i = some p → p.fz = false → wTake r (ρ.set i none) (fun as ρ' => k ((p, some i) :: as) ρ') → ∃ as ρ1, takeA (.vw i :: r) ρ = some (as, ρ1) ∧ k as ρ1 := fun {p} e f h => by
      obtain ⟨as, ρ1, e2, q⟩ := wTake_ok (os := r) h
      refine ⟨_, ρ1, ?_, q⟩
      simp only [takeA, e, f, Bool.false_eq_true, if_false, e2]
      rfl
    simp only [wTake] at h
    split at h
    · rename_i z; exact see z rfl h
    · rename_i z; exact see z rfl h
    · rename_i z; exact see z rfl h
    · rename_i z; exact see z rfl h
    · rename_i z; exact see z rfl h
    · rename_i z; exact lend z rfl h
    · rename_i z; exact h.elim (fun h => see z h.1 h.2) fun h => lend z h.1 h.2
    · exact h.elim
def wTr (p : PV) (Q : Bool → Prop) : Prop := match p with
  | .bl b => Q b
  | .int i => Q (i != 0)
  | .non => Q false
  | .lst _ xs => Q (!xs.isEmpty)
  | .lck xs => Q (!xs.isEmpty)
  | .tup xs => Q (!xs.isEmpty)
  | p => ∃ k, truth p = some k ∧ Q k
mutual
def wE (c : Cf) : IE → Fr → (PV → Fr → Prop) → (PX → Fr → Prop) → Prop
  | .cst p, ρ, Q, E => Q p ρ
  | .loc i, ρ, Q, E => (match ρ.at i with
    | some p => wFrz p fun p' => Q p' (ρ.set i (some p'))
    | none => False)
  | .mov i, ρ, Q, E => (match ρ.at i with
    | some p => Q p (ρ.set i none)
    | none => False)
  | .op f es, ρ, Q, E => wO c es ρ (fun os ρ1 => match rsvL ρ1 os with
    | some ps => wOp f ps fun r => Q r ρ1
    | none => False) E
  | .chain f g x y z, ρ, Q, E => wP x (wE c x) ρ (fun o1 ρ1 => wP y (wE c y) ρ1 (fun o2 ρ2 => match rsv ρ2 o1, rsv ρ2 o2 with
    | some p, some q => wOp (.cmp f) [p, q] fun r => match r with
      | .bl k => (k = false → Q (.bl false) ρ2) ∧ (k = true → wP z (wE c z) ρ2 (fun o3 ρ3 => match rsv ρ3 o2, rsv ρ3 o3 with
        | some q', some r' => wOp (.cmp g) [q', r'] fun v => Q v ρ3
        | _, _ => False) E)
      | _ => False
    | _, _ => False) E) E
  | .dcmp f t es u ds, ρ, Q, E => wO c es ρ (fun x ρ1 => okS x.length = true ∧ wO c ds ρ1 (fun y ρ2 => okS y.length = true ∧ match (rsvL ρ2 x).bind (dspP t), (rsvL ρ2 y).bind (dspP u) with
    | some p, some q => wOp (.cmp f) [p, q] fun r => Q r ρ2
    | _, _ => False) E) E
  | .slc x a b, ρ, Q, E => wP x (wE c x) ρ (fun o ρ1 => wP a (wE c a) ρ1 (fun y ρ2 => match rsv ρ2 y with
    | some (.int i) => wP b (wE c b) ρ2 (fun z ρ3 => match rsv ρ3 o, rsv ρ3 z with
      | some p, some (.int j) => ∃ r, sliceN p (some i) (some j) = some r ∧ Q r ρ3
      | _, _ => False) E
    | _ => False) E) E
  | .and a b, ρ, Q, E => wE c a ρ (fun p ρ1 => match p with
    | .bl k => (k = true → wE c b ρ1 Q E) ∧ (k = false → Q (.bl false) ρ1)
    | _ => False) E
  | .or a b, ρ, Q, E => wE c a ρ (fun p ρ1 => match p with
    | .bl k => (k = true → Q (.bl true) ρ1) ∧ (k = false → wE c b ρ1 Q E)
    | _ => False) E
  | .ite t a b, ρ, Q, E => wT c t (wE c t) ρ (fun k ρ1 => (k = true → wE c a ρ1 Q E) ∧ (k = false → wE c b ρ1 Q E)) E
  | .lst es, ρ, Q, E => wL c es ρ (fun ps ρ1 => okS ps.length = true ∧ wFrzL ps fun qs => Q (.lst true qs) ρ1) E
  | .tup es, ρ, Q, E => wL c es ρ (fun ps ρ1 => okS ps.length = true ∧ wFrzL ps fun qs => Q (.tup qs) ρ1) E
  | .call k ls es, ρ, Q, E => wA c ls es ρ (fun os ρ0 => wTake os ρ0 fun as ρ1 => zC c.call k (as.map (·.1)) (fun r as' => Q r (give (as.map (·.2)) as' ρ1)) fun x as' => E x (give (as.map (·.2)) as' ρ1)) E
  | .compv elt tg i ifs own, ρ, Q, E => (match lenAt ρ i with
    | some n => zKv tg own i (fun ρ Q => wI c ifs ρ Q NE) (fun ρ Q => wE c elt ρ Q NE) n ρ Q
    | none => False)
  | .comp elt tg src ifs own, ρ, Q, E => wSrc c src ρ (fun xs ρ1 => zK tg own (fun ρ Q => wI c ifs ρ Q NE) (fun ρ Q => wE c elt ρ Q NE) xs ρ1 Q) E
  | .tupo es, ρ, Q, E => wL c es ρ (fun ps ρ1 => okS ps.length = true ∧ Q (.tup ps) ρ1) E
  | .it _ _, _, _, _ => False
  | .xf f, ρ, Q, E => (match c.cur with
    | some x => (match x.fs.lookup f with
      | some p => Q p ρ
      | none => False)
    | none => False)
  | .xi t, ρ, Q, E => (match c.cur with
    | some x => (match x.xd.ty.lookup t with
      | some b => Q (.bl b) ρ
      | none => False)
    | none => False)
def wT (c : Cf) : IE → (Fr → (PV → Fr → Prop) → (PX → Fr → Prop) → Prop) → Fr → (Bool → Fr → Prop) → (PX → Fr → Prop) → Prop
  | .and a b, run, ρ, Q, E => wT c a (wE c a) ρ (fun k ρ1 => (k = true → wT c b (wE c b) ρ1 Q E) ∧ (k = false → Q false ρ1)) E
  | .or a b, run, ρ, Q, E => wT c a (wE c a) ρ (fun k ρ1 => (k = true → Q true ρ1) ∧ (k = false → wT c b (wE c b) ρ1 Q E)) E
  | .op .not [e], run, ρ, Q, E => wT c e (wE c e) ρ (fun k ρ1 => Q (!k) ρ1) E
  | .op f es, run, ρ, Q, E => run ρ (fun p ρ1 => match p with
    | .bl k => Q k ρ1
    | _ => False) E
  | .dcmp _ _ _ _ _, run, ρ, Q, E => run ρ (fun p ρ1 => match p with
    | .bl k => Q k ρ1
    | _ => False) E
  | .chain _ _ _ _ _, run, ρ, Q, E => run ρ (fun p ρ1 => match p with
    | .bl k => Q k ρ1
    | _ => False) E
  | e, run, ρ, Q, E => wP e run ρ (fun o ρ1 => match rsv ρ1 o with
    | some p => wTr p fun k => Q k ρ1
    | none => False) E
def wI (c : Cf) : List IE → Fr → (Bool → Fr → Prop) → (PX → Fr → Prop) → Prop
  | [], ρ, Q, E => Q true ρ
  | [e], ρ, Q, E => wT c e (wE c e) ρ Q E
  | _, _, _, _ => False
def wO (c : Cf) : List IE → Fr → (List OV → Fr → Prop) → (PX → Fr → Prop) → Prop
  | [], ρ, Q, E => Q [] ρ
  | e :: es, ρ, Q, E => wP e (wE c e) ρ (fun o ρ1 => wO c es ρ1 (fun os ρ2 => Q (o :: os) ρ2) E) E
def wL (c : Cf) : List IE → Fr → (List PV → Fr → Prop) → (PX → Fr → Prop) → Prop
  | [], ρ, Q, E => Q [] ρ
  | e :: es, ρ, Q, E => wE c e ρ (fun o ρ1 => wL c es ρ1 (fun os ρ2 => Q (o :: os) ρ2) E) E
def wA (c : Cf) : List Bool → List IE → Fr → (List OV → Fr → Prop) → (PX → Fr → Prop) → Prop
  | _, [], ρ, Q, E => Q [] ρ
  | ls, e :: es, ρ, Q, E => wG (ls.headD false) e (wE c e) ρ (fun o ρ1 => wA c ls.tail es ρ1 (fun os ρ2 => Q (o :: os) ρ2) E) E
def wSrc (c : Cf) : ISrc → Fr → (List PV → Fr → Prop) → (PX → Fr → Prop) → Prop
  | .it e, ρ, Q, E => wE c e ρ (fun p ρ1 => wFrz p fun p' => ∃ xs, srcOf p' = some xs ∧ Q xs ρ1) E
  | .rng es, ρ, Q, E => wO c es ρ (fun os ρ1 => match rsvL ρ1 os with
    | some ps => wRng ps fun xs => Q xs ρ1
    | none => False) E
  | .enm e, ρ, Q, E => wE c e ρ (fun p ρ1 => wFrz p fun p' => ∃ xs, enmP [p'] = some xs ∧ Q xs ρ1) E
  | .zp a b, ρ, Q, E => wE c a ρ (fun p ρ1 => wE c b ρ1 (fun q ρ2 => ∃ xs, zipP [p.frz, q.frz] = some xs ∧ Q xs ρ2) E) E
end
mutual
def wS (c : Cf) : IS → Fr → (Fl → Fr → Prop) → (PX → Fr → Prop) → Prop
  | .set i e, ρ, Q, E => wE c e ρ (fun p ρ1 => match Nat.blt i ρ1.length with
    | true => Q .nx (ρ1.set i (some p))
    | false => False) E
  | .asg tg e, ρ, Q, E => wE c e ρ (fun p ρ1 => wFrz p fun p' => ∃ ρ2, asg tg p' ρ1 = some ρ2 ∧ Q .nx ρ2) E
  | .par is es, ρ, Q, E => wL c es ρ (fun ps ρ1 => ∃ ρ2, putL is ps ρ1 = some ρ2 ∧ Q .nx ρ2) E
  | .aug i o e, ρ, Q, E => (match ρ.at i with
    | some q => wE c e ρ (fun p ρ1 => match q, p, o with
      | .int a, .int b, .Add => Q .nx (ρ1.set i (some (.int (a + b))))
      | .int a, .int b, .Sub => Q .nx (ρ1.set i (some (.int (a - b))))
      | _, _, _ => False) E
    | none => False)
  | .sub i ix e, ρ, Q, E => wE c e ρ (fun p ρ1 => wFrz p fun p' => match ρ1.at i with
    | some (.lst _ _) => wP ix (wE c ix) ρ1 (fun o ρ2 => match ρ2.at i, rsv ρ2 o with
      | some (.lst true xs), some (.int k) => ∃ j, L2.ixN xs.length k = some j ∧ Q .nx (ρ2.set i (some (.lst true (xs.set j p'))))
      | _, _ => False) E
    | _ => False) E
  | .app i e, ρ, Q, E => (match ρ.at i with
    | some (.lst _ _) => wE c e ρ (fun p ρ1 => wFrz p fun p' => match ρ1.at i with
      | some (.lst true xs) => xs.length < sizeLine ∧ Q .nx (ρ1.set i (some (.lst true (xs ++ [p']))))
      | _ => False) E
    | _ => False)
  | .ext i e, ρ, Q, E => (match ρ.at i with
    | some (.lst _ _) => wE c e ρ (fun p ρ1 => wFrz p fun p' => match ρ1.at i, p' with
      | some (.lst true xs), .lst _ ys => xs.length + ys.length ≤ sizeLine ∧ Q .nx (ρ1.set i (some (.lst true (xs ++ ys))))
      | _, _ => False) E
    | _ => False)
  | .exp e, ρ, Q, E => wE c e ρ (fun _ ρ1 => Q .nx ρ1) E
  | .ret e, ρ, Q, E => wE c e ρ (fun p ρ1 => Q (.rt p) ρ1) E
  | .retN, ρ, Q, E => Q (.rt .non) ρ
  | .ife t a b, ρ, Q, E => wT c t (wE c t) ρ (fun k ρ1 => (k = true → wB c a ρ1 Q E) ∧ (k = false → wB c b ρ1 Q E)) E
  | .fors tg src body, ρ, Q, E => wSrc c src ρ (fun xs ρ1 => zF tg (fun ρ Q => wB c body ρ Q E) xs ρ1 Q E) E
  | .forv tg i body, ρ, Q, E => (match lenAt ρ i with
    | some n => zFv tg i (fun ρ Q => wB c body ρ Q E) n ρ Q E
    | none => False)
  | .whl t body, ρ, Q, E => zW c.fuel (fun ρ Q => wT c t (wE c t) ρ Q E) (fun ρ Q => wB c body ρ Q E) ρ Q E
  | .brk, ρ, Q, E => Q .bk ρ
  | .cnt, ρ, Q, E => Q .ct ρ
  | .pas, ρ, Q, E => Q .nx ρ
  | .rai d es, ρ, Q, E => wL c es ρ (fun ps ρ1 => match Nat.beq ps.length d.fs.length with
    | true => wFrzL ps fun qs => E ⟨d, d.fs.zip qs⟩ ρ1
    | false => False) E
  | .tryx body hs, ρ, Q, E => wB c body ρ Q (fun x ρ1 => wH c hs x ρ1 Q E)
  | .appi i k x, ρ, Q, E => (match ρ.at i with
    | some (.tup xs) => (match xs[k]? with
      | some (.lst true ys) => ys.length < sizeLine ∧ Q .nx (ρ.set i (some (.tup (xs.set k (.lst true (ys ++ [.str x]))))))
      | _ => False)
    | _ => False)
def wH (c : Cf) : IH → PX → Fr → (Fl → Fr → Prop) → (PX → Fr → Prop) → Prop
  | .nil, x, ρ, Q, E => E x ρ
  | .cons k i suite r, x, ρ, Q, E => (match x.xd.rel.lookup k with
    | some true => (match i with
      | some i => (match Nat.blt i ρ.length with
        | true => wB { c with cur := some x } suite (ρ.set i none) (fun f ρ' => Q f (ρ'.set i none)) NE
        | false => False)
      | none => wB c suite ρ Q NE)
    | some false => wH c r x ρ Q E
    | none => False)
def wB (c : Cf) : List IS → Fr → (Fl → Fr → Prop) → (PX → Fr → Prop) → Prop
  | [], ρ, Q, E => Q .nx ρ
  | s :: r, ρ, Q, E => wS c s ρ (fun f ρ1 => match f with
    | .nx => wB c r ρ1 Q E
    | z => Q z ρ1) E
end
end Y
end
section
set_option Elab.async false
set_option linter.all false
set_option maxRecDepth 100000
set_option maxHeartbeats 4000000
set_option autoImplicit false
/-! V2: .. is enough. -/
namespace Y
open PySem
/-- a run is enough -/
abbrev RunOk (run : Fr → (PV → Fr → Prop) → (PX → Fr → Prop) → Prop) (m : Fr → Res PV) : Prop := ∀ ρ Q E, run ρ Q E → (m ρ).sat Q E
theorem wP_ok {e : IE} {run : Fr → (PV → Fr → Prop) → (PX → Fr → Prop) → Prop} {m : Fr → Res PV} (hr : RunOk run m) {ρ : Fr} {Q : OV → Fr → Prop} {E : PX → Fr → Prop} (h : wP e run ρ Q E) : (opnd e m ρ).sat Q E := by
  by_cases he : isL0 e = true
  · cases e with
    | loc i =>
      simp only [wP] at h
      cases e : ρ.at i with
      | none => rw [e] at h; exact h.elim
      | some p => rw [e] at h; exact o_loc e h
    | it i k =>
      simp only [wP] at h
      split at h
      · rename_i xs ex
        cases hb : Nat.blt k xs.length with
        | true => rw [hb] at h; exact o_it ex (Nat.le_of_ble_eq_true hb) h
        | false => rw [hb] at h; exact h.elim
      · exact h.elim
    | _ => cases he
  · have he : isL0 e = false := by simpa using he
    refine o_val he ?_
    have h' : run ρ (fun p ρ1 => wFrz p fun p' => Q (.vl p') ρ1) E := by
      cases e <;> first
        | exact h
        | cases he
    exact (hr _ _ _ h').mono fun p ρ1 q => ⟨_, rfl, wFrz_ok q⟩
theorem wG_ok {ln : Bool} {e : IE} {run : Fr → (PV → Fr → Prop) → (PX → Fr → Prop) → Prop} {m : Fr → Res PV} (hr : RunOk run m) {ρ : Fr} {Q : OV → Fr → Prop} {E : PX → Fr → Prop} (h : wG ln e run ρ Q E) : (opA ln e m ρ).sat Q E := by
  cases ln with
  | true => exact wP_ok hr h
  | false => exact sat_bind.mpr ((hr _ _ _ h).mono fun p ρ1 q => wFrz_ok (k := fun p' => Q (.vl p') ρ1) q)
theorem wTr_ok {p : PV} {Q : Bool → Prop} (h : wTr p Q) : ∃ k, truth p = some k ∧ Q k := by
  cases p <;> first
    | exact ⟨_, rfl, h⟩
    | exact h
theorem tr_end {o : OV} {ρ1 : Fr} {Q : Bool → Fr → Prop} (q : match rsv ρ1 o with
    | some p => wTr p fun k => Q k ρ1
    | none => False) : ∃ p k, rsv ρ1 o = some p ∧ truth p = some k ∧ Q k ρ1 := by
  cases e : rsv ρ1 o with
  | none => rw [e] at q; exact q.elim
  | some p =>
    rw [e] at q
    obtain ⟨k, e2, q⟩ := wTr_ok (Q := fun k => Q k ρ1) q
    exact ⟨p, k, rfl, e2, q⟩
theorem wT_op {c : Cf} {f : Op} {es : List IE} {run : Fr → (PV → Fr → Prop) → (PX → Fr → Prop) → Prop} {ρ : Fr} {Q : Bool → Fr → Prop} {E : PX → Fr → Prop} (hn : ¬ ∃ e, f = .not ∧ es = [e]) : wT c (.op f es) run ρ Q E = run ρ (fun p ρ1 => match p with
    | .bl k => Q k ρ1
    | _ => False) E := by
  cases f with
  | not =>
    cases es with
    | nil => first | (simp only [wT]; done) | (simp only [wT]; rfl)
    | cons e r =>
      cases r with
      | nil => exact absurd ⟨e, rfl, rfl⟩ hn
      | cons => first | (simp only [wT]; done) | (simp only [wT]; rfl)
  | _ => first | (simp only [wT]; done) | (simp only [wT]; rfl)
theorem evT_op2 {c : Cf} {f : Op} {es : List IE} {run : Fr → Res PV} {ρ : Fr} (hn : ¬ ∃ e, f = .not ∧ es = [e]) : evT c (.op f es) run ρ = asB (run ρ) := by
  cases f with
  | not =>
    cases es with
    | nil => simp only [evT]
    | cons e r =>
      cases r with
      | nil => exact absurd ⟨e, rfl, rfl⟩ hn
      | cons => simp only [evT]
  | _ => simp only [evT]
theorem comp_vloop {turn : PV → Fr → Res (Option PV)} {own : List Nat} {i n : Nat} (I : Nat → List PV → Fr → Prop) (hend : ∀ ys ρ, I n ys ρ → vwLen ρ i n = true) (step : ∀ j acc ρ, j < n → I j acc ρ → ∃ x, vwAt ρ i n j = some x ∧ (turn x ρ).sat (fun y ρ1 => match y with
    | some y => ∃ y', y.frz = y' ∧ acc.length < sizeLine ∧ I (j + 1) (acc ++ [y']) (wipeF ρ1 own)
    | none => I (j + 1) acc (wipeF ρ1 own)) NE) : ∀ (k : Nat) (acc : List PV) (ρ : Fr), k ≤ n → I (n - k) acc ρ → (compV turn own i n k ρ acc).sat (fun ys ρ => I n ys ρ) NE
  | 0, acc, ρ, hk, h => by
    unfold compV
    rw [Nat.sub_zero] at h
    rw [if_pos (hend _ _ h)]
    exact h
  | k + 1, acc, ρ, hk, h => by
    obtain ⟨x, e1, s⟩ := step (n - (k + 1)) acc ρ (by omega) h
    unfold compV
    rw [e1]
    dsimp only
    have e2 : n - (k + 1) + 1 = n - k := by omega
    rw [e2] at s
    cases e : turn x ρ with
    | bad => rw [e] at s; exact s
    | ex x ρ1 => rw [e] at s; exact s.elim
    | ok y ρ1 =>
      rw [e] at s
      cases y with
      | none => exact comp_vloop I hend step k acc _ (by omega) s
      | some y =>
        obtain ⟨y', f, h1, h2⟩ := s
        subst f
        dsimp only
        rw [if_pos h1]
        exact comp_vloop I hend step k _ _ (by omega) h2
theorem for_vloop {turn : PV → Fr → Res Fl} {i n : Nat} {Q : Fl → Fr → Prop} {E : PX → Fr → Prop} (I : Nat → Fr → Prop) (hend : ∀ ρ, I n ρ → vwLen ρ i n = true ∧ Q .nx ρ) (step : ∀ j ρ, j < n → I j ρ → ∃ x, vwAt ρ i n j = some x ∧ (turn x ρ).sat (fun f ρ1 => match f with
    | .nx => I (j + 1) ρ1
    | .ct => I (j + 1) ρ1
    | .bk => Q .nx ρ1
    | .rt p => Q (.rt p) ρ1) E) : ∀ (k : Nat) (ρ : Fr), k ≤ n → I (n - k) ρ → (forV turn i n k ρ).sat Q E
  | 0, ρ, hk, h => by
    unfold forV
    rw [Nat.sub_zero] at h
    rw [if_pos (hend _ h).1]
    exact (hend _ h).2
  | k + 1, ρ, hk, h => by
    obtain ⟨x, e1, s⟩ := step (n - (k + 1)) ρ (by omega) h
    unfold forV
    rw [e1]
    dsimp only
    have e2 : n - (k + 1) + 1 = n - k := by omega
    rw [e2] at s
    cases e : turn x ρ with
    | bad => rw [e] at s; exact s
    | ex x ρ1 => rw [e] at s; exact s
    | ok f ρ1 =>
      rw [e] at s
      cases f with
      | nx => exact for_vloop I hend step k ρ1 (by omega) s
      | ct => exact for_vloop I hend step k ρ1 (by omega) s
      | bk => exact s
      | rt p => exact s
theorem zC_ok {f : Str → List PV → CR} {k : Str} {as : List PV} {Q : PV → Fr → Prop} {E : PX → Fr → Prop} : zC f k as Q E ↔ (f k as).sat Q E := by
  unfold zC
  exact Iff.rfl
mutual
theorem wE_ok (c : Cf) : ∀ (e : IE), RunOk (wE c e) (evE c e)
  | .cst p, ρ, Q, E, h => s_cst (by simpa only [wE] using h)
  | .loc i, ρ, Q, E, h => by
    simp only [wE] at h
    cases e : ρ.at i with
    | none => rw [e] at h; exact h.elim
    | some p => rw [e] at h; exact s_loc e rfl (wFrz_ok (k := fun p' => Q p' (ρ.set i (some p'))) h)
  | .mov i, ρ, Q, E, h => by
    simp only [wE] at h
    cases e : ρ.at i with
    | none => rw [e] at h; exact h.elim
    | some p => rw [e] at h; exact s_mov e h
  | .op f es, ρ, Q, E, h => by
    simp only [wE] at h
    refine s_op ((wO_ok c es _ _ _ h).mono fun os ρ1 q => ?_)
    cases e : rsvL ρ1 os with
    | none => rw [e] at q; exact q.elim
    | some ps =>
      rw [e] at q
      obtain ⟨r, e2, q⟩ := wOp_ok q
      exact ⟨ps, r, rfl, e2, q⟩
  | .chain f g x y z, ρ, Q, E, h => by
    simp only [wE] at h
    refine s_chain ((wP_ok (wE_ok c x) h).mono fun o1 ρ1 h => (wP_ok (wE_ok c y) h).mono fun o2 ρ2 q => ?_)
    cases e1 : rsv ρ2 o1 with
    | none => rw [e1] at q; exact q.elim
    | some p =>
      cases e2 : rsv ρ2 o2 with
      | none => rw [e1, e2] at q; exact q.elim
      | some p2 =>
        rw [e1, e2] at q
        obtain ⟨r, e3, q⟩ := wOp_ok q
        cases e4 : cmpN f p p2 with
        | none => simp [opN, e4] at e3
        | some k =>
          simp [opN, e4] at e3
          subst e3
          refine ⟨p, p2, k, rfl, rfl, e4, q.1, fun hk => (wP_ok (wE_ok c z) (q.2 hk)).mono fun o3 ρ3 q => ?_⟩
          cases f1 : rsv ρ3 o2 with
          | none => rw [f1] at q; exact q.elim
          | some q' =>
            cases f2 : rsv ρ3 o3 with
            | none => rw [f1, f2] at q; exact q.elim
            | some r' =>
              rw [f1, f2] at q
              obtain ⟨v, f3, q⟩ := wOp_ok q
              cases f4 : cmpN g q' r' with
              | none => simp [opN, f4] at f3
              | some k' =>
                simp [opN, f4] at f3
                subst f3
                exact ⟨q', r', k', rfl, rfl, f4, q⟩
  | .dcmp f t es u ds, ρ, Q, E, h => by
    simp only [wE] at h
    refine s_dcmp ((wO_ok c es _ _ _ h).mono fun x ρ1 ⟨o1, h⟩ => ⟨o1, (wO_ok c ds _ _ _ h).mono fun y ρ2 ⟨o2, h⟩ => ⟨o2, ?_⟩⟩)
    split at h
    · rename_i p q e1 e2
      obtain ⟨r, e3, h⟩ := wOp_ok h
      cases e4 : cmpN f p q with
      | none => simp [opN, e4] at e3
      | some k =>
        simp [opN, e4] at e3
        subst e3
        exact ⟨p, q, k, e1, e2, e4, h⟩
    · exact h.elim
  | .slc x a b, ρ, Q, E, h => by
    simp only [wE] at h
    refine s_slc ((wP_ok (wE_ok c x) h).mono fun o ρ1 h => (wP_ok (wE_ok c a) h).mono fun y ρ2 q => ?_)
    split at q
    · rename_i i e1
      refine ⟨i, e1, (wP_ok (wE_ok c b) q).mono fun z ρ3 q => ?_⟩
      split at q
      · rename_i p j e2 e3
        obtain ⟨r, e4, q⟩ := q
        exact ⟨p, j, r, e2, e3, e4, q⟩
      · exact q.elim
    · exact q.elim
  | .and a b, ρ, Q, E, h => by
    simp only [wE] at h
    refine s_and ((wE_ok c a _ _ _ h).mono fun p ρ1 q => ?_)
    split at q
    · exact ⟨_, rfl, fun hk => wE_ok c b _ _ _ (q.1 hk), q.2⟩
    · exact q.elim
  | .or a b, ρ, Q, E, h => by
    simp only [wE] at h
    refine s_or ((wE_ok c a _ _ _ h).mono fun p ρ1 q => ?_)
    split at q
    · exact ⟨_, rfl, q.1, fun hk => wE_ok c b _ _ _ (q.2 hk)⟩
    · exact q.elim
  | .ite t a b, ρ, Q, E, h => by
    simp only [wE] at h
    exact s_ite ((wT_ok c t _ _ _ h).mono fun k ρ1 q => ⟨fun hk => wE_ok c a _ _ _ (q.1 hk), fun hk => wE_ok c b _ _ _ (q.2 hk)⟩)
  | .lst es, ρ, Q, E, h => by
    simp only [wE] at h
    exact s_lst ((wL_ok c es _ _ _ h).mono fun ps ρ1 q => ⟨_, rfl, q.1, wFrzL_ok (k := fun qs => Q (.lst true qs) ρ1) q.2⟩)
  | .tup es, ρ, Q, E, h => by
    simp only [wE] at h
    exact s_tup ((wL_ok c es _ _ _ h).mono fun ps ρ1 q => ⟨_, rfl, q.1, wFrzL_ok (k := fun qs => Q (.tup qs) ρ1) q.2⟩)
  | .call k ls es, ρ, Q, E, h => by
    simp only [wE] at h
    exact s_call ((wA_ok c _ es _ _ _ h).mono fun os ρ0 q => by
      obtain ⟨as, ρ1, e, q⟩ := wTake_ok q
      exact ⟨as, ρ1, e, zC_ok.mp q⟩)
  | .comp elt tg src ifs own, ρ, Q, E, h => by
    simp only [wE] at h
    have h2 : (evSrc c src ρ).sat (fun xs ρ1 => zK tg own (fun ρ Q => wI c ifs ρ Q NE) (fun ρ Q => wE c elt ρ Q NE) xs ρ1 Q) E := wSrc_ok c src _ _ _ h
    cases e : evSrc c src ρ with
    | bad => rw [e] at h2; exact h2.elim
    | ex x ρ1 =>
      rw [e] at h2
      simp only [evE, e]
      exact h2
    | ok xs ρ1 =>
      rw [e] at h2
      have h3 : zK tg own (fun ρ Q => wI c ifs ρ Q NE) (fun ρ Q => wE c elt ρ Q NE) xs ρ1 Q := h2
      unfold zK at h3
      obtain ⟨I, h0, hk, step⟩ := h3
      refine s_comp I (by rw [e]; exact ⟨h0, hk⟩) fun x r acc ρ hI => ?_
      obtain ⟨ρ2, e2, q⟩ := step x r acc ρ hI
      exact ⟨ρ2, e2, (wI_ok c ifs _ _ _ q).mono fun k ρ3 q => ⟨fun hk => wE_ok c elt _ _ _ (q.1 hk), q.2⟩⟩
  | .compv elt tg i ifs own, ρ, Q, E, h => by
    simp only [wE] at h
    simp only [evE]
    cases en : lenAt ρ i with
    | none => rw [en] at h; exact h.elim
    | some n =>
      rw [en] at h
      have h2 : zKv tg own i (fun ρ Q => wI c ifs ρ Q NE) (fun ρ Q => wE c elt ρ Q NE) n ρ Q := h
      unfold zKv at h2
      obtain ⟨eo, I, h0, hk, step⟩ := h2
      rw [eo]
      dsimp only
      have L := comp_vloop (turn := fun x ρ => match asg tg x ρ with
        | some ρ2 => (evIfs c ifs ρ2).bind fun k ρ3 => if k then (evE c elt ρ3).bind fun y ρ4 => .ok (some y) ρ4 else .ok none ρ3
        | none => .bad) (own := own) I (fun ys ρ hI => (hk ys ρ hI).1) (fun j acc ρ hj hI => by
          obtain ⟨x, ρ2, e1, e2, q⟩ := step j acc ρ hj hI
          refine ⟨x, e1, ?_⟩
          rw [e2]
          refine sat_bind.mpr ((wI_ok c ifs _ _ _ q).mono fun k ρ3 q => ?_)
          cases k with
          | true =>
            rw [if_pos rfl]
            exact sat_bind.mpr (wE_ok c elt _ _ _ (q.1 rfl))
          | false =>
            rw [if_neg Bool.false_ne_true]
            exact q.2 rfl) n [] _ (Nat.le_refl _) (by rw [Nat.sub_self]; exact h0)
      generalize compV _ own i n n _ [] = r at L
      cases r with
      | ok ys ρ2 => exact (hk ys ρ2 L).2
      | ex x ρ2 => exact L.elim
      | bad => exact L.elim
  | .tupo es, ρ, Q, E, h => by
    simp only [wE] at h
    simp only [evE]
    refine sat_bind.mpr ((wL_ok c es _ _ _ h).mono fun ps ρ1 q => ?_)
    rw [if_pos q.1]
    exact q.2
  | .it i k, ρ, Q, E, h => by simp only [wE] at h
  | .xf f, ρ, Q, E, h => by
    simp only [wE] at h
    simp only [evE]
    split at h
    · rename_i x ex
      rw [ex]
      dsimp only [Option.bind]
      split at h
      · rename_i p ep
        try rw [ep]
        exact h
      · exact h.elim
    · exact h.elim
  | .xi t, ρ, Q, E, h => by
    simp only [wE] at h
    simp only [evE]
    split at h
    · rename_i x ex
      rw [ex]
      dsimp only [Option.bind]
      split at h
      · rename_i p ep
        try rw [ep]
        exact h
      · exact h.elim
    · exact h.elim
theorem wT_ok (c : Cf) : ∀ (e : IE) (ρ : Fr) (Q : Bool → Fr → Prop) (E : PX → Fr → Prop), wT c e (wE c e) ρ Q E → (evT c e (evE c e) ρ).sat Q E
  | .and a b, ρ, Q, E, h => by
    simp only [wT] at h
    exact t_and ((wT_ok c a _ _ _ h).mono fun k ρ1 q => ⟨fun hk => wT_ok c b _ _ _ (q.1 hk), q.2⟩)
  | .or a b, ρ, Q, E, h => by
    simp only [wT] at h
    exact t_or ((wT_ok c a _ _ _ h).mono fun k ρ1 q => ⟨q.1, fun hk => wT_ok c b _ _ _ (q.2 hk)⟩)
  | .op f es, ρ, Q, E, h => by
    by_cases hn : ∃ e, f = .not ∧ es = [e]
    · obtain ⟨e, rfl, rfl⟩ := hn
      simp only [wT] at h
      exact t_not (wT_ok c e _ _ _ h)
    · rw [wT_op hn] at h
      have h2 := wE_ok c (.op f es) _ _ _ h
      have et := evT_op2 (c := c) (run := evE c (.op f es)) (ρ := ρ) hn
      rw [et]
      refine sat_bind.mpr (h2.mono fun p ρ1 q => ?_)
      split at q
      · exact q
      · exact q.elim
  | .chain f g x y z, ρ, Q, E, h => by
    simp only [wT] at h
    refine t_chain ((wE_ok c (.chain f g x y z) _ _ _ h).mono fun p ρ1 q => ?_)
    split at q
    · exact ⟨_, rfl, q⟩
    · exact q.elim
  | .dcmp f t es u ds, ρ, Q, E, h => by
    simp only [wT] at h
    refine t_dcmp ((wE_ok c (.dcmp f t es u ds) _ _ _ h).mono fun p ρ1 q => ?_)
    split at q
    · exact ⟨_, rfl, q⟩
    · exact q.elim
  | .cst p, ρ, Q, E, h => by
    simp only [wT] at h
    exact t_val rfl ((wP_ok (wE_ok c _) h).mono fun o ρ1 q => tr_end q)
  | .loc i, ρ, Q, E, h => by
    simp only [wT] at h
    exact t_val rfl ((wP_ok (wE_ok c _) h).mono fun o ρ1 q => tr_end q)
  | .mov i, ρ, Q, E, h => by
    simp only [wT] at h
    exact t_val rfl ((wP_ok (wE_ok c _) h).mono fun o ρ1 q => tr_end q)
  | .slc x a b, ρ, Q, E, h => by
    simp only [wT] at h
    exact t_val rfl ((wP_ok (wE_ok c _) h).mono fun o ρ1 q => tr_end q)
  | .ite t a b, ρ, Q, E, h => by
    simp only [wT] at h
    exact t_val rfl ((wP_ok (wE_ok c _) h).mono fun o ρ1 q => tr_end q)
  | .lst es, ρ, Q, E, h => by
    simp only [wT] at h
    exact t_val rfl ((wP_ok (wE_ok c _) h).mono fun o ρ1 q => tr_end q)
  | .tup es, ρ, Q, E, h => by
    simp only [wT] at h
    exact t_val rfl ((wP_ok (wE_ok c _) h).mono fun o ρ1 q => tr_end q)
  | .call k ls es, ρ, Q, E, h => by
    simp only [wT] at h
    exact t_val rfl ((wP_ok (wE_ok c _) h).mono fun o ρ1 q => tr_end q)
  | .comp elt tg src ifs own, ρ, Q, E, h => by
    simp only [wT] at h
    exact t_val rfl ((wP_ok (wE_ok c _) h).mono fun o ρ1 q => tr_end q)
  | .compv elt tg i ifs own, ρ, Q, E, h => by
    simp only [wT] at h
    exact t_val rfl ((wP_ok (wE_ok c _) h).mono fun o ρ1 q => tr_end q)
  | .xf f, ρ, Q, E, h => by
    simp only [wT] at h
    exact t_val rfl ((wP_ok (wE_ok c _) h).mono fun o ρ1 q => tr_end q)
  | .xi t, ρ, Q, E, h => by
    simp only [wT] at h
    exact t_val rfl ((wP_ok (wE_ok c _) h).mono fun o ρ1 q => tr_end q)
  | .tupo es, ρ, Q, E, h => by
    simp only [wT] at h
    exact t_val rfl ((wP_ok (wE_ok c _) h).mono fun o ρ1 q => tr_end q)
  | .it i k, ρ, Q, E, h => by
    simp only [wT] at h
    exact t_val rfl ((wP_ok (wE_ok c _) h).mono fun o ρ1 q => tr_end q)
theorem wI_ok (c : Cf) : ∀ (es : List IE) (ρ : Fr) (Q : Bool → Fr → Prop) (E : PX → Fr → Prop), wI c es ρ Q E → (evIfs c es ρ).sat Q E
  | [], ρ, Q, E, h => i_nil (by simpa only [wI] using h)
  | [e], ρ, Q, E, h => i_one (wT_ok c e _ _ _ (by simpa only [wI] using h))
  | _ :: _ :: _, ρ, Q, E, h => by simp only [wI] at h
theorem wO_ok (c : Cf) : ∀ (es : List IE) (ρ : Fr) (Q : List OV → Fr → Prop) (E : PX → Fr → Prop), wO c es ρ Q E → (evO c es ρ).sat Q E
  | [], ρ, Q, E, h => os_nil (by simpa only [wO] using h)
  | e :: es, ρ, Q, E, h => by
    simp only [wO] at h
    exact os_cons ((wP_ok (wE_ok c e) h).mono fun o ρ1 q => wO_ok c es _ _ _ q)
theorem wL_ok (c : Cf) : ∀ (es : List IE) (ρ : Fr) (Q : List PV → Fr → Prop) (E : PX → Fr → Prop), wL c es ρ Q E → (evL c es ρ).sat Q E
  | [], ρ, Q, E, h => l_nil (by simpa only [wL] using h)
  | e :: es, ρ, Q, E, h => by
    simp only [wL] at h
    exact l_cons ((wE_ok c e _ _ _ h).mono fun o ρ1 q => wL_ok c es _ _ _ q)
theorem wA_ok (c : Cf) : ∀ (ls : List Bool) (es : List IE) (ρ : Fr) (Q : List OV → Fr → Prop) (E : PX → Fr → Prop), wA c ls es ρ Q E → (evA c ls es ρ).sat Q E
  | ls, [], ρ, Q, E, h => a_nil (by simpa only [wA] using h)
  | ls, e :: es, ρ, Q, E, h => by
    simp only [wA] at h
    exact a_cons ((wG_ok (wE_ok c e) h).mono fun o ρ1 q => wA_ok c _ es _ _ _ q)
theorem wSrc_ok (c : Cf) : ∀ (s : ISrc) (ρ : Fr) (Q : List PV → Fr → Prop) (E : PX → Fr → Prop), wSrc c s ρ Q E → (evSrc c s ρ).sat Q E
  | .it e, ρ, Q, E, h => by
    simp only [wSrc] at h
    refine w_it ((wE_ok c e _ _ _ h).mono fun p ρ1 q => ?_)
    obtain ⟨xs, e1, q⟩ := wFrz_ok (k := fun p' => ∃ xs, srcOf p' = some xs ∧ Q xs ρ1) q
    exact ⟨_, xs, rfl, e1, q⟩
  | .rng es, ρ, Q, E, h => by
    simp only [wSrc] at h
    refine w_rng ((wO_ok c es _ _ _ h).mono fun os ρ1 q => ?_)
    split at q
    · rename_i ps e1
      obtain ⟨xs, e2, q⟩ := wRng_ok q
      exact ⟨ps, xs, e1, e2, q⟩
    · exact q.elim
  | .enm e, ρ, Q, E, h => by
    simp only [wSrc] at h
    refine w_enm ((wE_ok c e _ _ _ h).mono fun p ρ1 q => ?_)
    obtain ⟨xs, e1, q⟩ := wFrz_ok (k := fun p' => ∃ xs, enmP [p'] = some xs ∧ Q xs ρ1) q
    exact ⟨_, xs, rfl, e1, q⟩
  | .zp a b, ρ, Q, E, h => by
    simp only [wSrc] at h
    simp only [evSrc]
    refine sat_bind.mpr (g_val (b := false) rfl ((wE_ok c a _ _ _ h).mono fun p ρ1 h => ⟨_, rfl, sat_bind.mpr (g_val (b := false) rfl ((wE_ok c b _ _ _ h).mono fun q ρ2 ⟨xs, e, k⟩ => ⟨_, rfl, ?_⟩))⟩))
    dsimp only
    rw [e]
    exact k
end
end Y
end
section
set_option Elab.async false
set_option linter.all false
set_option maxRecDepth 100000
set_option maxHeartbeats 4000000
set_option autoImplicit false
/-! V3: statements, calls. -/
namespace Y
open PySem
mutual
theorem wS_ok (c : Cf) : ∀ (s : IS) (ρ : Fr) (Q : Fl → Fr → Prop) (E : PX → Fr → Prop), wS c s ρ Q E → (evS c s ρ).sat Q E
  | .set i e, ρ, Q, E, h => by
    simp only [wS] at h
    refine k_set ((wE_ok c e _ _ _ h).mono fun p ρ1 q => ?_)
    cases hb : Nat.blt i ρ1.length with
    | true => rw [hb] at q; exact ⟨Nat.le_of_ble_eq_true hb, q⟩
    | false => rw [hb] at q; exact q.elim
  | .asg tg e, ρ, Q, E, h => by
    simp only [wS] at h
    refine k_asg ((wE_ok c e _ _ _ h).mono fun p ρ1 q => ?_)
    obtain ⟨ρ2, e1, q⟩ := wFrz_ok (k := fun p' => ∃ ρ2, asg tg p' ρ1 = some ρ2 ∧ Q .nx ρ2) q
    exact ⟨_, ρ2, rfl, e1, q⟩
  | .par is es, ρ, Q, E, h => by
    simp only [wS] at h
    simp only [evS]
    refine sat_bind.mpr ((wL_ok c es _ _ _ h).mono fun ps ρ1 ⟨ρ2, e, q⟩ => ?_)
    rw [e]
    exact q
  | .aug i o e, ρ, Q, E, h => by
    simp only [wS] at h
    cases e0 : ρ.at i with
    | none => rw [e0] at h; exact h.elim
    | some q0 =>
      rw [e0] at h
      have h2 := wE_ok c e _ _ _ h
      simp only [evS, e0]
      refine sat_bind.mpr (h2.mono fun p ρ1 q => ?_)
      split at q
      · exact q
      · exact q
      · exact q.elim
  | .sub i ix e, ρ, Q, E, h => by
    simp only [wS] at h
    refine k_sub ((wE_ok c e _ _ _ h).mono fun p ρ1 q => ?_)
    have q := wFrz_ok (k := fun p' => match ρ1.at i with
      | some (.lst _ _) => wP ix (wE c ix) ρ1 (fun o ρ2 => match ρ2.at i, rsv ρ2 o with
        | some (.lst true xs), some (.int k) => ∃ j, L2.ixN xs.length k = some j ∧ Q .nx (ρ2.set i (some (.lst true (xs.set j p'))))
        | _, _ => False) E
      | _ => False) q
    refine ⟨_, rfl, ?_⟩
    split at q
    · rename_i e1
      refine ⟨by rw [e1]; rfl, (wP_ok (wE_ok c ix) q).mono fun o ρ2 q => ?_⟩
      split at q
      · rename_i xs k e2 e3
        obtain ⟨j, e4, q⟩ := q
        exact ⟨xs, k, j, e2, e3, e4, q⟩
      · exact q.elim
    · exact q.elim
  | .app i e, ρ, Q, E, h => by
    simp only [wS] at h
    split at h
    · rename_i e1
      refine k_app (by rw [e1]; rfl) ((wE_ok c e _ _ _ h).mono fun p ρ1 q => ?_)
      have q := wFrz_ok (k := fun p' => match ρ1.at i with
        | some (.lst true xs) => xs.length < sizeLine ∧ Q .nx (ρ1.set i (some (.lst true (xs ++ [p']))))
        | _ => False) q
      split at q
      · rename_i xs e2
        exact ⟨_, xs, rfl, e2, q.1, q.2⟩
      · exact q.elim
    · exact h.elim
  | .ext i e, ρ, Q, E, h => by
    simp only [wS] at h
    split at h
    · rename_i e1
      refine k_ext (by rw [e1]; rfl) ((wE_ok c e _ _ _ h).mono fun p ρ1 q => ?_)
      have q := wFrz_ok (k := fun p' => match ρ1.at i, p' with
        | some (.lst true xs), .lst _ ys => xs.length + ys.length ≤ sizeLine ∧ Q .nx (ρ1.set i (some (.lst true (xs ++ ys))))
        | _, _ => False) q
      split at q
      · rename_i xs o ys e2 e3
        exact ⟨xs, o, ys, e2, e3, q.1, q.2⟩
      · exact q.elim
    · exact h.elim
  | .exp e, ρ, Q, E, h => k_exp (wE_ok c e _ _ _ (by simpa only [wS] using h))
  | .ret e, ρ, Q, E, h => k_ret (wE_ok c e _ _ _ (by simpa only [wS] using h))
  | .retN, ρ, Q, E, h => k_retN (by simpa only [wS] using h)
  | .ife t a b, ρ, Q, E, h => by
    simp only [wS] at h
    exact k_ife ((wT_ok c t _ _ _ h).mono fun k ρ1 q => ⟨fun hk => wB_ok c a _ _ _ (q.1 hk), fun hk => wB_ok c b _ _ _ (q.2 hk)⟩)
  | .fors tg src body, ρ, Q, E, h => by
    simp only [wS] at h
    have h2 := wSrc_ok c src _ _ _ h
    cases e : evSrc c src ρ with
    | bad => rw [e] at h2; exact h2.elim
    | ex x ρ1 =>
      rw [e] at h2
      simp only [evS, e]
      exact h2
    | ok xs ρ1 =>
      rw [e] at h2
      have h3 : zF tg (fun ρ Q => wB c body ρ Q E) xs ρ1 Q E := h2
      unfold zF at h3
      obtain ⟨I, h0, hend, step⟩ := h3
      refine k_for I (by rw [e]; exact h0) hend fun x r ρ hI => ?_
      obtain ⟨ρ2, e2, q⟩ := step x r ρ hI
      exact ⟨ρ2, e2, wB_ok c body _ _ _ q⟩
  | .forv tg i body, ρ, Q, E, h => by
    simp only [wS] at h
    simp only [evS]
    cases en : lenAt ρ i with
    | none => rw [en] at h; exact h.elim
    | some n =>
      rw [en] at h
      have h2 : zFv tg i (fun ρ Q => wB c body ρ Q E) n ρ Q E := h
      unfold zFv at h2
      obtain ⟨I, h0, hk, step⟩ := h2
      dsimp only
      refine for_vloop I hk (fun j ρ hj hI => ?_) n ρ (Nat.le_refl _) (by rw [Nat.sub_self]; exact h0)
      obtain ⟨x, ρ2, e1, e2, q⟩ := step j ρ hj hI
      refine ⟨x, e1, ?_⟩
      rw [e2]
      exact wB_ok c body _ _ _ q
  | .whl t body, ρ, Q, E, h => by
    simp only [wS] at h
    unfold zW at h
    obtain ⟨I, n, h0, hf, step⟩ := h
    refine k_whl I n h0 hf fun n ρ hI => (wT_ok c t _ _ _ (step n ρ hI)).mono fun k ρ1 q => ⟨fun hk => ?_, q.2⟩
    obtain ⟨m, e, q⟩ := q.1 hk
    exact ⟨m, e, wB_ok c body _ _ _ q⟩
  | .brk, ρ, Q, E, h => k_brk (by simpa only [wS] using h)
  | .cnt, ρ, Q, E, h => k_cnt (by simpa only [wS] using h)
  | .pas, ρ, Q, E, h => k_pas (by simpa only [wS] using h)
  | .rai d es, ρ, Q, E, h => by
    simp only [wS] at h
    simp only [evS]
    refine sat_bind.mpr ((wL_ok c es _ _ _ h).mono fun ps ρ1 q => ?_)
    cases e : Nat.beq ps.length d.fs.length with
    | true =>
      rw [e] at q
      rw [if_pos (Nat.eq_of_beq_eq_true e)]
      exact wFrzL_ok (k := fun qs => E ⟨d, d.fs.zip qs⟩ ρ1) q
    | false => rw [e] at q; exact q.elim
  | .tryx body hs, ρ, Q, E, h => by
    simp only [wS] at h
    simp only [evS]
    have h2 := wB_ok c body _ _ _ h
    cases e : evB c body ρ with
    | bad => rw [e] at h2; exact h2.elim
    | ok f ρ1 => rw [e] at h2; exact h2
    | ex x ρ1 => rw [e] at h2; exact wH_ok c hs x ρ1 _ _ h2
  | .appi i k x, ρ, Q, E, h => by
    simp only [wS] at h
    simp only [evS]
    split at h
    · rename_i xs ex
      split at h
      · rename_i ys ey
        try rw [ex]
        try dsimp only
        try rw [ey]
        try dsimp only
        rw [if_pos h.1]
        exact h.2
      · exact h.elim
    · exact h.elim
theorem wH_ok (c : Cf) : ∀ (hs : IH) (x : PX) (ρ : Fr) (Q : Fl → Fr → Prop) (E : PX → Fr → Prop), wH c hs x ρ Q E → (evH c hs x ρ).sat Q E
  | .nil, x, ρ, Q, E, h => by
    simp only [wH] at h
    simp only [evH]
    exact h
  | .cons k i suite r, x, ρ, Q, E, h => by
    simp only [wH] at h
    simp only [evH]
    cases el : x.xd.rel.lookup k with
    | none => rw [el] at h; exact h.elim
    | some b =>
      rw [el] at h
      cases b with
      | false => exact wH_ok c r x ρ _ _ h
      | true =>
        cases i with
        | none =>
          have h2 := wB_ok c suite _ _ _ h
          show (sufR none (evB c suite ρ)).sat Q E
          cases e : evB c suite ρ with
          | bad => rw [e] at h2; exact h2.elim
          | ok f ρ1 => rw [e] at h2; exact h2
          | ex x ρ1 => rw [e] at h2; exact h2.elim
        | some i =>
          dsimp only at h
          cases hb : Nat.blt i ρ.length with
          | false => rw [hb] at h; exact h.elim
          | true =>
            rw [hb] at h
            have h2 := wB_ok { c with cur := some x } suite _ _ _ h
            dsimp only
            rw [if_pos (show fitI (some i) ρ = true from decide_eq_true (Nat.le_of_ble_eq_true hb))]
            show (sufR (some i) (evB { c with cur := some x } suite (ρ.set i none))).sat Q E
            cases e : evB { c with cur := some x } suite (ρ.set i none) with
            | bad => rw [e] at h2; exact h2.elim
            | ok f ρ1 => rw [e] at h2; exact h2
            | ex x ρ1 => rw [e] at h2; exact h2.elim
theorem wB_ok (c : Cf) : ∀ (s : List IS) (ρ : Fr) (Q : Fl → Fr → Prop) (E : PX → Fr → Prop), wB c s ρ Q E → (evB c s ρ).sat Q E
  | [], ρ, Q, E, h => b_nil (by simpa only [wB] using h)
  | s :: r, ρ, Q, E, h => by
    simp only [wB] at h
    refine b_cons ((wS_ok c s _ _ _ h).mono fun f ρ1 q => ?_)
    cases f with
    | nx => exact wB_ok c r _ _ _ q
    | _ => exact q
end
/-- a def by its body -/
theorem run_ok {T : Tb} {fuel n : Nat} {k : Str} {as : List PV} {d : Fd} {Q : PV → Fr → Prop} {E : PX → Fr → Prop} (hT : T k = some d) (hl : as.length = d.ps) (h : wB ⟨callN T fuel n, lendOf T, fuel, none⟩ d.body (as.map some ++ List.replicate (d.n - d.ps) none) (fun f ρ => match f with
    | .rt p => Q p (maskF d.lend (ρ.take d.ps))
    | .nx => Q .non (maskF d.lend (ρ.take d.ps))
    | _ => False) fun x ρ => E x (maskF d.lend (ρ.take d.ps))) : zC (callN T fuel (n + 1)) k as Q E :=
  zC_ok.mpr (c_run hT hl (wB_ok _ _ _ _ _ h))
theorem zC_true {f : Str → List PV → CR} {k : Str} {as : List PV} (h : zC f k as (fun p _ => p = .bl true) NE) : ∃ as', f k as = .ok (.bl true) as' := sat_true (zC_ok.mp h)
end Y
end
section
set_option Elab.async false
set_option linter.all false
set_option maxRecDepth 100000
set_option maxHeartbeats 2000000
set_option autoImplicit false
/-! V4: what all the laws draw from: the pot. -/
namespace Y
open PySem
def drawB : List IS := [
  .sub 0 (.cst (.int 3)) (.op (.bin .Add) [.op .ix [.loc 0, .cst (.int 3)], .cst (.int 1)]),
  .ife (.op (.cmp .Eq) [.op .ix [.loc 0, .cst (.int 2)], .cst (.int 0)]) [.set 3 (.op .ix [.op .ix [.loc 0, .cst (.int 0)], .op (.bin .Mod) [.op .int [.op .ix [.loc 0, .cst (.int 1)]], .op .len [.op .ix [.loc 0, .cst (.int 0)]]]]), .sub 0 (.cst (.int 1)) (.op (.bin .Add) [.op .ix [.loc 0, .cst (.int 1)], .cst (.int 1)]), .ife (.op (.cmp .Lt) [.loc 3, .op (.bin .Pow) [.cst (.int 10), .cst (.int 18)]]) [.set 4 (.op (.bin .Mod) [.op .int [.op (.bin .Add) [.op (.bin .Add) [.op (.bin .Mult) [.loc 3, .cst (.int 48271)], .op (.bin .Mult) [.op .ix [.loc 0, .cst (.int 3)], .cst (.int 69621)]], .cst (.int 12345)]], .cst (.int 2147483629)]), .ret (.op (.bin .Mod) [.op (.bin .FloorDiv) [.op (.bin .Mod) [.op .int [.op (.bin .Add) [.op (.bin .Mult) [.loc 4, .cst (.int 16807)], .op (.bin .Mult) [.op .ix [.loc 0, .cst (.int 3)], .cst (.int 104729)]]], .cst (.int 2147483587)], .cst (.int 7)], .loc 1])] [], .sub 0 (.cst (.int 2)) (.loc 3)] [],
  .set 2 (.op (.bin .Mod) [.op .int [.op .ix [.loc 0, .cst (.int 2)]], .loc 1]),
  .sub 0 (.cst (.int 2)) (.op (.bin .FloorDiv) [.op .int [.op .ix [.loc 0, .cst (.int 2)]], .loc 1]),
  .ret (.mov 2)]
def potP (cs : List Int) (i r k : Int) : PV := .lst true [.lst false (cs.map .int), .int i, .int r, .int k]
theorem fzL_ints : ∀ cs : List Int, PV.fzL (cs.map .int) = true
  | [] => rfl
  | c :: cs => by simp [PV.fzL, PV.fz, fzL_ints cs]
theorem frzL_ints (cs : List Int) : PV.frzL (cs.map .int) = cs.map .int := PV.fzL_frzL _ (fzL_ints cs)
theorem fzL_strs : ∀ cs : List Str, PV.fzL (cs.map .str) = true
  | [] => rfl
  | c :: cs => by simp [PV.fzL, PV.fz, fzL_strs cs]
theorem fz_ints (cs : List Int) : (PV.lst false (cs.map .int)).fz = true := by simp [PV.fz, fzL_ints]
theorem fz_strs (cs : List Str) : (PV.lst false (cs.map .str)).fz = true := by simp [PV.fz, fzL_strs]
theorem fzL_app : ∀ (xs ys : List PV), PV.fzL (xs ++ ys) = (PV.fzL xs && PV.fzL ys)
  | [], ys => rfl
  | x :: xs, ys => by simp [PV.fzL, fzL_app xs ys, Bool.and_assoc]
theorem frz_lstp {o : Bool} {xs : List PV} (h : PV.fzL xs = true) : (PV.lst o xs).frz = .lst false xs := by
  simp only [PV.frz, PV.fzL_frzL xs h]
theorem atI_in {α : Type} {xs : List α} {i : Int} (h0 : 0 ≤ i) (h1 : i < xs.length) : ∃ x, L2.atI xs i = some x ∧ x ∈ xs ∧ xs[i.toNat]? = some x := by
  have hl : i.toNat < xs.length := by omega
  have e : xs[i.toNat]? = some xs[i.toNat] := List.getElem?_eq_getElem hl
  refine ⟨xs[i.toNat], ?_, List.getElem_mem hl, e⟩
  have := L2.atI_nat e
  rwa [show ((i.toNat : Nat) : Int) = i from by omega] at this
theorem lg {m : Int} (h0 : 0 < m) (h : m ≤ 10 ^ 18) : m.natAbs.log2 < 9000 := by
  have h1 : m.natAbs ≠ 0 := by omega
  have h2 : m.natAbs < 2 ^ 9000 := Nat.lt_of_lt_of_le (show m.natAbs < 2 ^ 60 by omega) (Nat.pow_le_pow_right (by decide) (by decide))
  exact (Nat.log2_lt h1).mpr h2
theorem draw_ok {T : Tb} {fuel n : Nat} (hT : T ("_law_draw" : Str) = some ⟨5, 2, [true, true], drawB⟩) {cs : List Int} {i r k m : Int} (hc : cs ≠ []) (hm : 0 < m) (hm2 : m.natAbs.log2 < 9000) {Q : PV → Fr → Prop} {E : PX → Fr → Prop}
    (h : ∀ d i' r' k', 0 ≤ d → d < m → Q (.int d) [some (potP cs i' r' k'), some (.int m)]) : zC (callN T fuel (n + 1)) ("_law_draw" : Str) [potP cs i r k, .int m] Q E := by
  have hlen : 0 < (((cs.map PV.int).length : Nat) : Int) := by
    rw [List.length_map]
    have := List.length_pos_iff.mpr hc
    omega
  have hf : (PV.lst false (cs.map .int)).fz = true := by simp [PV.fz, fzL_ints]
  obtain ⟨cell, hcell⟩ : ∃ cell, L2.atI (cs.map PV.int) (i % (((cs.map PV.int).length : Nat) : Int)) = some (.int cell) := by
    obtain ⟨x, h1, h2, _⟩ := atI_in (xs := cs.map PV.int) (Int.emod_nonneg i (by omega)) (Int.emod_lt_of_pos i hlen)
    obtain ⟨c, _, rfl⟩ := List.mem_map.mp h2
    exact ⟨c, h1⟩
  refine run_ok hT rfl ?_
  (conv => whnf); repeat (first | (refine ⟨_, rfl, (by first | assumption | rfl | exact fzL_ints _ | exact fzL_strs _ | exact fz_ints _ | exact fz_strs _), ?_⟩; conv => whnf) | (refine ⟨_, rfl, ?_⟩; conv => whnf) | (refine And.intro rfl ?_; conv => whnf) | (refine And.intro (by first | assumption | decide | omega) ?_; conv => whnf) | (refine And.intro (by first | assumption | rfl | exact fzL_ints _ | exact fzL_strs _ | exact fz_ints _ | exact fz_strs _) ?_; conv => whnf) | (refine And.intro (And.intro (by first | assumption | decide | omega) (by first | assumption | decide | omega)) ?_; conv => whnf) | (refine And.intro (And.intro (And.intro (by first | assumption | decide | omega) (by first | assumption | decide | omega)) (And.intro (by first | assumption | decide | omega) (by first | assumption | decide | omega))) ?_; conv => whnf) | (refine And.intro (And.intro (by first | assumption | rfl | exact fzL_ints _ | exact fzL_strs _ | exact fz_ints _ | exact fz_strs _) (And.intro (by first | assumption | rfl | exact fzL_ints _ | exact fzL_strs _ | exact fz_ints _ | exact fz_strs _) (by first | assumption | rfl | exact fzL_ints _ | exact fzL_strs _ | exact fz_ints _ | exact fz_strs _))) ?_; conv => whnf) | (refine And.intro (by first | exact Or.inl (by decide) | exact Or.inr (by decide)) ?_; conv => whnf) | (refine Or.inl (And.intro (by first | assumption | rfl | exact fzL_ints _ | exact fzL_strs _ | exact fz_ints _ | exact fz_strs _) ?_); conv => whnf) | (refine ⟨fun _ => ?_, fun z => Bool.noConfusion z⟩; conv => whnf) | (refine ⟨fun z => Bool.noConfusion z, fun _ => ?_⟩; conv => whnf) | (intro p0 z; rw [frz_lstp (by first | assumption | rfl | exact fzL_ints _ | exact fzL_strs _ | exact fz_ints _ | exact fz_strs _)] at z; subst z; conv => whnf) | (intro p0 z; rw [PV.fz_frz _ (by first | assumption | rfl | exact fzL_ints _ | exact fzL_strs _ | exact fz_ints _ | exact fz_strs _)] at z; subst z; conv => whnf))
  refine ⟨fun hk => ?_, fun hk => ?_⟩
  · (conv => whnf); repeat (first | (refine ⟨_, rfl, (by first | assumption | rfl | exact fzL_ints _ | exact fzL_strs _ | exact fz_ints _ | exact fz_strs _), ?_⟩; conv => whnf) | (refine ⟨_, rfl, ?_⟩; conv => whnf) | (refine And.intro rfl ?_; conv => whnf) | (refine And.intro (by first | assumption | decide | omega) ?_; conv => whnf) | (refine And.intro (by first | assumption | rfl | exact fzL_ints _ | exact fzL_strs _ | exact fz_ints _ | exact fz_strs _) ?_; conv => whnf) | (refine And.intro (And.intro (by first | assumption | decide | omega) (by first | assumption | decide | omega)) ?_; conv => whnf) | (refine And.intro (And.intro (And.intro (by first | assumption | decide | omega) (by first | assumption | decide | omega)) (And.intro (by first | assumption | decide | omega) (by first | assumption | decide | omega))) ?_; conv => whnf) | (refine And.intro (And.intro (by first | assumption | rfl | exact fzL_ints _ | exact fzL_strs _ | exact fz_ints _ | exact fz_strs _) (And.intro (by first | assumption | rfl | exact fzL_ints _ | exact fzL_strs _ | exact fz_ints _ | exact fz_strs _) (by first | assumption | rfl | exact fzL_ints _ | exact fzL_strs _ | exact fz_ints _ | exact fz_strs _))) ?_; conv => whnf) | (refine And.intro (by first | exact Or.inl (by decide) | exact Or.inr (by decide)) ?_; conv => whnf) | (refine Or.inl (And.intro (by first | assumption | rfl | exact fzL_ints _ | exact fzL_strs _ | exact fz_ints _ | exact fz_strs _) ?_); conv => whnf) | (refine ⟨fun _ => ?_, fun z => Bool.noConfusion z⟩; conv => whnf) | (refine ⟨fun z => Bool.noConfusion z, fun _ => ?_⟩; conv => whnf) | (intro p0 z; rw [frz_lstp (by first | assumption | rfl | exact fzL_ints _ | exact fzL_strs _ | exact fz_ints _ | exact fz_strs _)] at z; subst z; conv => whnf) | (intro p0 z; rw [PV.fz_frz _ (by first | assumption | rfl | exact fzL_ints _ | exact fzL_strs _ | exact fz_ints _ | exact fz_strs _)] at z; subst z; conv => whnf))
    refine ⟨_, hcell, rfl, ?_⟩
    (conv => whnf); repeat (first | (refine ⟨_, rfl, (by first | assumption | rfl | exact fzL_ints _ | exact fzL_strs _ | exact fz_ints _ | exact fz_strs _), ?_⟩; conv => whnf) | (refine ⟨_, rfl, ?_⟩; conv => whnf) | (refine And.intro rfl ?_; conv => whnf) | (refine And.intro (by first | assumption | decide | omega) ?_; conv => whnf) | (refine And.intro (by first | assumption | rfl | exact fzL_ints _ | exact fzL_strs _ | exact fz_ints _ | exact fz_strs _) ?_; conv => whnf) | (refine And.intro (And.intro (by first | assumption | decide | omega) (by first | assumption | decide | omega)) ?_; conv => whnf) | (refine And.intro (And.intro (And.intro (by first | assumption | decide | omega) (by first | assumption | decide | omega)) (And.intro (by first | assumption | decide | omega) (by first | assumption | decide | omega))) ?_; conv => whnf) | (refine And.intro (And.intro (by first | assumption | rfl | exact fzL_ints _ | exact fzL_strs _ | exact fz_ints _ | exact fz_strs _) (And.intro (by first | assumption | rfl | exact fzL_ints _ | exact fzL_strs _ | exact fz_ints _ | exact fz_strs _) (by first | assumption | rfl | exact fzL_ints _ | exact fzL_strs _ | exact fz_ints _ | exact fz_strs _))) ?_; conv => whnf) | (refine And.intro (by first | exact Or.inl (by decide) | exact Or.inr (by decide)) ?_; conv => whnf) | (refine Or.inl (And.intro (by first | assumption | rfl | exact fzL_ints _ | exact fzL_strs _ | exact fz_ints _ | exact fz_strs _) ?_); conv => whnf) | (refine ⟨fun _ => ?_, fun z => Bool.noConfusion z⟩; conv => whnf) | (refine ⟨fun z => Bool.noConfusion z, fun _ => ?_⟩; conv => whnf) | (intro p0 z; rw [frz_lstp (by first | assumption | rfl | exact fzL_ints _ | exact fzL_strs _ | exact fz_ints _ | exact fz_strs _)] at z; subst z; conv => whnf) | (intro p0 z; rw [PV.fz_frz _ (by first | assumption | rfl | exact fzL_ints _ | exact fzL_strs _ | exact fz_ints _ | exact fz_strs _)] at z; subst z; conv => whnf))
    refine ⟨fun hk2 => ?_, fun hk2 => ?_⟩
    · (conv => whnf); repeat (first | (refine ⟨_, rfl, (by first | assumption | rfl | exact fzL_ints _ | exact fzL_strs _ | exact fz_ints _ | exact fz_strs _), ?_⟩; conv => whnf) | (refine ⟨_, rfl, ?_⟩; conv => whnf) | (refine And.intro rfl ?_; conv => whnf) | (refine And.intro (by first | assumption | decide | omega) ?_; conv => whnf) | (refine And.intro (by first | assumption | rfl | exact fzL_ints _ | exact fzL_strs _ | exact fz_ints _ | exact fz_strs _) ?_; conv => whnf) | (refine And.intro (And.intro (by first | assumption | decide | omega) (by first | assumption | decide | omega)) ?_; conv => whnf) | (refine And.intro (And.intro (And.intro (by first | assumption | decide | omega) (by first | assumption | decide | omega)) (And.intro (by first | assumption | decide | omega) (by first | assumption | decide | omega))) ?_; conv => whnf) | (refine And.intro (And.intro (by first | assumption | rfl | exact fzL_ints _ | exact fzL_strs _ | exact fz_ints _ | exact fz_strs _) (And.intro (by first | assumption | rfl | exact fzL_ints _ | exact fzL_strs _ | exact fz_ints _ | exact fz_strs _) (by first | assumption | rfl | exact fzL_ints _ | exact fzL_strs _ | exact fz_ints _ | exact fz_strs _))) ?_; conv => whnf) | (refine And.intro (by first | exact Or.inl (by decide) | exact Or.inr (by decide)) ?_; conv => whnf) | (refine Or.inl (And.intro (by first | assumption | rfl | exact fzL_ints _ | exact fzL_strs _ | exact fz_ints _ | exact fz_strs _) ?_); conv => whnf) | (refine ⟨fun _ => ?_, fun z => Bool.noConfusion z⟩; conv => whnf) | (refine ⟨fun z => Bool.noConfusion z, fun _ => ?_⟩; conv => whnf) | (intro p0 z; rw [frz_lstp (by first | assumption | rfl | exact fzL_ints _ | exact fzL_strs _ | exact fz_ints _ | exact fz_strs _)] at z; subst z; conv => whnf) | (intro p0 z; rw [PV.fz_frz _ (by first | assumption | rfl | exact fzL_ints _ | exact fzL_strs _ | exact fz_ints _ | exact fz_strs _)] at z; subst z; conv => whnf))
      exact h _ _ _ _ (Int.emod_nonneg _ (by omega)) (Int.emod_lt_of_pos _ hm)
    · (conv => whnf); repeat (first | (refine ⟨_, rfl, (by first | assumption | rfl | exact fzL_ints _ | exact fzL_strs _ | exact fz_ints _ | exact fz_strs _), ?_⟩; conv => whnf) | (refine ⟨_, rfl, ?_⟩; conv => whnf) | (refine And.intro rfl ?_; conv => whnf) | (refine And.intro (by first | assumption | decide | omega) ?_; conv => whnf) | (refine And.intro (by first | assumption | rfl | exact fzL_ints _ | exact fzL_strs _ | exact fz_ints _ | exact fz_strs _) ?_; conv => whnf) | (refine And.intro (And.intro (by first | assumption | decide | omega) (by first | assumption | decide | omega)) ?_; conv => whnf) | (refine And.intro (And.intro (And.intro (by first | assumption | decide | omega) (by first | assumption | decide | omega)) (And.intro (by first | assumption | decide | omega) (by first | assumption | decide | omega))) ?_; conv => whnf) | (refine And.intro (And.intro (by first | assumption | rfl | exact fzL_ints _ | exact fzL_strs _ | exact fz_ints _ | exact fz_strs _) (And.intro (by first | assumption | rfl | exact fzL_ints _ | exact fzL_strs _ | exact fz_ints _ | exact fz_strs _) (by first | assumption | rfl | exact fzL_ints _ | exact fzL_strs _ | exact fz_ints _ | exact fz_strs _))) ?_; conv => whnf) | (refine And.intro (by first | exact Or.inl (by decide) | exact Or.inr (by decide)) ?_; conv => whnf) | (refine Or.inl (And.intro (by first | assumption | rfl | exact fzL_ints _ | exact fzL_strs _ | exact fz_ints _ | exact fz_strs _) ?_); conv => whnf) | (refine ⟨fun _ => ?_, fun z => Bool.noConfusion z⟩; conv => whnf) | (refine ⟨fun z => Bool.noConfusion z, fun _ => ?_⟩; conv => whnf) | (intro p0 z; rw [frz_lstp (by first | assumption | rfl | exact fzL_ints _ | exact fzL_strs _ | exact fz_ints _ | exact fz_strs _)] at z; subst z; conv => whnf) | (intro p0 z; rw [PV.fz_frz _ (by first | assumption | rfl | exact fzL_ints _ | exact fzL_strs _ | exact fz_ints _ | exact fz_strs _)] at z; subst z; conv => whnf))
      exact h _ _ _ _ (Int.emod_nonneg _ (by omega)) (Int.emod_lt_of_pos _ hm)
  · (conv => whnf); repeat (first | (refine ⟨_, rfl, (by first | assumption | rfl | exact fzL_ints _ | exact fzL_strs _ | exact fz_ints _ | exact fz_strs _), ?_⟩; conv => whnf) | (refine ⟨_, rfl, ?_⟩; conv => whnf) | (refine And.intro rfl ?_; conv => whnf) | (refine And.intro (by first | assumption | decide | omega) ?_; conv => whnf) | (refine And.intro (by first | assumption | rfl | exact fzL_ints _ | exact fzL_strs _ | exact fz_ints _ | exact fz_strs _) ?_; conv => whnf) | (refine And.intro (And.intro (by first | assumption | decide | omega) (by first | assumption | decide | omega)) ?_; conv => whnf) | (refine And.intro (And.intro (And.intro (by first | assumption | decide | omega) (by first | assumption | decide | omega)) (And.intro (by first | assumption | decide | omega) (by first | assumption | decide | omega))) ?_; conv => whnf) | (refine And.intro (And.intro (by first | assumption | rfl | exact fzL_ints _ | exact fzL_strs _ | exact fz_ints _ | exact fz_strs _) (And.intro (by first | assumption | rfl | exact fzL_ints _ | exact fzL_strs _ | exact fz_ints _ | exact fz_strs _) (by first | assumption | rfl | exact fzL_ints _ | exact fzL_strs _ | exact fz_ints _ | exact fz_strs _))) ?_; conv => whnf) | (refine And.intro (by first | exact Or.inl (by decide) | exact Or.inr (by decide)) ?_; conv => whnf) | (refine Or.inl (And.intro (by first | assumption | rfl | exact fzL_ints _ | exact fzL_strs _ | exact fz_ints _ | exact fz_strs _) ?_); conv => whnf) | (refine ⟨fun _ => ?_, fun z => Bool.noConfusion z⟩; conv => whnf) | (refine ⟨fun z => Bool.noConfusion z, fun _ => ?_⟩; conv => whnf) | (intro p0 z; rw [frz_lstp (by first | assumption | rfl | exact fzL_ints _ | exact fzL_strs _ | exact fz_ints _ | exact fz_strs _)] at z; subst z; conv => whnf) | (intro p0 z; rw [PV.fz_frz _ (by first | assumption | rfl | exact fzL_ints _ | exact fzL_strs _ | exact fz_ints _ | exact fz_strs _)] at z; subst z; conv => whnf))
    exact h _ _ _ _ (Int.emod_nonneg _ (by omega)) (Int.emod_lt_of_pos _ hm)
/-! comprehensions, loops: their heads -/
theorem zK_in {tg : IT} {own : List Nat} {ifs : Fr → (Bool → Fr → Prop) → Prop} {elt : Fr → (PV → Fr → Prop) → Prop} {xs : List PV} {ρ : Fr} {Q : PV → Fr → Prop} (I : List PV → List PV → Fr → Prop) (h0 : I xs [] (wipeF (frzAt ρ own) own)) (hk : ∀ ys ρ2, I [] ys ρ2 → Q (.lst true ys) (backAt (frzAt ρ own) ρ2 own))
    (step : ∀ x r acc ρ, I (x :: r) acc ρ → ∃ ρ2, asg tg x ρ = some ρ2 ∧ ifs ρ2 fun k ρ3 => (k = true → elt ρ3 fun y ρ4 => ∃ y', y.frz = y' ∧ acc.length < sizeLine ∧ I r (acc ++ [y']) (wipeF ρ4 own)) ∧ (k = false → I r acc (wipeF ρ3 own))) : zK tg own ifs elt xs ρ Q := by
  unfold zK
  exact ⟨I, h0, hk, step⟩
theorem zF_in {tg : IT} {body : Fr → (Fl → Fr → Prop) → Prop} {xs : List PV} {ρ : Fr} {Q : Fl → Fr → Prop} {E : PX → Fr → Prop} (I : List PV → Fr → Prop) (h0 : I xs ρ) (hk : ∀ ρ, I [] ρ → Q .nx ρ) (step : ∀ x r ρ, I (x :: r) ρ → ∃ ρ2, asg tg x ρ = some ρ2 ∧ body ρ2 fun f ρ1 => match f with
    | .nx => I r ρ1
    | .ct => I r ρ1
    | .bk => Q .nx ρ1
    | .rt p => Q (.rt p) ρ1) : zF tg body xs ρ Q E := by
  unfold zF
  exact ⟨I, h0, hk, step⟩
theorem zKv_in {tg : IT} {own : List Nat} {i : Nat} {ifs : Fr → (Bool → Fr → Prop) → Prop} {elt : Fr → (PV → Fr → Prop) → Prop} {n : Nat} {ρ : Fr} {Q : PV → Fr → Prop} (ho : own.contains i = false) (I : Nat → List PV → Fr → Prop) (h0 : I 0 [] (wipeF (frzAt ρ own) own)) (hk : ∀ ys ρ2, I n ys ρ2 → vwLen ρ2 i n = true ∧ Q (.lst true ys) (backAt (frzAt ρ own) ρ2 own))
    (step : ∀ j acc ρ, j < n → I j acc ρ → ∃ x ρ2, vwAt ρ i n j = some x ∧ asg tg x ρ = some ρ2 ∧ ifs ρ2 fun k ρ3 => (k = true → elt ρ3 fun y ρ4 => ∃ y', y.frz = y' ∧ acc.length < sizeLine ∧ I (j + 1) (acc ++ [y']) (wipeF ρ4 own)) ∧ (k = false → I (j + 1) acc (wipeF ρ3 own))) : zKv tg own i ifs elt n ρ Q := by
  unfold zKv
  exact ⟨ho, I, h0, hk, step⟩
theorem zFv_in {tg : IT} {i : Nat} {body : Fr → (Fl → Fr → Prop) → Prop} {n : Nat} {ρ : Fr} {Q : Fl → Fr → Prop} {E : PX → Fr → Prop} (I : Nat → Fr → Prop) (h0 : I 0 ρ) (hk : ∀ ρ, I n ρ → vwLen ρ i n = true ∧ Q .nx ρ) (step : ∀ j ρ, j < n → I j ρ → ∃ x ρ2, vwAt ρ i n j = some x ∧ asg tg x ρ = some ρ2 ∧ body ρ2 fun f ρ1 => match f with
    | .nx => I (j + 1) ρ1
    | .ct => I (j + 1) ρ1
    | .bk => Q .nx ρ1
    | .rt p => Q (.rt p) ρ1) : zFv tg i body n ρ Q E := by
  unfold zFv
  exact ⟨I, h0, hk, step⟩
theorem zC_mono {f : Str → List PV → CR} {k : Str} {as : List PV} {Q Q' : PV → Fr → Prop} {E : PX → Fr → Prop} (h : zC f k as Q' E) (i : ∀ a ρ, Q' a ρ → Q a ρ) : zC f k as Q E := zC_ok.mpr ((zC_ok.mp h).mono i)
/-! the pot -/
def potB : List IS := [
  .ret (.lst [.op (.bin .Add) [.op .list [.loc 0], .op (.bin .Mult) [.lst [.cst (.int 0)], .op .int [.op (.cmp .Eq) [.op .len [.loc 0], .cst (.int 0)]]]], .cst (.int 0), .cst (.int 0), .cst (.int 0)])]
theorem pot_ok {T : Tb} {fuel n : Nat} (hT : T ("_law_pot" : Str) = some ⟨1, 1, [true], potB⟩) {ns : List Int} (hl : ns.length ≤ 63) {Q : PV → Fr → Prop} {E : PX → Fr → Prop} (h : ∀ cs, cs ≠ [] → Q (potP cs 0 0 0) [some (.lck (ns.map .int))]) :
    zC (callN T fuel (n + 1)) ("_law_pot" : Str) [.lck (ns.map .int)] Q E := by
  have hf : (PV.lck (ns.map .int)).fz = true := by simp [PV.fz, fzL_ints]
  have hf2 : PV.fzL (ns.map .int) = true := fzL_ints ns
  cases ns with
  | nil =>
    refine run_ok hT rfl ?_
    (conv => whnf); repeat (first | (refine ⟨_, rfl, (by first | assumption | rfl | exact fzL_ints _ | exact fzL_strs _ | exact fz_ints _ | exact fz_strs _), ?_⟩; conv => whnf) | (refine ⟨_, rfl, ?_⟩; conv => whnf) | (refine And.intro rfl ?_; conv => whnf) | (refine And.intro (by first | assumption | decide | omega) ?_; conv => whnf) | (refine And.intro (by first | assumption | rfl | exact fzL_ints _ | exact fzL_strs _ | exact fz_ints _ | exact fz_strs _) ?_; conv => whnf) | (refine And.intro (And.intro (by first | assumption | decide | omega) (by first | assumption | decide | omega)) ?_; conv => whnf) | (refine And.intro (And.intro (And.intro (by first | assumption | decide | omega) (by first | assumption | decide | omega)) (And.intro (by first | assumption | decide | omega) (by first | assumption | decide | omega))) ?_; conv => whnf) | (refine And.intro (And.intro (by first | assumption | rfl | exact fzL_ints _ | exact fzL_strs _ | exact fz_ints _ | exact fz_strs _) (And.intro (by first | assumption | rfl | exact fzL_ints _ | exact fzL_strs _ | exact fz_ints _ | exact fz_strs _) (by first | assumption | rfl | exact fzL_ints _ | exact fzL_strs _ | exact fz_ints _ | exact fz_strs _))) ?_; conv => whnf) | (refine And.intro (by first | exact Or.inl (by decide) | exact Or.inr (by decide)) ?_; conv => whnf) | (refine Or.inl (And.intro (by first | assumption | rfl | exact fzL_ints _ | exact fzL_strs _ | exact fz_ints _ | exact fz_strs _) ?_); conv => whnf) | (refine ⟨fun _ => ?_, fun z => Bool.noConfusion z⟩; conv => whnf) | (refine ⟨fun z => Bool.noConfusion z, fun _ => ?_⟩; conv => whnf) | (intro p0 z; rw [frz_lstp (by first | assumption | rfl | exact fzL_ints _ | exact fzL_strs _ | exact fz_ints _ | exact fz_strs _)] at z; subst z; conv => whnf) | (intro p0 z; rw [PV.fz_frz _ (by first | assumption | rfl | exact fzL_ints _ | exact fzL_strs _ | exact fz_ints _ | exact fz_strs _)] at z; subst z; conv => whnf))
    exact h [0] (by simp)
  | cons a ns =>
    have hl2 : okS ((a :: ns).map PV.int).length = true := by
      simp only [List.length_map, List.length_cons] at hl ⊢
      exact decide_eq_true (Nat.le_trans hl (by decide))
    have hf3 : PV.fzL ((a :: ns).map .int ++ []) = true := by rw [List.append_nil]; exact hf2
    have he : decide ((((a :: ns).map PV.int).length : Int) = 0) = false := decide_eq_false (by simp; omega)
    refine run_ok hT rfl ?_
    (conv => whnf); repeat (first | (refine ⟨_, rfl, (by first | assumption | rfl | exact fzL_ints _ | exact fzL_strs _ | exact fz_ints _ | exact fz_strs _), ?_⟩; conv => whnf) | (refine ⟨_, rfl, ?_⟩; conv => whnf) | (refine And.intro rfl ?_; conv => whnf) | (refine And.intro (by first | assumption | decide | omega) ?_; conv => whnf) | (refine And.intro (by first | assumption | rfl | exact fzL_ints _ | exact fzL_strs _ | exact fz_ints _ | exact fz_strs _) ?_; conv => whnf) | (refine And.intro (And.intro (by first | assumption | decide | omega) (by first | assumption | decide | omega)) ?_; conv => whnf) | (refine And.intro (And.intro (And.intro (by first | assumption | decide | omega) (by first | assumption | decide | omega)) (And.intro (by first | assumption | decide | omega) (by first | assumption | decide | omega))) ?_; conv => whnf) | (refine And.intro (And.intro (by first | assumption | rfl | exact fzL_ints _ | exact fzL_strs _ | exact fz_ints _ | exact fz_strs _) (And.intro (by first | assumption | rfl | exact fzL_ints _ | exact fzL_strs _ | exact fz_ints _ | exact fz_strs _) (by first | assumption | rfl | exact fzL_ints _ | exact fzL_strs _ | exact fz_ints _ | exact fz_strs _))) ?_; conv => whnf) | (refine And.intro (by first | exact Or.inl (by decide) | exact Or.inr (by decide)) ?_; conv => whnf) | (refine Or.inl (And.intro (by first | assumption | rfl | exact fzL_ints _ | exact fzL_strs _ | exact fz_ints _ | exact fz_strs _) ?_); conv => whnf) | (refine ⟨fun _ => ?_, fun z => Bool.noConfusion z⟩; conv => whnf) | (refine ⟨fun z => Bool.noConfusion z, fun _ => ?_⟩; conv => whnf) | (intro p0 z; rw [frz_lstp (by first | assumption | rfl | exact fzL_ints _ | exact fzL_strs _ | exact fz_ints _ | exact fz_strs _)] at z; subst z; conv => whnf) | (intro p0 z; rw [PV.fz_frz _ (by first | assumption | rfl | exact fzL_ints _ | exact fzL_strs _ | exact fz_ints _ | exact fz_strs _)] at z; subst z; conv => whnf))
    rw [he]
    simp only [Bool.false_eq_true, if_false, Int.toNat_zero, List.replicate_zero, List.flatten_nil, List.append_nil]
    exact h (a :: ns) (by simp)
/-! texts -/
theorem join0 : ∀ ss : List Str, (Txt.join ("" : Str) ss).cps.toList = (ss.map fun s => s.cps.toList).flatten := fun ss => by
  rw [show Txt.join ("" : Str) ss = Str.join ("" : Str) ss from TL.join_eq _ _]
  induction ss with
  | nil => rfl
  | cons x r ih =>
    cases r with
    | nil => simp [Str.join]
    | cons y r =>
      rw [show Str.join ("" : Str) (x :: y :: r) = x ++ ("" : Str) ++ Str.join ("" : Str) (y :: r) from rfl]
      show ((x.cps ++ ("" : Str).cps) ++ (Str.join ("" : Str) (y :: r)).cps).toList = _
      rw [Array.toList_append, Array.toList_append, ih, show ("" : Str).cps.toList = [] from by decide +kernel]
      simp
theorem str_len (s : Str) : s.length = s.cps.toList.length := by simp [Str.length]
theorem strsP_mk : ∀ ss : List Str, strsP (ss.map .str) = some ss
  | [] => rfl
  | s :: ss => by simp [strsP, strsP_mk ss]
theorem intsP_mk : ∀ ss : List Int, intsP (ss.map .int) = some ss
  | [] => rfl
  | s :: ss => by simp [intsP, intsP_mk ss]
theorem n_join {z : Str} {o : Bool} {ss : List Str} (h : (ss.map (·.length)).sum + ss.length * z.length ≤ 16777216) : opN .join [.str z, .lst o (ss.map .str)] = some (.str (Txt.join z ss)) := by
  show joinP _ _ = _
  unfold joinP
  simp only [lstOf, Option.bind, strsP_mk]
  rw [if_pos (decide_eq_true h)]
theorem rng_one {d : Int} (h0 : -(2 ^ 62) ≤ d) (h1 : d < 2 ^ 62) : rngN [.int d] = some (rngI 0 d.toNat) := by
  show (if small62 d then _ else none) = _
  rw [if_pos (show small62 d = true from decide_eq_true ⟨h0, h1⟩)]
theorem rng_len : ∀ (n : Nat) (lo : Int), (rngI lo n).length = n
  | 0, _ => rfl
  | n + 1, lo => by simp [rngI, rng_len n]
theorem len0 : ("" : Str).length = 0 := by decide +kernel
theorem sum_ones : ∀ ss : List Str, (∀ s ∈ ss, s.length = 1) → (ss.map (·.length)).sum = ss.length
  | [], _ => rfl
  | s :: ss, h => by
    have h1 := h s List.mem_cons_self
    have h2 := sum_ones ss fun t ht => h t (List.mem_cons_of_mem _ ht)
    simp [h1, h2]
    omega
theorem flat_len : ∀ ss : List Str, (ss.map fun s => s.cps.toList).flatten.length = (ss.map (·.length)).sum
  | [] => rfl
  | s :: ss => by simp [flat_len ss, str_len]
/-! a text of the law's signs -/
def signs : Str := " !\"#$&'()*+,-./0123456789:;<=>?@ABCDEFGHIJKLMNOPQRSTUVWXYZ[\\]^_`abcdefghijklmnopqrstuvwxyz{|}~"
theorem signs_len : signs.cps.toList.length = 94 := by decide +kernel
theorem signs_ok : okS signs.length = true := by decide +kernel
theorem signs_all : ∀ x ∈ signs.cps.toList, 32 ≤ x ∧ x ≤ 126 := by decide +kernel
def textB : List IS := [
  .set 2 (.cst (.str " !\"#$&'()*+,-./0123456789:;<=>?@ABCDEFGHIJKLMNOPQRSTUVWXYZ[\\]^_`abcdefghijklmnopqrstuvwxyz{|}~")),
  .set 3 (.call "_law_draw" [true, true] [.loc 0, .op (.bin .Add) [.loc 1, .cst (.int 1)]]),
  .ret (.op .join [.cst (.str ""), .comp (.op .ix [.loc 2, .call "_law_draw" [true, true] [.loc 0, .cst (.int 94)]]) (.nm 4) (.rng [.loc 3]) [] [4]])]
/-- at most m signs, each from the blank to the tilde -/
def Plain (m : Int) (s : Str) : Prop := (s.length : Int) ≤ m ∧ ∀ x ∈ s.cps.toList, 32 ≤ x ∧ x ≤ 126
theorem text_ok {T : Tb} {fuel n : Nat} (hD : T ("_law_draw" : Str) = some ⟨5, 2, [true, true], drawB⟩) (hT : T ("_law_text" : Str) = some ⟨5, 2, [true, true], textB⟩) {cs : List Int} {i r k m : Int} (hc : cs ≠ []) (hm : 0 ≤ m) (hm2 : m ≤ 1000) {Q : PV → Fr → Prop} {E : PX → Fr → Prop}
    (h : ∀ s i' r' k', Plain m s → Q (.str s) [some (potP cs i' r' k'), some (.int m)]) : zC (callN T fuel (n + 2)) ("_law_text" : Str) [potP cs i r k, .int m] Q E := by
  refine run_ok hT rfl ?_
  (conv => whnf); repeat (first | (refine ⟨_, rfl, (by first | assumption | rfl | exact fzL_ints _ | exact fzL_strs _ | exact fz_ints _ | exact fz_strs _), ?_⟩; conv => whnf) | (refine ⟨_, rfl, ?_⟩; conv => whnf) | (refine And.intro rfl ?_; conv => whnf) | (refine And.intro (by first | assumption | decide | omega) ?_; conv => whnf) | (refine And.intro (by first | assumption | rfl | exact fzL_ints _ | exact fzL_strs _ | exact fz_ints _ | exact fz_strs _) ?_; conv => whnf) | (refine And.intro (And.intro (by first | assumption | decide | omega) (by first | assumption | decide | omega)) ?_; conv => whnf) | (refine And.intro (And.intro (And.intro (by first | assumption | decide | omega) (by first | assumption | decide | omega)) (And.intro (by first | assumption | decide | omega) (by first | assumption | decide | omega))) ?_; conv => whnf) | (refine And.intro (And.intro (by first | assumption | rfl | exact fzL_ints _ | exact fzL_strs _ | exact fz_ints _ | exact fz_strs _) (And.intro (by first | assumption | rfl | exact fzL_ints _ | exact fzL_strs _ | exact fz_ints _ | exact fz_strs _) (by first | assumption | rfl | exact fzL_ints _ | exact fzL_strs _ | exact fz_ints _ | exact fz_strs _))) ?_; conv => whnf) | (refine And.intro (by first | exact Or.inl (by decide) | exact Or.inr (by decide)) ?_; conv => whnf) | (refine Or.inl (And.intro (by first | assumption | rfl | exact fzL_ints _ | exact fzL_strs _ | exact fz_ints _ | exact fz_strs _) ?_); conv => whnf) | (refine ⟨fun _ => ?_, fun z => Bool.noConfusion z⟩; conv => whnf) | (refine ⟨fun z => Bool.noConfusion z, fun _ => ?_⟩; conv => whnf) | (intro p0 z; rw [frz_lstp (by first | assumption | rfl | exact fzL_ints _ | exact fzL_strs _ | exact fz_ints _ | exact fz_strs _)] at z; subst z; conv => whnf) | (intro p0 z; rw [PV.fz_frz _ (by first | assumption | rfl | exact fzL_ints _ | exact fzL_strs _ | exact fz_ints _ | exact fz_strs _)] at z; subst z; conv => whnf))
  refine draw_ok hD hc (by omega) (lg (by omega) (by omega)) fun d i1 r1 k1 hd0 hd1 => ?_
  (conv => whnf); repeat (first | (refine ⟨_, rfl, (by first | assumption | rfl | exact fzL_ints _ | exact fzL_strs _ | exact fz_ints _ | exact fz_strs _), ?_⟩; conv => whnf) | (refine ⟨_, rfl, ?_⟩; conv => whnf) | (refine And.intro rfl ?_; conv => whnf) | (refine And.intro (by first | assumption | decide | omega) ?_; conv => whnf) | (refine And.intro (by first | assumption | rfl | exact fzL_ints _ | exact fzL_strs _ | exact fz_ints _ | exact fz_strs _) ?_; conv => whnf) | (refine And.intro (And.intro (by first | assumption | decide | omega) (by first | assumption | decide | omega)) ?_; conv => whnf) | (refine And.intro (And.intro (And.intro (by first | assumption | decide | omega) (by first | assumption | decide | omega)) (And.intro (by first | assumption | decide | omega) (by first | assumption | decide | omega))) ?_; conv => whnf) | (refine And.intro (And.intro (by first | assumption | rfl | exact fzL_ints _ | exact fzL_strs _ | exact fz_ints _ | exact fz_strs _) (And.intro (by first | assumption | rfl | exact fzL_ints _ | exact fzL_strs _ | exact fz_ints _ | exact fz_strs _) (by first | assumption | rfl | exact fzL_ints _ | exact fzL_strs _ | exact fz_ints _ | exact fz_strs _))) ?_; conv => whnf) | (refine And.intro (by first | exact Or.inl (by decide) | exact Or.inr (by decide)) ?_; conv => whnf) | (refine Or.inl (And.intro (by first | assumption | rfl | exact fzL_ints _ | exact fzL_strs _ | exact fz_ints _ | exact fz_strs _) ?_); conv => whnf) | (refine ⟨fun _ => ?_, fun z => Bool.noConfusion z⟩; conv => whnf) | (refine ⟨fun z => Bool.noConfusion z, fun _ => ?_⟩; conv => whnf) | (intro p0 z; rw [frz_lstp (by first | assumption | rfl | exact fzL_ints _ | exact fzL_strs _ | exact fz_ints _ | exact fz_strs _)] at z; subst z; conv => whnf) | (intro p0 z; rw [PV.fz_frz _ (by first | assumption | rfl | exact fzL_ints _ | exact fzL_strs _ | exact fz_ints _ | exact fz_strs _)] at z; subst z; conv => whnf))
  refine zK_in (fun rest acc ρ => (∃ i2 r2 k2, ρ = [some (potP cs i2 r2 k2), some (.int m), some (.str signs), some (.int d), none]) ∧ ∃ ss : List Str, acc = ss.map .str ∧ (∀ s ∈ ss, s.length = 1 ∧ ∀ x ∈ s.cps.toList, 32 ≤ x ∧ x ≤ 126) ∧ ss.length + rest.length = d.toNat) ?_ ?_ ?_
  · exact ⟨⟨_, _, _, rfl⟩, [], rfl, by simp, by simp [rng_len]⟩
  · rintro _ _ ⟨⟨i2, r2, k2, rfl⟩, ss, rfl, hs, hl⟩
    (conv => whnf); repeat (first | (refine ⟨_, rfl, (by first | assumption | rfl | exact fzL_ints _ | exact fzL_strs _ | exact fz_ints _ | exact fz_strs _), ?_⟩; conv => whnf) | (refine ⟨_, rfl, ?_⟩; conv => whnf) | (refine And.intro rfl ?_; conv => whnf) | (refine And.intro (by first | assumption | decide | omega) ?_; conv => whnf) | (refine And.intro (by first | assumption | rfl | exact fzL_ints _ | exact fzL_strs _ | exact fz_ints _ | exact fz_strs _) ?_; conv => whnf) | (refine And.intro (And.intro (by first | assumption | decide | omega) (by first | assumption | decide | omega)) ?_; conv => whnf) | (refine And.intro (And.intro (And.intro (by first | assumption | decide | omega) (by first | assumption | decide | omega)) (And.intro (by first | assumption | decide | omega) (by first | assumption | decide | omega))) ?_; conv => whnf) | (refine And.intro (And.intro (by first | assumption | rfl | exact fzL_ints _ | exact fzL_strs _ | exact fz_ints _ | exact fz_strs _) (And.intro (by first | assumption | rfl | exact fzL_ints _ | exact fzL_strs _ | exact fz_ints _ | exact fz_strs _) (by first | assumption | rfl | exact fzL_ints _ | exact fzL_strs _ | exact fz_ints _ | exact fz_strs _))) ?_; conv => whnf) | (refine And.intro (by first | exact Or.inl (by decide) | exact Or.inr (by decide)) ?_; conv => whnf) | (refine Or.inl (And.intro (by first | assumption | rfl | exact fzL_ints _ | exact fzL_strs _ | exact fz_ints _ | exact fz_strs _) ?_); conv => whnf) | (refine ⟨fun _ => ?_, fun z => Bool.noConfusion z⟩; conv => whnf) | (refine ⟨fun z => Bool.noConfusion z, fun _ => ?_⟩; conv => whnf) | (intro p0 z; rw [frz_lstp (by first | assumption | rfl | exact fzL_ints _ | exact fzL_strs _ | exact fz_ints _ | exact fz_strs _)] at z; subst z; conv => whnf) | (intro p0 z; rw [PV.fz_frz _ (by first | assumption | rfl | exact fzL_ints _ | exact fzL_strs _ | exact fz_ints _ | exact fz_strs _)] at z; subst z; conv => whnf))
    have hsum := sum_ones ss fun s hs' => (hs s hs').1
    have hl' : ss.length = d.toNat := by simpa using hl
    refine ⟨_, n_join (by rw [hsum, len0, hl']; omega), ?_⟩
    (conv => whnf); repeat (first | (refine ⟨_, rfl, (by first | assumption | rfl | exact fzL_ints _ | exact fzL_strs _ | exact fz_ints _ | exact fz_strs _), ?_⟩; conv => whnf) | (refine ⟨_, rfl, ?_⟩; conv => whnf) | (refine And.intro rfl ?_; conv => whnf) | (refine And.intro (by first | assumption | decide | omega) ?_; conv => whnf) | (refine And.intro (by first | assumption | rfl | exact fzL_ints _ | exact fzL_strs _ | exact fz_ints _ | exact fz_strs _) ?_; conv => whnf) | (refine And.intro (And.intro (by first | assumption | decide | omega) (by first | assumption | decide | omega)) ?_; conv => whnf) | (refine And.intro (And.intro (And.intro (by first | assumption | decide | omega) (by first | assumption | decide | omega)) (And.intro (by first | assumption | decide | omega) (by first | assumption | decide | omega))) ?_; conv => whnf) | (refine And.intro (And.intro (by first | assumption | rfl | exact fzL_ints _ | exact fzL_strs _ | exact fz_ints _ | exact fz_strs _) (And.intro (by first | assumption | rfl | exact fzL_ints _ | exact fzL_strs _ | exact fz_ints _ | exact fz_strs _) (by first | assumption | rfl | exact fzL_ints _ | exact fzL_strs _ | exact fz_ints _ | exact fz_strs _))) ?_; conv => whnf) | (refine And.intro (by first | exact Or.inl (by decide) | exact Or.inr (by decide)) ?_; conv => whnf) | (refine Or.inl (And.intro (by first | assumption | rfl | exact fzL_ints _ | exact fzL_strs _ | exact fz_ints _ | exact fz_strs _) ?_); conv => whnf) | (refine ⟨fun _ => ?_, fun z => Bool.noConfusion z⟩; conv => whnf) | (refine ⟨fun z => Bool.noConfusion z, fun _ => ?_⟩; conv => whnf) | (intro p0 z; rw [frz_lstp (by first | assumption | rfl | exact fzL_ints _ | exact fzL_strs _ | exact fz_ints _ | exact fz_strs _)] at z; subst z; conv => whnf) | (intro p0 z; rw [PV.fz_frz _ (by first | assumption | rfl | exact fzL_ints _ | exact fzL_strs _ | exact fz_ints _ | exact fz_strs _)] at z; subst z; conv => whnf))
    refine h _ _ _ _ ⟨?_, ?_⟩
    · rw [str_len, join0, flat_len, hsum, hl']
      omega
    · rw [join0]
      intro x hx
      obtain ⟨l, hl1, hl2⟩ := List.mem_flatten.mp hx
      obtain ⟨s, hs1, rfl⟩ := List.mem_map.mp hl1
      exact (hs s hs1).2 x hl2
  · rintro x r acc _ ⟨⟨i2, r2, k2, rfl⟩, ss, rfl, hs, hl⟩
    refine ⟨_, rfl, ?_⟩
    (conv => whnf); repeat (first | (refine ⟨_, rfl, (by first | assumption | rfl | exact fzL_ints _ | exact fzL_strs _ | exact fz_ints _ | exact fz_strs _), ?_⟩; conv => whnf) | (refine ⟨_, rfl, ?_⟩; conv => whnf) | (refine And.intro rfl ?_; conv => whnf) | (refine And.intro (by first | assumption | decide | omega) ?_; conv => whnf) | (refine And.intro (by first | assumption | rfl | exact fzL_ints _ | exact fzL_strs _ | exact fz_ints _ | exact fz_strs _) ?_; conv => whnf) | (refine And.intro (And.intro (by first | assumption | decide | omega) (by first | assumption | decide | omega)) ?_; conv => whnf) | (refine And.intro (And.intro (And.intro (by first | assumption | decide | omega) (by first | assumption | decide | omega)) (And.intro (by first | assumption | decide | omega) (by first | assumption | decide | omega))) ?_; conv => whnf) | (refine And.intro (And.intro (by first | assumption | rfl | exact fzL_ints _ | exact fzL_strs _ | exact fz_ints _ | exact fz_strs _) (And.intro (by first | assumption | rfl | exact fzL_ints _ | exact fzL_strs _ | exact fz_ints _ | exact fz_strs _) (by first | assumption | rfl | exact fzL_ints _ | exact fzL_strs _ | exact fz_ints _ | exact fz_strs _))) ?_; conv => whnf) | (refine And.intro (by first | exact Or.inl (by decide) | exact Or.inr (by decide)) ?_; conv => whnf) | (refine Or.inl (And.intro (by first | assumption | rfl | exact fzL_ints _ | exact fzL_strs _ | exact fz_ints _ | exact fz_strs _) ?_); conv => whnf) | (refine ⟨fun _ => ?_, fun z => Bool.noConfusion z⟩; conv => whnf) | (refine ⟨fun z => Bool.noConfusion z, fun _ => ?_⟩; conv => whnf) | (intro p0 z; rw [frz_lstp (by first | assumption | rfl | exact fzL_ints _ | exact fzL_strs _ | exact fz_ints _ | exact fz_strs _)] at z; subst z; conv => whnf) | (intro p0 z; rw [PV.fz_frz _ (by first | assumption | rfl | exact fzL_ints _ | exact fzL_strs _ | exact fz_ints _ | exact fz_strs _)] at z; subst z; conv => whnf))
    refine draw_ok hD hc (by decide) (lg (by decide) (by decide)) fun j i3 r3 k3 hj0 hj1 => ?_
    (conv => whnf); repeat (first | (refine ⟨_, rfl, (by first | assumption | rfl | exact fzL_ints _ | exact fzL_strs _ | exact fz_ints _ | exact fz_strs _), ?_⟩; conv => whnf) | (refine ⟨_, rfl, ?_⟩; conv => whnf) | (refine And.intro rfl ?_; conv => whnf) | (refine And.intro (by first | assumption | decide | omega) ?_; conv => whnf) | (refine And.intro (by first | assumption | rfl | exact fzL_ints _ | exact fzL_strs _ | exact fz_ints _ | exact fz_strs _) ?_; conv => whnf) | (refine And.intro (And.intro (by first | assumption | decide | omega) (by first | assumption | decide | omega)) ?_; conv => whnf) | (refine And.intro (And.intro (And.intro (by first | assumption | decide | omega) (by first | assumption | decide | omega)) (And.intro (by first | assumption | decide | omega) (by first | assumption | decide | omega))) ?_; conv => whnf) | (refine And.intro (And.intro (by first | assumption | rfl | exact fzL_ints _ | exact fzL_strs _ | exact fz_ints _ | exact fz_strs _) (And.intro (by first | assumption | rfl | exact fzL_ints _ | exact fzL_strs _ | exact fz_ints _ | exact fz_strs _) (by first | assumption | rfl | exact fzL_ints _ | exact fzL_strs _ | exact fz_ints _ | exact fz_strs _))) ?_; conv => whnf) | (refine And.intro (by first | exact Or.inl (by decide) | exact Or.inr (by decide)) ?_; conv => whnf) | (refine Or.inl (And.intro (by first | assumption | rfl | exact fzL_ints _ | exact fzL_strs _ | exact fz_ints _ | exact fz_strs _) ?_); conv => whnf) | (refine ⟨fun _ => ?_, fun z => Bool.noConfusion z⟩; conv => whnf) | (refine ⟨fun z => Bool.noConfusion z, fun _ => ?_⟩; conv => whnf) | (intro p0 z; rw [frz_lstp (by first | assumption | rfl | exact fzL_ints _ | exact fzL_strs _ | exact fz_ints _ | exact fz_strs _)] at z; subst z; conv => whnf) | (intro p0 z; rw [PV.fz_frz _ (by first | assumption | rfl | exact fzL_ints _ | exact fzL_strs _ | exact fz_ints _ | exact fz_strs _)] at z; subst z; conv => whnf))
    obtain ⟨z, hz1, hz2, _⟩ := atI_in (xs := signs.cps.toList) hj0 (by rw [signs_len]; exact hj1)
    refine ⟨z, hz1, ?_⟩
    refine ⟨_, rfl, ?_, ⟨_, _, _, rfl⟩, ss ++ [⟨#[z]⟩], by simp [PV.frz], ?_, ?_⟩
    · rw [List.length_map]
      have : ss.length ≤ 1001 := by simp at hl; omega
      exact Nat.lt_of_le_of_lt this (by decide)
    · intro s hs'
      rcases List.mem_append.mp hs' with h1 | h1
      · exact hs s h1
      · rw [List.mem_singleton] at h1
        subst h1
        exact ⟨rfl, fun x hx => by simp at hx; subst hx; exact signs_all _ hz2⟩
    · simp at hl ⊢
      omega
end Y
end
section
set_option Elab.async false
set_option linter.all false
set_option maxRecDepth 100000
set_option maxHeartbeats 2000000
set_option autoImplicit false
/-! V5: pools, files, draws out of a list. -/
namespace Y
open PySem
theorem atI_map {α β : Type} {f : α → β} {xs : List α} {j : Nat} (h : j < xs.length) : L2.atI (xs.map f) (j : Int) = some (f xs[j]) := L2.atI_nat (by simp [h])
theorem datL_strs : ∀ a : List Str, PV.datL (a.map .str) = some (a.map .str)
  | [] => rfl
  | x :: a => by simp [PV.datL, PV.dat, datL_strs a]
theorem all_flat_strs : ∀ a : List Str, (a.map PV.str).all flat = true
  | [] => rfl
  | x :: a => by rw [List.map_cons, List.all_cons, all_flat_strs a]; rfl
theorem any_strs (w : Str) : ∀ a : List Str, ((a.map PyData.str).any fun z => PyData.eqv z (.str w)) = decide (w ∈ a)
  | [] => by simp
  | x :: a => by
    rw [List.map_cons, List.any_cons, any_strs w a, eqv_str]
    by_cases h : x = w
    · simp [h]
    · have : ¬ w = x := fun z => h z.symm
      simp [h, this]
theorem n_in {o : Bool} {w : Str} {ls : List Str} : opN (.cmp .In) [.str w, .lst o (ls.map .str)] = some (.bl (decide (w ∈ ls))) := by
  show (cmpN .In _ _).map _ = _
  simp only [cmpN, all_flat_strs, flat, Bool.and_self, if_true, flatIn, PV.dat, datL_strs, any_strs, Option.map]
theorem n_notin {o : Bool} {w : Str} {ls : List Str} : opN (.cmp .NotIn) [.str w, .lst o (ls.map .str)] = some (.bl (!decide (w ∈ ls))) := by
  show (cmpN .NotIn _ _).map _ = _
  simp only [cmpN, all_flat_strs, flat, Bool.and_self, if_true, flatIn, PV.dat, datL_strs, any_strs, Option.map]
theorem maxI_ge : ∀ (l : List Int) (a x : Int), x ∈ a :: l → x ≤ maxI a l
  | [], a, x, h => by
    simp at h
    simp [maxI, h]
  | b :: l, a, x, h => by
    rw [maxI]
    rcases List.mem_cons.mp h with rfl | h
    · refine Int.le_trans ?_ (maxI_ge l _ _ List.mem_cons_self)
      split <;> omega
    · rcases List.mem_cons.mp h with rfl | h
      · refine Int.le_trans ?_ (maxI_ge l _ _ List.mem_cons_self)
        split <;> omega
      · exact maxI_ge l _ _ (List.mem_cons_of_mem _ h)
theorem maxI_in : ∀ (l : List Int) (a : Int), maxI a l ∈ a :: l
  | [], a => by simp [maxI]
  | b :: l, a => by
    rw [maxI]
    have := maxI_in l (if b > a then b else a)
    rcases List.mem_cons.mp this with h | h
    · rw [h]
      split <;> simp
    · exact List.mem_cons_of_mem _ (List.mem_cons_of_mem _ h)
theorem n_max {o : Bool} {n : Int} {ns : List Int} : opN .max [.lst o ((n :: ns).map .int)] = some (.int (maxI n ns)) := by
  show maxP _ = _
  simp only [maxP, lstOf, Option.bind, intsP_mk]
theorem fold_app : ∀ (l : List (Array Nat)) (a : Array Nat), (l.foldl (· ++ ·) a).toList = a.toList ++ (l.map (·.toList)).flatten
  | [], a => by simp
  | x :: l, a => by
    rw [List.foldl_cons, fold_app l]
    simp
theorem mul_list (x : Str) {n : Int} (h : 1 ≤ n) : (Txt.mul x n).cps.toList = (List.replicate n.toNat x.cps.toList).flatten := by
  unfold Txt.mul
  rw [if_neg (by omega)]
  split
  · rename_i hh
    simp only [Bool.or_eq_true, beq_iff_eq] at hh
    rcases hh with rfl | hh
    · simp
    · have : x.cps.toList = [] := by
        rw [str_len] at hh
        exact List.eq_nil_of_length_eq_zero hh
      rw [this]
      simp
  · show ((List.replicate n.toNat x.cps).foldl (· ++ ·) #[]).toList = _
    rw [fold_app]
    simp
theorem zed : ("z" : Str).cps.toList = [122] := by decide +kernel
theorem mul_z {n : Int} (h : 1 ≤ n) : (Txt.mul ("z" : Str) n).cps.toList = List.replicate n.toNat 122 := by
  rw [mul_list _ h, zed]
  simp [List.flatten_replicate_singleton]
theorem n_mul_str {x : Str} {n : Int} (h1 : 1 ≤ n) (h2 : n ≤ 10000) (hx : x.length ≤ 100) : opN (.bin .Mult) [.str x, .int n] = some (.str (Txt.mul x n)) := by
  show (if decide (MulOk x n) then _ else none) = _
  have hp : x.length * n.toNat ≤ 100 * 10000 := Nat.mul_le_mul hx (by omega)
  have hm : MulOk x n := by
    refine ⟨?_, fun _ _ => ?_, fun _ _ => ?_⟩
    · simp only [Bool.or_eq_false_iff, decide_eq_false_iff_not]
      constructor <;> omega
    · have : (2 ^ 63 - 1) / n ≥ (2 ^ 63 - 1) / 10000 := by
        rw [ge_iff_le, Int.le_ediv_iff_mul_le (by omega)]
        have : (2 ^ 63 - 1 : Int) / 10000 * n ≤ (2 ^ 63 - 1) / 10000 * 10000 := Int.mul_le_mul_of_nonneg_left h2 (by decide)
        omega
      omega
    · show Builtin.Str.tooLong _ = false
      unfold Builtin.Str.tooLong
      simp only [decide_eq_false_iff_not]
      rw [sizeLine_eq]
      omega
  rw [if_pos (decide_eq_true hm)]
theorem n_mul_z {n : Int} (h1 : 1 ≤ n) (h2 : n ≤ 10000) : opN (.bin .Mult) [.str "z", .int n] = some (.str (Txt.mul ("z" : Str) n)) := n_mul_str h1 h2 (by decide +kernel)
theorem Plain.mono {m k : Int} {s : Str} (h : Plain m s) (hk : m ≤ k) : Plain k s := ⟨by have := h.1; omega, h.2⟩
/-! pools -/
def poolB : List IS := [
  .set 3 (.lst []),
  .fors (.nm 4) (.rng [.loc 1]) [.set 5 (.call "_law_text" [true, true] [.loc 0, .loc 2]), .ife (.op (.cmp .Eq) [.call "_law_draw" [true, true] [.loc 0, .cst (.int 9)], .cst (.int 4)]) [.set 5 (.op (.bin .Add) [.cst (.str "other "), .op .str [.op (.bin .Add) [.cst (.int 1), .call "_law_draw" [true, true] [.loc 0, .cst (.int 4)]]]])] [], .ife (.op (.cmp .In) [.loc 5, .loc 3]) [.set 5 (.op (.bin .Mult) [.cst (.str "z"), .op (.bin .Add) [.cst (.int 1), .op .max [.compv (.op .len [.loc 6]) (.nm 6) 3 [] [6]]]])] [], .app 3 (.loc 5)],
  .ret (.mov 3)]
theorem mem_app_one {α : Type} {a : List α} {x y : α} (h : x ∈ a ++ [y]) : x ∈ a ∨ x = y := by
  rcases List.mem_append.mp h with h | h
  · exact .inl h
  · exact .inr (List.mem_singleton.mp h)
theorem mem_of_dec {w : Str} {ls : List Str} (h : decide (w ∈ ls) = true) : w ∈ ls := of_decide_eq_true h
def lenI (s : Str) : Int := s.length
theorem okS_of {n : Nat} (h : n ≤ 10000) : okS n = true := decide_eq_true (Nat.le_trans h (by rw [sizeLine_eq]; decide))
theorem other_fit {d : Int} (h0 : 0 ≤ d) (h1 : d < 4) : okS (("other " : Str).length + ((toString (1 + d) : String) : Str).length) = true ∧ (1 + d).natAbs.log2 < 1920 := by
  obtain rfl | rfl | rfl | rfl : d = 0 ∨ d = 1 ∨ d = 2 ∨ d = 3 := by omega
  all_goals exact ⟨by decide +kernel, by decide +kernel⟩
theorem other_plain {d : Int} (h0 : 0 ≤ d) (h1 : d < 4) : Plain 7 (("other " : Str) ++ ((toString (1 + d) : String) : Str)) := by
  obtain rfl | rfl | rfl | rfl : d = 0 ∨ d = 1 ∨ d = 2 ∨ d = 3 := by omega
  all_goals exact ⟨by decide +kernel, by decide +kernel⟩
theorem take_map_step {α β : Type} {f : α → β} {ls : List α} {j : Nat} (hj : j < ls.length) : (ls.take j).map f ++ [f ls[j]] = (ls.take (j + 1)).map f := by
  rw [List.take_succ_eq_append_getElem hj, List.map_append]
  rfl
theorem pool_step {ls : List Str} {v : Str} {m : Int} (h2 : ls.Nodup) (h3 : ∀ s ∈ ls, Plain (m + ls.length) s) (hv : v ∉ ls) (hp : Plain (m + ls.length + 1) v) : (ls ++ [v]).Nodup ∧ ∀ s ∈ ls ++ [v], Plain (m + (ls ++ [v]).length) s := by
  constructor
  · refine List.nodup_append.mpr ⟨h2, by simp, fun a ha b hb e => ?_⟩
    rw [List.mem_singleton] at hb
    subst hb
    subst e
    exact hv ha
  · intro s hs
    rw [List.length_append]
    rcases mem_app_one hs with h | rfl
    · exact (h3 s h).mono (by simp; omega)
    · exact hp.mono (by simp; omega)
theorem z_new {ls : List Str} {l0 : Str} {l1 : List Str} {m : Int} (e : ls = l0 :: l1) (h3 : ∀ s ∈ ls, Plain (m + ls.length) s) (hm : 0 ≤ m) : (0 ≤ maxI (lenI l0) (l1.map lenI) ∧ maxI (lenI l0) (l1.map lenI) ≤ m + ls.length) ∧ Txt.mul ("z" : Str) (1 + maxI (lenI l0) (l1.map lenI)) ∉ ls ∧ Plain (m + ls.length + 1) (Txt.mul ("z" : Str) (1 + maxI (lenI l0) (l1.map lenI))) := by
  have hmem := maxI_in (l1.map lenI) (lenI l0)
  rw [← List.map_cons, ← e] at hmem
  obtain ⟨s0, hs0, es0⟩ := List.mem_map.mp hmem
  have hge : ∀ s ∈ ls, lenI s ≤ maxI (lenI l0) (l1.map lenI) := fun s hs => maxI_ge _ _ _ (by rw [← List.map_cons, ← e]; exact List.mem_map_of_mem hs)
  have h0 : 0 ≤ maxI (lenI l0) (l1.map lenI) := by rw [← es0]; exact Int.natCast_nonneg _
  have h1 : maxI (lenI l0) (l1.map lenI) ≤ m + ls.length := by rw [← es0]; exact (h3 s0 hs0).1
  have hz := mul_z (n := 1 + maxI (lenI l0) (l1.map lenI)) (by omega)
  have hzl : ((Txt.mul ("z" : Str) (1 + maxI (lenI l0) (l1.map lenI))).length : Int) = 1 + maxI (lenI l0) (l1.map lenI) := by
    rw [str_len, hz, List.length_replicate]
    omega
  refine ⟨⟨h0, h1⟩, fun hin => ?_, by omega, fun x hx => ?_⟩
  · have q : ((Txt.mul ("z" : Str) (1 + maxI (lenI l0) (l1.map lenI))).length : Int) ≤ maxI (lenI l0) (l1.map lenI) := hge _ hin
    omega
  · rw [hz] at hx
    rw [(List.mem_replicate.mp hx).2]
    decide
theorem pool_ok {T : Tb} {fuel n : Nat} (hD : T ("_law_draw" : Str) = some ⟨5, 2, [true, true], drawB⟩) (hX : T ("_law_text" : Str) = some ⟨5, 2, [true, true], textB⟩) (hT : T ("_law_pool" : Str) = some ⟨7, 3, [true, true, true], poolB⟩)
    {cs : List Int} {i r k c m : Int} (hc : cs ≠ []) (hc0 : 0 ≤ c) (hc1 : c ≤ 20) (hm : 7 ≤ m) (hm2 : m ≤ 100) {Q : PV → Fr → Prop} {E : PX → Fr → Prop}
    (h : ∀ (ls : List Str) i' r' k', ls.length = c.toNat → ls.Nodup → (∀ s ∈ ls, Plain (m + c) s) → Q (.lst true (ls.map .str)) [some (potP cs i' r' k'), some (.int c), some (.int m)]) : zC (callN T fuel (n + 3)) ("_law_pool" : Str) [potP cs i r k, .int c, .int m] Q E := by
  refine run_ok hT rfl ?_
  (conv => whnf); repeat (first | (refine ⟨_, rfl, (by first | assumption | rfl | exact fzL_ints _ | exact fzL_strs _ | exact fz_ints _ | exact fz_strs _), ?_⟩; conv => whnf) | (refine ⟨_, rfl, ?_⟩; conv => whnf) | (refine And.intro rfl ?_; conv => whnf) | (refine And.intro (by first | assumption | decide | omega) ?_; conv => whnf) | (refine And.intro (by first | assumption | rfl | exact fzL_ints _ | exact fzL_strs _ | exact fz_ints _ | exact fz_strs _) ?_; conv => whnf) | (refine And.intro (And.intro (by first | assumption | decide | omega) (by first | assumption | decide | omega)) ?_; conv => whnf) | (refine And.intro (And.intro (And.intro (by first | assumption | decide | omega) (by first | assumption | decide | omega)) (And.intro (by first | assumption | decide | omega) (by first | assumption | decide | omega))) ?_; conv => whnf) | (refine And.intro (And.intro (by first | assumption | rfl | exact fzL_ints _ | exact fzL_strs _ | exact fz_ints _ | exact fz_strs _) (And.intro (by first | assumption | rfl | exact fzL_ints _ | exact fzL_strs _ | exact fz_ints _ | exact fz_strs _) (by first | assumption | rfl | exact fzL_ints _ | exact fzL_strs _ | exact fz_ints _ | exact fz_strs _))) ?_; conv => whnf) | (refine And.intro (by first | exact Or.inl (by decide) | exact Or.inr (by decide)) ?_; conv => whnf) | (refine Or.inl (And.intro (by first | assumption | rfl | exact fzL_ints _ | exact fzL_strs _ | exact fz_ints _ | exact fz_strs _) ?_); conv => whnf) | (refine ⟨fun _ => ?_, fun z => Bool.noConfusion z⟩; conv => whnf) | (refine ⟨fun z => Bool.noConfusion z, fun _ => ?_⟩; conv => whnf) | (intro p0 z; rw [frz_lstp (by first | assumption | rfl | exact fzL_ints _ | exact fzL_strs _ | exact fz_ints _ | exact fz_strs _)] at z; subst z; conv => whnf) | (intro p0 z; rw [PV.fz_frz _ (by first | assumption | rfl | exact fzL_ints _ | exact fzL_strs _ | exact fz_ints _ | exact fz_strs _)] at z; subst z; conv => whnf))
  refine zF_in (fun rest ρ => ∃ (i' r' k' : Int) (ls : List Str) (z4 z5 : Option PV), ls.length + rest.length = c.toNat ∧ ls.Nodup ∧ (∀ s ∈ ls, Plain (m + ls.length) s) ∧ ρ = [some (potP cs i' r' k'), some (.int c), some (.int m), some (.lst true (ls.map .str)), z4, z5, none]) ?_ ?_ ?_
  · exact ⟨_, _, _, [], none, none, by simp [rng_len], by simp, by simp, rfl⟩
  · rintro ρ ⟨i', r', k', ls, z4, z5, h1, h2, h3, rfl⟩
    (conv => whnf); repeat (first | (refine ⟨_, rfl, (by first | assumption | rfl | exact fzL_ints _ | exact fzL_strs _ | exact fz_ints _ | exact fz_strs _), ?_⟩; conv => whnf) | (refine ⟨_, rfl, ?_⟩; conv => whnf) | (refine And.intro rfl ?_; conv => whnf) | (refine And.intro (by first | assumption | decide | omega) ?_; conv => whnf) | (refine And.intro (by first | assumption | rfl | exact fzL_ints _ | exact fzL_strs _ | exact fz_ints _ | exact fz_strs _) ?_; conv => whnf) | (refine And.intro (And.intro (by first | assumption | decide | omega) (by first | assumption | decide | omega)) ?_; conv => whnf) | (refine And.intro (And.intro (And.intro (by first | assumption | decide | omega) (by first | assumption | decide | omega)) (And.intro (by first | assumption | decide | omega) (by first | assumption | decide | omega))) ?_; conv => whnf) | (refine And.intro (And.intro (by first | assumption | rfl | exact fzL_ints _ | exact fzL_strs _ | exact fz_ints _ | exact fz_strs _) (And.intro (by first | assumption | rfl | exact fzL_ints _ | exact fzL_strs _ | exact fz_ints _ | exact fz_strs _) (by first | assumption | rfl | exact fzL_ints _ | exact fzL_strs _ | exact fz_ints _ | exact fz_strs _))) ?_; conv => whnf) | (refine And.intro (by first | exact Or.inl (by decide) | exact Or.inr (by decide)) ?_; conv => whnf) | (refine Or.inl (And.intro (by first | assumption | rfl | exact fzL_ints _ | exact fzL_strs _ | exact fz_ints _ | exact fz_strs _) ?_); conv => whnf) | (refine ⟨fun _ => ?_, fun z => Bool.noConfusion z⟩; conv => whnf) | (refine ⟨fun z => Bool.noConfusion z, fun _ => ?_⟩; conv => whnf) | (intro p0 z; rw [frz_lstp (by first | assumption | rfl | exact fzL_ints _ | exact fzL_strs _ | exact fz_ints _ | exact fz_strs _)] at z; subst z; conv => whnf) | (intro p0 z; rw [PV.fz_frz _ (by first | assumption | rfl | exact fzL_ints _ | exact fzL_strs _ | exact fz_ints _ | exact fz_strs _)] at z; subst z; conv => whnf))
    refine h ls _ _ _ (by simpa using h1) h2 fun s hs => (h3 s hs).mono ?_
    simp at h1
    omega
  · rintro x rest ρ ⟨i', r', k', ls, z4, z5, h1, h2, h3, rfl⟩
    simp only [List.length_cons] at h1
    refine ⟨_, rfl, ?_⟩
    (conv => whnf); repeat (first | (refine ⟨_, rfl, (by first | assumption | rfl | exact fzL_ints _ | exact fzL_strs _ | exact fz_ints _ | exact fz_strs _), ?_⟩; conv => whnf) | (refine ⟨_, rfl, ?_⟩; conv => whnf) | (refine And.intro rfl ?_; conv => whnf) | (refine And.intro (by first | assumption | decide | omega) ?_; conv => whnf) | (refine And.intro (by first | assumption | rfl | exact fzL_ints _ | exact fzL_strs _ | exact fz_ints _ | exact fz_strs _) ?_; conv => whnf) | (refine And.intro (And.intro (by first | assumption | decide | omega) (by first | assumption | decide | omega)) ?_; conv => whnf) | (refine And.intro (And.intro (And.intro (by first | assumption | decide | omega) (by first | assumption | decide | omega)) (And.intro (by first | assumption | decide | omega) (by first | assumption | decide | omega))) ?_; conv => whnf) | (refine And.intro (And.intro (by first | assumption | rfl | exact fzL_ints _ | exact fzL_strs _ | exact fz_ints _ | exact fz_strs _) (And.intro (by first | assumption | rfl | exact fzL_ints _ | exact fzL_strs _ | exact fz_ints _ | exact fz_strs _) (by first | assumption | rfl | exact fzL_ints _ | exact fzL_strs _ | exact fz_ints _ | exact fz_strs _))) ?_; conv => whnf) | (refine And.intro (by first | exact Or.inl (by decide) | exact Or.inr (by decide)) ?_; conv => whnf) | (refine Or.inl (And.intro (by first | assumption | rfl | exact fzL_ints _ | exact fzL_strs _ | exact fz_ints _ | exact fz_strs _) ?_); conv => whnf) | (refine ⟨fun _ => ?_, fun z => Bool.noConfusion z⟩; conv => whnf) | (refine ⟨fun z => Bool.noConfusion z, fun _ => ?_⟩; conv => whnf) | (intro p0 z; rw [frz_lstp (by first | assumption | rfl | exact fzL_ints _ | exact fzL_strs _ | exact fz_ints _ | exact fz_strs _)] at z; subst z; conv => whnf) | (intro p0 z; rw [PV.fz_frz _ (by first | assumption | rfl | exact fzL_ints _ | exact fzL_strs _ | exact fz_ints _ | exact fz_strs _)] at z; subst z; conv => whnf))
    refine text_ok hD hX hc (by omega) (by omega) fun s i2 r2 k2 hs => ?_
    (conv => whnf); repeat (first | (refine ⟨_, rfl, (by first | assumption | rfl | exact fzL_ints _ | exact fzL_strs _ | exact fz_ints _ | exact fz_strs _), ?_⟩; conv => whnf) | (refine ⟨_, rfl, ?_⟩; conv => whnf) | (refine And.intro rfl ?_; conv => whnf) | (refine And.intro (by first | assumption | decide | omega) ?_; conv => whnf) | (refine And.intro (by first | assumption | rfl | exact fzL_ints _ | exact fzL_strs _ | exact fz_ints _ | exact fz_strs _) ?_; conv => whnf) | (refine And.intro (And.intro (by first | assumption | decide | omega) (by first | assumption | decide | omega)) ?_; conv => whnf) | (refine And.intro (And.intro (And.intro (by first | assumption | decide | omega) (by first | assumption | decide | omega)) (And.intro (by first | assumption | decide | omega) (by first | assumption | decide | omega))) ?_; conv => whnf) | (refine And.intro (And.intro (by first | assumption | rfl | exact fzL_ints _ | exact fzL_strs _ | exact fz_ints _ | exact fz_strs _) (And.intro (by first | assumption | rfl | exact fzL_ints _ | exact fzL_strs _ | exact fz_ints _ | exact fz_strs _) (by first | assumption | rfl | exact fzL_ints _ | exact fzL_strs _ | exact fz_ints _ | exact fz_strs _))) ?_; conv => whnf) | (refine And.intro (by first | exact Or.inl (by decide) | exact Or.inr (by decide)) ?_; conv => whnf) | (refine Or.inl (And.intro (by first | assumption | rfl | exact fzL_ints _ | exact fzL_strs _ | exact fz_ints _ | exact fz_strs _) ?_); conv => whnf) | (refine ⟨fun _ => ?_, fun z => Bool.noConfusion z⟩; conv => whnf) | (refine ⟨fun z => Bool.noConfusion z, fun _ => ?_⟩; conv => whnf) | (intro p0 z; rw [frz_lstp (by first | assumption | rfl | exact fzL_ints _ | exact fzL_strs _ | exact fz_ints _ | exact fz_strs _)] at z; subst z; conv => whnf) | (intro p0 z; rw [PV.fz_frz _ (by first | assumption | rfl | exact fzL_ints _ | exact fzL_strs _ | exact fz_ints _ | exact fz_strs _)] at z; subst z; conv => whnf))
    refine draw_ok hD hc (by omega) (lg (by omega) (by omega)) fun d i3 r3 k3 hd0 hd1 => ?_
    (conv => whnf); repeat (first | (refine ⟨_, rfl, (by first | assumption | rfl | exact fzL_ints _ | exact fzL_strs _ | exact fz_ints _ | exact fz_strs _), ?_⟩; conv => whnf) | (refine ⟨_, rfl, ?_⟩; conv => whnf) | (refine And.intro rfl ?_; conv => whnf) | (refine And.intro (by first | assumption | decide | omega) ?_; conv => whnf) | (refine And.intro (by first | assumption | rfl | exact fzL_ints _ | exact fzL_strs _ | exact fz_ints _ | exact fz_strs _) ?_; conv => whnf) | (refine And.intro (And.intro (by first | assumption | decide | omega) (by first | assumption | decide | omega)) ?_; conv => whnf) | (refine And.intro (And.intro (And.intro (by first | assumption | decide | omega) (by first | assumption | decide | omega)) (And.intro (by first | assumption | decide | omega) (by first | assumption | decide | omega))) ?_; conv => whnf) | (refine And.intro (And.intro (by first | assumption | rfl | exact fzL_ints _ | exact fzL_strs _ | exact fz_ints _ | exact fz_strs _) (And.intro (by first | assumption | rfl | exact fzL_ints _ | exact fzL_strs _ | exact fz_ints _ | exact fz_strs _) (by first | assumption | rfl | exact fzL_ints _ | exact fzL_strs _ | exact fz_ints _ | exact fz_strs _))) ?_; conv => whnf) | (refine And.intro (by first | exact Or.inl (by decide) | exact Or.inr (by decide)) ?_; conv => whnf) | (refine Or.inl (And.intro (by first | assumption | rfl | exact fzL_ints _ | exact fzL_strs _ | exact fz_ints _ | exact fz_strs _) ?_); conv => whnf) | (refine ⟨fun _ => ?_, fun z => Bool.noConfusion z⟩; conv => whnf) | (refine ⟨fun z => Bool.noConfusion z, fun _ => ?_⟩; conv => whnf) | (intro p0 z; rw [frz_lstp (by first | assumption | rfl | exact fzL_ints _ | exact fzL_strs _ | exact fz_ints _ | exact fz_strs _)] at z; subst z; conv => whnf) | (intro p0 z; rw [PV.fz_frz _ (by first | assumption | rfl | exact fzL_ints _ | exact fzL_strs _ | exact fz_ints _ | exact fz_strs _)] at z; subst z; conv => whnf))
    refine ⟨fun hk => ?_, fun hk => ?_⟩
    rotate_left
    · have hw : Plain m s := hs
      (conv => whnf); repeat (first | (refine ⟨_, rfl, (by first | assumption | rfl | exact fzL_ints _ | exact fzL_strs _ | exact fz_ints _ | exact fz_strs _), ?_⟩; conv => whnf) | (refine ⟨_, rfl, ?_⟩; conv => whnf) | (refine And.intro rfl ?_; conv => whnf) | (refine And.intro (by first | assumption | decide | omega) ?_; conv => whnf) | (refine And.intro (by first | assumption | rfl | exact fzL_ints _ | exact fzL_strs _ | exact fz_ints _ | exact fz_strs _) ?_; conv => whnf) | (refine And.intro (And.intro (by first | assumption | decide | omega) (by first | assumption | decide | omega)) ?_; conv => whnf) | (refine And.intro (And.intro (And.intro (by first | assumption | decide | omega) (by first | assumption | decide | omega)) (And.intro (by first | assumption | decide | omega) (by first | assumption | decide | omega))) ?_; conv => whnf) | (refine And.intro (And.intro (by first | assumption | rfl | exact fzL_ints _ | exact fzL_strs _ | exact fz_ints _ | exact fz_strs _) (And.intro (by first | assumption | rfl | exact fzL_ints _ | exact fzL_strs _ | exact fz_ints _ | exact fz_strs _) (by first | assumption | rfl | exact fzL_ints _ | exact fzL_strs _ | exact fz_ints _ | exact fz_strs _))) ?_; conv => whnf) | (refine And.intro (by first | exact Or.inl (by decide) | exact Or.inr (by decide)) ?_; conv => whnf) | (refine Or.inl (And.intro (by first | assumption | rfl | exact fzL_ints _ | exact fzL_strs _ | exact fz_ints _ | exact fz_strs _) ?_); conv => whnf) | (refine ⟨fun _ => ?_, fun z => Bool.noConfusion z⟩; conv => whnf) | (refine ⟨fun z => Bool.noConfusion z, fun _ => ?_⟩; conv => whnf) | (intro p0 z; rw [frz_lstp (by first | assumption | rfl | exact fzL_ints _ | exact fzL_strs _ | exact fz_ints _ | exact fz_strs _)] at z; subst z; conv => whnf) | (intro p0 z; rw [PV.fz_frz _ (by first | assumption | rfl | exact fzL_ints _ | exact fzL_strs _ | exact fz_ints _ | exact fz_strs _)] at z; subst z; conv => whnf))
      refine ⟨_, n_in, ?_⟩
      (conv => whnf); repeat (first | (refine ⟨_, rfl, (by first | assumption | rfl | exact fzL_ints _ | exact fzL_strs _ | exact fz_ints _ | exact fz_strs _), ?_⟩; conv => whnf) | (refine ⟨_, rfl, ?_⟩; conv => whnf) | (refine And.intro rfl ?_; conv => whnf) | (refine And.intro (by first | assumption | decide | omega) ?_; conv => whnf) | (refine And.intro (by first | assumption | rfl | exact fzL_ints _ | exact fzL_strs _ | exact fz_ints _ | exact fz_strs _) ?_; conv => whnf) | (refine And.intro (And.intro (by first | assumption | decide | omega) (by first | assumption | decide | omega)) ?_; conv => whnf) | (refine And.intro (And.intro (And.intro (by first | assumption | decide | omega) (by first | assumption | decide | omega)) (And.intro (by first | assumption | decide | omega) (by first | assumption | decide | omega))) ?_; conv => whnf) | (refine And.intro (And.intro (by first | assumption | rfl | exact fzL_ints _ | exact fzL_strs _ | exact fz_ints _ | exact fz_strs _) (And.intro (by first | assumption | rfl | exact fzL_ints _ | exact fzL_strs _ | exact fz_ints _ | exact fz_strs _) (by first | assumption | rfl | exact fzL_ints _ | exact fzL_strs _ | exact fz_ints _ | exact fz_strs _))) ?_; conv => whnf) | (refine And.intro (by first | exact Or.inl (by decide) | exact Or.inr (by decide)) ?_; conv => whnf) | (refine Or.inl (And.intro (by first | assumption | rfl | exact fzL_ints _ | exact fzL_strs _ | exact fz_ints _ | exact fz_strs _) ?_); conv => whnf) | (refine ⟨fun _ => ?_, fun z => Bool.noConfusion z⟩; conv => whnf) | (refine ⟨fun z => Bool.noConfusion z, fun _ => ?_⟩; conv => whnf) | (intro p0 z; rw [frz_lstp (by first | assumption | rfl | exact fzL_ints _ | exact fzL_strs _ | exact fz_ints _ | exact fz_strs _)] at z; subst z; conv => whnf) | (intro p0 z; rw [PV.fz_frz _ (by first | assumption | rfl | exact fzL_ints _ | exact fzL_strs _ | exact fz_ints _ | exact fz_strs _)] at z; subst z; conv => whnf))
      refine ⟨fun hk2 => ?_, fun hk2 => ?_⟩
      · have hin : s ∈ ls := of_decide_eq_true hk2
        obtain ⟨l0, l1, el⟩ : ∃ l0 l1, ls = l0 :: l1 := by
          cases ls with
          | nil => cases hin
          | cons a b => exact ⟨a, b, rfl⟩
        obtain ⟨⟨z0, z1⟩, z2, z3⟩ := z_new el h3 (by omega)
        (conv => whnf); repeat (first | (refine ⟨_, rfl, (by first | assumption | rfl | exact fzL_ints _ | exact fzL_strs _ | exact fz_ints _ | exact fz_strs _), ?_⟩; conv => whnf) | (refine ⟨_, rfl, ?_⟩; conv => whnf) | (refine And.intro rfl ?_; conv => whnf) | (refine And.intro (by first | assumption | decide | omega) ?_; conv => whnf) | (refine And.intro (by first | assumption | rfl | exact fzL_ints _ | exact fzL_strs _ | exact fz_ints _ | exact fz_strs _) ?_; conv => whnf) | (refine And.intro (And.intro (by first | assumption | decide | omega) (by first | assumption | decide | omega)) ?_; conv => whnf) | (refine And.intro (And.intro (And.intro (by first | assumption | decide | omega) (by first | assumption | decide | omega)) (And.intro (by first | assumption | decide | omega) (by first | assumption | decide | omega))) ?_; conv => whnf) | (refine And.intro (And.intro (by first | assumption | rfl | exact fzL_ints _ | exact fzL_strs _ | exact fz_ints _ | exact fz_strs _) (And.intro (by first | assumption | rfl | exact fzL_ints _ | exact fzL_strs _ | exact fz_ints _ | exact fz_strs _) (by first | assumption | rfl | exact fzL_ints _ | exact fzL_strs _ | exact fz_ints _ | exact fz_strs _))) ?_; conv => whnf) | (refine And.intro (by first | exact Or.inl (by decide) | exact Or.inr (by decide)) ?_; conv => whnf) | (refine Or.inl (And.intro (by first | assumption | rfl | exact fzL_ints _ | exact fzL_strs _ | exact fz_ints _ | exact fz_strs _) ?_); conv => whnf) | (refine ⟨fun _ => ?_, fun z => Bool.noConfusion z⟩; conv => whnf) | (refine ⟨fun z => Bool.noConfusion z, fun _ => ?_⟩; conv => whnf) | (intro p0 z; rw [frz_lstp (by first | assumption | rfl | exact fzL_ints _ | exact fzL_strs _ | exact fz_ints _ | exact fz_strs _)] at z; subst z; conv => whnf) | (intro p0 z; rw [PV.fz_frz _ (by first | assumption | rfl | exact fzL_ints _ | exact fzL_strs _ | exact fz_ints _ | exact fz_strs _)] at z; subst z; conv => whnf))
        refine zKv_in rfl (fun j acc ρ => acc = ((ls.take j).map lenI).map .int ∧ ρ = [some (potP cs i3 r3 k3), some (.int c), some (.int m), some (.lst true (ls.map .str)), some x, some (.str s), none]) ?_ ?_ ?_
        · exact ⟨rfl, rfl⟩
        · rintro ys _ ⟨rfl, rfl⟩
          refine ⟨by simp [vwLen, Fr.at], ?_⟩
          (conv => whnf); repeat (first | (refine ⟨_, rfl, (by first | assumption | rfl | exact fzL_ints _ | exact fzL_strs _ | exact fz_ints _ | exact fz_strs _), ?_⟩; conv => whnf) | (refine ⟨_, rfl, ?_⟩; conv => whnf) | (refine And.intro rfl ?_; conv => whnf) | (refine And.intro (by first | assumption | decide | omega) ?_; conv => whnf) | (refine And.intro (by first | assumption | rfl | exact fzL_ints _ | exact fzL_strs _ | exact fz_ints _ | exact fz_strs _) ?_; conv => whnf) | (refine And.intro (And.intro (by first | assumption | decide | omega) (by first | assumption | decide | omega)) ?_; conv => whnf) | (refine And.intro (And.intro (And.intro (by first | assumption | decide | omega) (by first | assumption | decide | omega)) (And.intro (by first | assumption | decide | omega) (by first | assumption | decide | omega))) ?_; conv => whnf) | (refine And.intro (And.intro (by first | assumption | rfl | exact fzL_ints _ | exact fzL_strs _ | exact fz_ints _ | exact fz_strs _) (And.intro (by first | assumption | rfl | exact fzL_ints _ | exact fzL_strs _ | exact fz_ints _ | exact fz_strs _) (by first | assumption | rfl | exact fzL_ints _ | exact fzL_strs _ | exact fz_ints _ | exact fz_strs _))) ?_; conv => whnf) | (refine And.intro (by first | exact Or.inl (by decide) | exact Or.inr (by decide)) ?_; conv => whnf) | (refine Or.inl (And.intro (by first | assumption | rfl | exact fzL_ints _ | exact fzL_strs _ | exact fz_ints _ | exact fz_strs _) ?_); conv => whnf) | (refine ⟨fun _ => ?_, fun z => Bool.noConfusion z⟩; conv => whnf) | (refine ⟨fun z => Bool.noConfusion z, fun _ => ?_⟩; conv => whnf) | (intro p0 z; rw [frz_lstp (by first | assumption | rfl | exact fzL_ints _ | exact fzL_strs _ | exact fz_ints _ | exact fz_strs _)] at z; subst z; conv => whnf) | (intro p0 z; rw [PV.fz_frz _ (by first | assumption | rfl | exact fzL_ints _ | exact fzL_strs _ | exact fz_ints _ | exact fz_strs _)] at z; subst z; conv => whnf))
          have et : List.take (List.map PV.str ls).length ls = l0 :: l1 := by rw [List.length_map, List.take_length, el]
          rw [et]
          refine ⟨_, n_max, ?_⟩
          (conv => whnf); repeat (first | (refine ⟨_, rfl, (by first | assumption | rfl | exact fzL_ints _ | exact fzL_strs _ | exact fz_ints _ | exact fz_strs _), ?_⟩; conv => whnf) | (refine ⟨_, rfl, ?_⟩; conv => whnf) | (refine And.intro rfl ?_; conv => whnf) | (refine And.intro (by first | assumption | decide | omega) ?_; conv => whnf) | (refine And.intro (by first | assumption | rfl | exact fzL_ints _ | exact fzL_strs _ | exact fz_ints _ | exact fz_strs _) ?_; conv => whnf) | (refine And.intro (And.intro (by first | assumption | decide | omega) (by first | assumption | decide | omega)) ?_; conv => whnf) | (refine And.intro (And.intro (And.intro (by first | assumption | decide | omega) (by first | assumption | decide | omega)) (And.intro (by first | assumption | decide | omega) (by first | assumption | decide | omega))) ?_; conv => whnf) | (refine And.intro (And.intro (by first | assumption | rfl | exact fzL_ints _ | exact fzL_strs _ | exact fz_ints _ | exact fz_strs _) (And.intro (by first | assumption | rfl | exact fzL_ints _ | exact fzL_strs _ | exact fz_ints _ | exact fz_strs _) (by first | assumption | rfl | exact fzL_ints _ | exact fzL_strs _ | exact fz_ints _ | exact fz_strs _))) ?_; conv => whnf) | (refine And.intro (by first | exact Or.inl (by decide) | exact Or.inr (by decide)) ?_; conv => whnf) | (refine Or.inl (And.intro (by first | assumption | rfl | exact fzL_ints _ | exact fzL_strs _ | exact fz_ints _ | exact fz_strs _) ?_); conv => whnf) | (refine ⟨fun _ => ?_, fun z => Bool.noConfusion z⟩; conv => whnf) | (refine ⟨fun z => Bool.noConfusion z, fun _ => ?_⟩; conv => whnf) | (intro p0 z; rw [frz_lstp (by first | assumption | rfl | exact fzL_ints _ | exact fzL_strs _ | exact fz_ints _ | exact fz_strs _)] at z; subst z; conv => whnf) | (intro p0 z; rw [PV.fz_frz _ (by first | assumption | rfl | exact fzL_ints _ | exact fzL_strs _ | exact fz_ints _ | exact fz_strs _)] at z; subst z; conv => whnf))
          refine ⟨_, n_mul_z (by omega) (by omega), ?_⟩
          (conv => whnf); repeat (first | (refine ⟨_, rfl, (by first | assumption | rfl | exact fzL_ints _ | exact fzL_strs _ | exact fz_ints _ | exact fz_strs _), ?_⟩; conv => whnf) | (refine ⟨_, rfl, ?_⟩; conv => whnf) | (refine And.intro rfl ?_; conv => whnf) | (refine And.intro (by first | assumption | decide | omega) ?_; conv => whnf) | (refine And.intro (by first | assumption | rfl | exact fzL_ints _ | exact fzL_strs _ | exact fz_ints _ | exact fz_strs _) ?_; conv => whnf) | (refine And.intro (And.intro (by first | assumption | decide | omega) (by first | assumption | decide | omega)) ?_; conv => whnf) | (refine And.intro (And.intro (And.intro (by first | assumption | decide | omega) (by first | assumption | decide | omega)) (And.intro (by first | assumption | decide | omega) (by first | assumption | decide | omega))) ?_; conv => whnf) | (refine And.intro (And.intro (by first | assumption | rfl | exact fzL_ints _ | exact fzL_strs _ | exact fz_ints _ | exact fz_strs _) (And.intro (by first | assumption | rfl | exact fzL_ints _ | exact fzL_strs _ | exact fz_ints _ | exact fz_strs _) (by first | assumption | rfl | exact fzL_ints _ | exact fzL_strs _ | exact fz_ints _ | exact fz_strs _))) ?_; conv => whnf) | (refine And.intro (by first | exact Or.inl (by decide) | exact Or.inr (by decide)) ?_; conv => whnf) | (refine Or.inl (And.intro (by first | assumption | rfl | exact fzL_ints _ | exact fzL_strs _ | exact fz_ints _ | exact fz_strs _) ?_); conv => whnf) | (refine ⟨fun _ => ?_, fun z => Bool.noConfusion z⟩; conv => whnf) | (refine ⟨fun z => Bool.noConfusion z, fun _ => ?_⟩; conv => whnf) | (intro p0 z; rw [frz_lstp (by first | assumption | rfl | exact fzL_ints _ | exact fzL_strs _ | exact fz_ints _ | exact fz_strs _)] at z; subst z; conv => whnf) | (intro p0 z; rw [PV.fz_frz _ (by first | assumption | rfl | exact fzL_ints _ | exact fzL_strs _ | exact fz_ints _ | exact fz_strs _)] at z; subst z; conv => whnf))
          refine ⟨Nat.lt_of_le_of_lt (show _ ≤ 100 by simp; omega) (by rw [sizeLine_eq]; decide), ?_⟩
          obtain ⟨f1, f2⟩ := pool_step h2 h3 z2 z3
          exact ⟨_, _, _, ls ++ [_], _, _, by simp; omega, f1, f2, by rw [List.map_append]; rfl⟩
        · rintro j acc _ hj ⟨rfl, rfl⟩
          have hj' : j < ls.length := by simpa using hj
          refine ⟨.str ls[j], _, by simp [vwAt, Fr.at, PV.fz, hj'], rfl, ?_⟩
          (conv => whnf); repeat (first | (refine ⟨_, rfl, (by first | assumption | rfl | exact fzL_ints _ | exact fzL_strs _ | exact fz_ints _ | exact fz_strs _), ?_⟩; conv => whnf) | (refine ⟨_, rfl, ?_⟩; conv => whnf) | (refine And.intro rfl ?_; conv => whnf) | (refine And.intro (by first | assumption | decide | omega) ?_; conv => whnf) | (refine And.intro (by first | assumption | rfl | exact fzL_ints _ | exact fzL_strs _ | exact fz_ints _ | exact fz_strs _) ?_; conv => whnf) | (refine And.intro (And.intro (by first | assumption | decide | omega) (by first | assumption | decide | omega)) ?_; conv => whnf) | (refine And.intro (And.intro (And.intro (by first | assumption | decide | omega) (by first | assumption | decide | omega)) (And.intro (by first | assumption | decide | omega) (by first | assumption | decide | omega))) ?_; conv => whnf) | (refine And.intro (And.intro (by first | assumption | rfl | exact fzL_ints _ | exact fzL_strs _ | exact fz_ints _ | exact fz_strs _) (And.intro (by first | assumption | rfl | exact fzL_ints _ | exact fzL_strs _ | exact fz_ints _ | exact fz_strs _) (by first | assumption | rfl | exact fzL_ints _ | exact fzL_strs _ | exact fz_ints _ | exact fz_strs _))) ?_; conv => whnf) | (refine And.intro (by first | exact Or.inl (by decide) | exact Or.inr (by decide)) ?_; conv => whnf) | (refine Or.inl (And.intro (by first | assumption | rfl | exact fzL_ints _ | exact fzL_strs _ | exact fz_ints _ | exact fz_strs _) ?_); conv => whnf) | (refine ⟨fun _ => ?_, fun z => Bool.noConfusion z⟩; conv => whnf) | (refine ⟨fun z => Bool.noConfusion z, fun _ => ?_⟩; conv => whnf) | (intro p0 z; rw [frz_lstp (by first | assumption | rfl | exact fzL_ints _ | exact fzL_strs _ | exact fz_ints _ | exact fz_strs _)] at z; subst z; conv => whnf) | (intro p0 z; rw [PV.fz_frz _ (by first | assumption | rfl | exact fzL_ints _ | exact fzL_strs _ | exact fz_ints _ | exact fz_strs _)] at z; subst z; conv => whnf))
          have hb := (h3 ls[j] (List.getElem_mem hj')).1
          refine ⟨okS_of (by omega), ?_⟩
          refine ⟨_, rfl, Nat.lt_of_le_of_lt (show _ ≤ 100 by simp; omega) (by rw [sizeLine_eq]; decide), ?_, rfl⟩
          rw [← take_map_step (f := lenI) hj', List.map_append]
          rfl
      · have hout : s ∉ ls := of_decide_eq_false hk2
        (conv => whnf); repeat (first | (refine ⟨_, rfl, (by first | assumption | rfl | exact fzL_ints _ | exact fzL_strs _ | exact fz_ints _ | exact fz_strs _), ?_⟩; conv => whnf) | (refine ⟨_, rfl, ?_⟩; conv => whnf) | (refine And.intro rfl ?_; conv => whnf) | (refine And.intro (by first | assumption | decide | omega) ?_; conv => whnf) | (refine And.intro (by first | assumption | rfl | exact fzL_ints _ | exact fzL_strs _ | exact fz_ints _ | exact fz_strs _) ?_; conv => whnf) | (refine And.intro (And.intro (by first | assumption | decide | omega) (by first | assumption | decide | omega)) ?_; conv => whnf) | (refine And.intro (And.intro (And.intro (by first | assumption | decide | omega) (by first | assumption | decide | omega)) (And.intro (by first | assumption | decide | omega) (by first | assumption | decide | omega))) ?_; conv => whnf) | (refine And.intro (And.intro (by first | assumption | rfl | exact fzL_ints _ | exact fzL_strs _ | exact fz_ints _ | exact fz_strs _) (And.intro (by first | assumption | rfl | exact fzL_ints _ | exact fzL_strs _ | exact fz_ints _ | exact fz_strs _) (by first | assumption | rfl | exact fzL_ints _ | exact fzL_strs _ | exact fz_ints _ | exact fz_strs _))) ?_; conv => whnf) | (refine And.intro (by first | exact Or.inl (by decide) | exact Or.inr (by decide)) ?_; conv => whnf) | (refine Or.inl (And.intro (by first | assumption | rfl | exact fzL_ints _ | exact fzL_strs _ | exact fz_ints _ | exact fz_strs _) ?_); conv => whnf) | (refine ⟨fun _ => ?_, fun z => Bool.noConfusion z⟩; conv => whnf) | (refine ⟨fun z => Bool.noConfusion z, fun _ => ?_⟩; conv => whnf) | (intro p0 z; rw [frz_lstp (by first | assumption | rfl | exact fzL_ints _ | exact fzL_strs _ | exact fz_ints _ | exact fz_strs _)] at z; subst z; conv => whnf) | (intro p0 z; rw [PV.fz_frz _ (by first | assumption | rfl | exact fzL_ints _ | exact fzL_strs _ | exact fz_ints _ | exact fz_strs _)] at z; subst z; conv => whnf))
        refine ⟨Nat.lt_of_le_of_lt (show _ ≤ 100 by simp; omega) (by rw [sizeLine_eq]; decide), ?_⟩
        obtain ⟨f1, f2⟩ := pool_step h2 h3 hout (hw.mono (by omega))
        exact ⟨_, _, _, ls ++ [_], _, _, by simp; omega, f1, f2, by rw [List.map_append]; rfl⟩
    · have hw : Plain m s := hs
      (conv => whnf); repeat (first | (refine ⟨_, rfl, (by first | assumption | rfl | exact fzL_ints _ | exact fzL_strs _ | exact fz_ints _ | exact fz_strs _), ?_⟩; conv => whnf) | (refine ⟨_, rfl, ?_⟩; conv => whnf) | (refine And.intro rfl ?_; conv => whnf) | (refine And.intro (by first | assumption | decide | omega) ?_; conv => whnf) | (refine And.intro (by first | assumption | rfl | exact fzL_ints _ | exact fzL_strs _ | exact fz_ints _ | exact fz_strs _) ?_; conv => whnf) | (refine And.intro (And.intro (by first | assumption | decide | omega) (by first | assumption | decide | omega)) ?_; conv => whnf) | (refine And.intro (And.intro (And.intro (by first | assumption | decide | omega) (by first | assumption | decide | omega)) (And.intro (by first | assumption | decide | omega) (by first | assumption | decide | omega))) ?_; conv => whnf) | (refine And.intro (And.intro (by first | assumption | rfl | exact fzL_ints _ | exact fzL_strs _ | exact fz_ints _ | exact fz_strs _) (And.intro (by first | assumption | rfl | exact fzL_ints _ | exact fzL_strs _ | exact fz_ints _ | exact fz_strs _) (by first | assumption | rfl | exact fzL_ints _ | exact fzL_strs _ | exact fz_ints _ | exact fz_strs _))) ?_; conv => whnf) | (refine And.intro (by first | exact Or.inl (by decide) | exact Or.inr (by decide)) ?_; conv => whnf) | (refine Or.inl (And.intro (by first | assumption | rfl | exact fzL_ints _ | exact fzL_strs _ | exact fz_ints _ | exact fz_strs _) ?_); conv => whnf) | (refine ⟨fun _ => ?_, fun z => Bool.noConfusion z⟩; conv => whnf) | (refine ⟨fun z => Bool.noConfusion z, fun _ => ?_⟩; conv => whnf) | (intro p0 z; rw [frz_lstp (by first | assumption | rfl | exact fzL_ints _ | exact fzL_strs _ | exact fz_ints _ | exact fz_strs _)] at z; subst z; conv => whnf) | (intro p0 z; rw [PV.fz_frz _ (by first | assumption | rfl | exact fzL_ints _ | exact fzL_strs _ | exact fz_ints _ | exact fz_strs _)] at z; subst z; conv => whnf))
      refine draw_ok hD hc (by decide) (lg (by decide) (by decide)) fun d2 i3 r3 k3 he0 he1 => ?_
      (conv => whnf); repeat (first | (refine ⟨_, rfl, (by first | assumption | rfl | exact fzL_ints _ | exact fzL_strs _ | exact fz_ints _ | exact fz_strs _), ?_⟩; conv => whnf) | (refine ⟨_, rfl, ?_⟩; conv => whnf) | (refine And.intro rfl ?_; conv => whnf) | (refine And.intro (by first | assumption | decide | omega) ?_; conv => whnf) | (refine And.intro (by first | assumption | rfl | exact fzL_ints _ | exact fzL_strs _ | exact fz_ints _ | exact fz_strs _) ?_; conv => whnf) | (refine And.intro (And.intro (by first | assumption | decide | omega) (by first | assumption | decide | omega)) ?_; conv => whnf) | (refine And.intro (And.intro (And.intro (by first | assumption | decide | omega) (by first | assumption | decide | omega)) (And.intro (by first | assumption | decide | omega) (by first | assumption | decide | omega))) ?_; conv => whnf) | (refine And.intro (And.intro (by first | assumption | rfl | exact fzL_ints _ | exact fzL_strs _ | exact fz_ints _ | exact fz_strs _) (And.intro (by first | assumption | rfl | exact fzL_ints _ | exact fzL_strs _ | exact fz_ints _ | exact fz_strs _) (by first | assumption | rfl | exact fzL_ints _ | exact fzL_strs _ | exact fz_ints _ | exact fz_strs _))) ?_; conv => whnf) | (refine And.intro (by first | exact Or.inl (by decide) | exact Or.inr (by decide)) ?_; conv => whnf) | (refine Or.inl (And.intro (by first | assumption | rfl | exact fzL_ints _ | exact fzL_strs _ | exact fz_ints _ | exact fz_strs _) ?_); conv => whnf) | (refine ⟨fun _ => ?_, fun z => Bool.noConfusion z⟩; conv => whnf) | (refine ⟨fun z => Bool.noConfusion z, fun _ => ?_⟩; conv => whnf) | (intro p0 z; rw [frz_lstp (by first | assumption | rfl | exact fzL_ints _ | exact fzL_strs _ | exact fz_ints _ | exact fz_strs _)] at z; subst z; conv => whnf) | (intro p0 z; rw [PV.fz_frz _ (by first | assumption | rfl | exact fzL_ints _ | exact fzL_strs _ | exact fz_ints _ | exact fz_strs _)] at z; subst z; conv => whnf))
      obtain ⟨hf1, hf2⟩ := other_fit he0 he1
      have hw2 := other_plain he0 he1
      refine ⟨hf2, ?_⟩
      (conv => whnf); repeat (first | (refine ⟨_, rfl, (by first | assumption | rfl | exact fzL_ints _ | exact fzL_strs _ | exact fz_ints _ | exact fz_strs _), ?_⟩; conv => whnf) | (refine ⟨_, rfl, ?_⟩; conv => whnf) | (refine And.intro rfl ?_; conv => whnf) | (refine And.intro (by first | assumption | decide | omega) ?_; conv => whnf) | (refine And.intro (by first | assumption | rfl | exact fzL_ints _ | exact fzL_strs _ | exact fz_ints _ | exact fz_strs _) ?_; conv => whnf) | (refine And.intro (And.intro (by first | assumption | decide | omega) (by first | assumption | decide | omega)) ?_; conv => whnf) | (refine And.intro (And.intro (And.intro (by first | assumption | decide | omega) (by first | assumption | decide | omega)) (And.intro (by first | assumption | decide | omega) (by first | assumption | decide | omega))) ?_; conv => whnf) | (refine And.intro (And.intro (by first | assumption | rfl | exact fzL_ints _ | exact fzL_strs _ | exact fz_ints _ | exact fz_strs _) (And.intro (by first | assumption | rfl | exact fzL_ints _ | exact fzL_strs _ | exact fz_ints _ | exact fz_strs _) (by first | assumption | rfl | exact fzL_ints _ | exact fzL_strs _ | exact fz_ints _ | exact fz_strs _))) ?_; conv => whnf) | (refine And.intro (by first | exact Or.inl (by decide) | exact Or.inr (by decide)) ?_; conv => whnf) | (refine Or.inl (And.intro (by first | assumption | rfl | exact fzL_ints _ | exact fzL_strs _ | exact fz_ints _ | exact fz_strs _) ?_); conv => whnf) | (refine ⟨fun _ => ?_, fun z => Bool.noConfusion z⟩; conv => whnf) | (refine ⟨fun z => Bool.noConfusion z, fun _ => ?_⟩; conv => whnf) | (intro p0 z; rw [frz_lstp (by first | assumption | rfl | exact fzL_ints _ | exact fzL_strs _ | exact fz_ints _ | exact fz_strs _)] at z; subst z; conv => whnf) | (intro p0 z; rw [PV.fz_frz _ (by first | assumption | rfl | exact fzL_ints _ | exact fzL_strs _ | exact fz_ints _ | exact fz_strs _)] at z; subst z; conv => whnf))
      generalize hs2 : ("other " : Str) ++ ((toString (1 + d2) : String) : Str) = s2 at hw2
      have hw : Plain m s2 := hw2.mono (by omega)
      refine ⟨_, n_in, ?_⟩
      (conv => whnf); repeat (first | (refine ⟨_, rfl, (by first | assumption | rfl | exact fzL_ints _ | exact fzL_strs _ | exact fz_ints _ | exact fz_strs _), ?_⟩; conv => whnf) | (refine ⟨_, rfl, ?_⟩; conv => whnf) | (refine And.intro rfl ?_; conv => whnf) | (refine And.intro (by first | assumption | decide | omega) ?_; conv => whnf) | (refine And.intro (by first | assumption | rfl | exact fzL_ints _ | exact fzL_strs _ | exact fz_ints _ | exact fz_strs _) ?_; conv => whnf) | (refine And.intro (And.intro (by first | assumption | decide | omega) (by first | assumption | decide | omega)) ?_; conv => whnf) | (refine And.intro (And.intro (And.intro (by first | assumption | decide | omega) (by first | assumption | decide | omega)) (And.intro (by first | assumption | decide | omega) (by first | assumption | decide | omega))) ?_; conv => whnf) | (refine And.intro (And.intro (by first | assumption | rfl | exact fzL_ints _ | exact fzL_strs _ | exact fz_ints _ | exact fz_strs _) (And.intro (by first | assumption | rfl | exact fzL_ints _ | exact fzL_strs _ | exact fz_ints _ | exact fz_strs _) (by first | assumption | rfl | exact fzL_ints _ | exact fzL_strs _ | exact fz_ints _ | exact fz_strs _))) ?_; conv => whnf) | (refine And.intro (by first | exact Or.inl (by decide) | exact Or.inr (by decide)) ?_; conv => whnf) | (refine Or.inl (And.intro (by first | assumption | rfl | exact fzL_ints _ | exact fzL_strs _ | exact fz_ints _ | exact fz_strs _) ?_); conv => whnf) | (refine ⟨fun _ => ?_, fun z => Bool.noConfusion z⟩; conv => whnf) | (refine ⟨fun z => Bool.noConfusion z, fun _ => ?_⟩; conv => whnf) | (intro p0 z; rw [frz_lstp (by first | assumption | rfl | exact fzL_ints _ | exact fzL_strs _ | exact fz_ints _ | exact fz_strs _)] at z; subst z; conv => whnf) | (intro p0 z; rw [PV.fz_frz _ (by first | assumption | rfl | exact fzL_ints _ | exact fzL_strs _ | exact fz_ints _ | exact fz_strs _)] at z; subst z; conv => whnf))
      refine ⟨fun hk2 => ?_, fun hk2 => ?_⟩
      · have hin : s2 ∈ ls := of_decide_eq_true hk2
        obtain ⟨l0, l1, el⟩ : ∃ l0 l1, ls = l0 :: l1 := by
          cases ls with
          | nil => cases hin
          | cons a b => exact ⟨a, b, rfl⟩
        obtain ⟨⟨z0, z1⟩, z2, z3⟩ := z_new el h3 (by omega)
        (conv => whnf); repeat (first | (refine ⟨_, rfl, (by first | assumption | rfl | exact fzL_ints _ | exact fzL_strs _ | exact fz_ints _ | exact fz_strs _), ?_⟩; conv => whnf) | (refine ⟨_, rfl, ?_⟩; conv => whnf) | (refine And.intro rfl ?_; conv => whnf) | (refine And.intro (by first | assumption | decide | omega) ?_; conv => whnf) | (refine And.intro (by first | assumption | rfl | exact fzL_ints _ | exact fzL_strs _ | exact fz_ints _ | exact fz_strs _) ?_; conv => whnf) | (refine And.intro (And.intro (by first | assumption | decide | omega) (by first | assumption | decide | omega)) ?_; conv => whnf) | (refine And.intro (And.intro (And.intro (by first | assumption | decide | omega) (by first | assumption | decide | omega)) (And.intro (by first | assumption | decide | omega) (by first | assumption | decide | omega))) ?_; conv => whnf) | (refine And.intro (And.intro (by first | assumption | rfl | exact fzL_ints _ | exact fzL_strs _ | exact fz_ints _ | exact fz_strs _) (And.intro (by first | assumption | rfl | exact fzL_ints _ | exact fzL_strs _ | exact fz_ints _ | exact fz_strs _) (by first | assumption | rfl | exact fzL_ints _ | exact fzL_strs _ | exact fz_ints _ | exact fz_strs _))) ?_; conv => whnf) | (refine And.intro (by first | exact Or.inl (by decide) | exact Or.inr (by decide)) ?_; conv => whnf) | (refine Or.inl (And.intro (by first | assumption | rfl | exact fzL_ints _ | exact fzL_strs _ | exact fz_ints _ | exact fz_strs _) ?_); conv => whnf) | (refine ⟨fun _ => ?_, fun z => Bool.noConfusion z⟩; conv => whnf) | (refine ⟨fun z => Bool.noConfusion z, fun _ => ?_⟩; conv => whnf) | (intro p0 z; rw [frz_lstp (by first | assumption | rfl | exact fzL_ints _ | exact fzL_strs _ | exact fz_ints _ | exact fz_strs _)] at z; subst z; conv => whnf) | (intro p0 z; rw [PV.fz_frz _ (by first | assumption | rfl | exact fzL_ints _ | exact fzL_strs _ | exact fz_ints _ | exact fz_strs _)] at z; subst z; conv => whnf))
        refine zKv_in rfl (fun j acc ρ => acc = ((ls.take j).map lenI).map .int ∧ ρ = [some (potP cs i3 r3 k3), some (.int c), some (.int m), some (.lst true (ls.map .str)), some x, some (.str s2), none]) ?_ ?_ ?_
        · exact ⟨rfl, rfl⟩
        · rintro ys _ ⟨rfl, rfl⟩
          refine ⟨by simp [vwLen, Fr.at], ?_⟩
          (conv => whnf); repeat (first | (refine ⟨_, rfl, (by first | assumption | rfl | exact fzL_ints _ | exact fzL_strs _ | exact fz_ints _ | exact fz_strs _), ?_⟩; conv => whnf) | (refine ⟨_, rfl, ?_⟩; conv => whnf) | (refine And.intro rfl ?_; conv => whnf) | (refine And.intro (by first | assumption | decide | omega) ?_; conv => whnf) | (refine And.intro (by first | assumption | rfl | exact fzL_ints _ | exact fzL_strs _ | exact fz_ints _ | exact fz_strs _) ?_; conv => whnf) | (refine And.intro (And.intro (by first | assumption | decide | omega) (by first | assumption | decide | omega)) ?_; conv => whnf) | (refine And.intro (And.intro (And.intro (by first | assumption | decide | omega) (by first | assumption | decide | omega)) (And.intro (by first | assumption | decide | omega) (by first | assumption | decide | omega))) ?_; conv => whnf) | (refine And.intro (And.intro (by first | assumption | rfl | exact fzL_ints _ | exact fzL_strs _ | exact fz_ints _ | exact fz_strs _) (And.intro (by first | assumption | rfl | exact fzL_ints _ | exact fzL_strs _ | exact fz_ints _ | exact fz_strs _) (by first | assumption | rfl | exact fzL_ints _ | exact fzL_strs _ | exact fz_ints _ | exact fz_strs _))) ?_; conv => whnf) | (refine And.intro (by first | exact Or.inl (by decide) | exact Or.inr (by decide)) ?_; conv => whnf) | (refine Or.inl (And.intro (by first | assumption | rfl | exact fzL_ints _ | exact fzL_strs _ | exact fz_ints _ | exact fz_strs _) ?_); conv => whnf) | (refine ⟨fun _ => ?_, fun z => Bool.noConfusion z⟩; conv => whnf) | (refine ⟨fun z => Bool.noConfusion z, fun _ => ?_⟩; conv => whnf) | (intro p0 z; rw [frz_lstp (by first | assumption | rfl | exact fzL_ints _ | exact fzL_strs _ | exact fz_ints _ | exact fz_strs _)] at z; subst z; conv => whnf) | (intro p0 z; rw [PV.fz_frz _ (by first | assumption | rfl | exact fzL_ints _ | exact fzL_strs _ | exact fz_ints _ | exact fz_strs _)] at z; subst z; conv => whnf))
          have et : List.take (List.map PV.str ls).length ls = l0 :: l1 := by rw [List.length_map, List.take_length, el]
          rw [et]
          refine ⟨_, n_max, ?_⟩
          (conv => whnf); repeat (first | (refine ⟨_, rfl, (by first | assumption | rfl | exact fzL_ints _ | exact fzL_strs _ | exact fz_ints _ | exact fz_strs _), ?_⟩; conv => whnf) | (refine ⟨_, rfl, ?_⟩; conv => whnf) | (refine And.intro rfl ?_; conv => whnf) | (refine And.intro (by first | assumption | decide | omega) ?_; conv => whnf) | (refine And.intro (by first | assumption | rfl | exact fzL_ints _ | exact fzL_strs _ | exact fz_ints _ | exact fz_strs _) ?_; conv => whnf) | (refine And.intro (And.intro (by first | assumption | decide | omega) (by first | assumption | decide | omega)) ?_; conv => whnf) | (refine And.intro (And.intro (And.intro (by first | assumption | decide | omega) (by first | assumption | decide | omega)) (And.intro (by first | assumption | decide | omega) (by first | assumption | decide | omega))) ?_; conv => whnf) | (refine And.intro (And.intro (by first | assumption | rfl | exact fzL_ints _ | exact fzL_strs _ | exact fz_ints _ | exact fz_strs _) (And.intro (by first | assumption | rfl | exact fzL_ints _ | exact fzL_strs _ | exact fz_ints _ | exact fz_strs _) (by first | assumption | rfl | exact fzL_ints _ | exact fzL_strs _ | exact fz_ints _ | exact fz_strs _))) ?_; conv => whnf) | (refine And.intro (by first | exact Or.inl (by decide) | exact Or.inr (by decide)) ?_; conv => whnf) | (refine Or.inl (And.intro (by first | assumption | rfl | exact fzL_ints _ | exact fzL_strs _ | exact fz_ints _ | exact fz_strs _) ?_); conv => whnf) | (refine ⟨fun _ => ?_, fun z => Bool.noConfusion z⟩; conv => whnf) | (refine ⟨fun z => Bool.noConfusion z, fun _ => ?_⟩; conv => whnf) | (intro p0 z; rw [frz_lstp (by first | assumption | rfl | exact fzL_ints _ | exact fzL_strs _ | exact fz_ints _ | exact fz_strs _)] at z; subst z; conv => whnf) | (intro p0 z; rw [PV.fz_frz _ (by first | assumption | rfl | exact fzL_ints _ | exact fzL_strs _ | exact fz_ints _ | exact fz_strs _)] at z; subst z; conv => whnf))
          refine ⟨_, n_mul_z (by omega) (by omega), ?_⟩
          (conv => whnf); repeat (first | (refine ⟨_, rfl, (by first | assumption | rfl | exact fzL_ints _ | exact fzL_strs _ | exact fz_ints _ | exact fz_strs _), ?_⟩; conv => whnf) | (refine ⟨_, rfl, ?_⟩; conv => whnf) | (refine And.intro rfl ?_; conv => whnf) | (refine And.intro (by first | assumption | decide | omega) ?_; conv => whnf) | (refine And.intro (by first | assumption | rfl | exact fzL_ints _ | exact fzL_strs _ | exact fz_ints _ | exact fz_strs _) ?_; conv => whnf) | (refine And.intro (And.intro (by first | assumption | decide | omega) (by first | assumption | decide | omega)) ?_; conv => whnf) | (refine And.intro (And.intro (And.intro (by first | assumption | decide | omega) (by first | assumption | decide | omega)) (And.intro (by first | assumption | decide | omega) (by first | assumption | decide | omega))) ?_; conv => whnf) | (refine And.intro (And.intro (by first | assumption | rfl | exact fzL_ints _ | exact fzL_strs _ | exact fz_ints _ | exact fz_strs _) (And.intro (by first | assumption | rfl | exact fzL_ints _ | exact fzL_strs _ | exact fz_ints _ | exact fz_strs _) (by first | assumption | rfl | exact fzL_ints _ | exact fzL_strs _ | exact fz_ints _ | exact fz_strs _))) ?_; conv => whnf) | (refine And.intro (by first | exact Or.inl (by decide) | exact Or.inr (by decide)) ?_; conv => whnf) | (refine Or.inl (And.intro (by first | assumption | rfl | exact fzL_ints _ | exact fzL_strs _ | exact fz_ints _ | exact fz_strs _) ?_); conv => whnf) | (refine ⟨fun _ => ?_, fun z => Bool.noConfusion z⟩; conv => whnf) | (refine ⟨fun z => Bool.noConfusion z, fun _ => ?_⟩; conv => whnf) | (intro p0 z; rw [frz_lstp (by first | assumption | rfl | exact fzL_ints _ | exact fzL_strs _ | exact fz_ints _ | exact fz_strs _)] at z; subst z; conv => whnf) | (intro p0 z; rw [PV.fz_frz _ (by first | assumption | rfl | exact fzL_ints _ | exact fzL_strs _ | exact fz_ints _ | exact fz_strs _)] at z; subst z; conv => whnf))
          refine ⟨Nat.lt_of_le_of_lt (show _ ≤ 100 by simp; omega) (by rw [sizeLine_eq]; decide), ?_⟩
          obtain ⟨f1, f2⟩ := pool_step h2 h3 z2 z3
          exact ⟨_, _, _, ls ++ [_], _, _, by simp; omega, f1, f2, by rw [List.map_append]; rfl⟩
        · rintro j acc _ hj ⟨rfl, rfl⟩
          have hj' : j < ls.length := by simpa using hj
          refine ⟨.str ls[j], _, by simp [vwAt, Fr.at, PV.fz, hj'], rfl, ?_⟩
          (conv => whnf); repeat (first | (refine ⟨_, rfl, (by first | assumption | rfl | exact fzL_ints _ | exact fzL_strs _ | exact fz_ints _ | exact fz_strs _), ?_⟩; conv => whnf) | (refine ⟨_, rfl, ?_⟩; conv => whnf) | (refine And.intro rfl ?_; conv => whnf) | (refine And.intro (by first | assumption | decide | omega) ?_; conv => whnf) | (refine And.intro (by first | assumption | rfl | exact fzL_ints _ | exact fzL_strs _ | exact fz_ints _ | exact fz_strs _) ?_; conv => whnf) | (refine And.intro (And.intro (by first | assumption | decide | omega) (by first | assumption | decide | omega)) ?_; conv => whnf) | (refine And.intro (And.intro (And.intro (by first | assumption | decide | omega) (by first | assumption | decide | omega)) (And.intro (by first | assumption | decide | omega) (by first | assumption | decide | omega))) ?_; conv => whnf) | (refine And.intro (And.intro (by first | assumption | rfl | exact fzL_ints _ | exact fzL_strs _ | exact fz_ints _ | exact fz_strs _) (And.intro (by first | assumption | rfl | exact fzL_ints _ | exact fzL_strs _ | exact fz_ints _ | exact fz_strs _) (by first | assumption | rfl | exact fzL_ints _ | exact fzL_strs _ | exact fz_ints _ | exact fz_strs _))) ?_; conv => whnf) | (refine And.intro (by first | exact Or.inl (by decide) | exact Or.inr (by decide)) ?_; conv => whnf) | (refine Or.inl (And.intro (by first | assumption | rfl | exact fzL_ints _ | exact fzL_strs _ | exact fz_ints _ | exact fz_strs _) ?_); conv => whnf) | (refine ⟨fun _ => ?_, fun z => Bool.noConfusion z⟩; conv => whnf) | (refine ⟨fun z => Bool.noConfusion z, fun _ => ?_⟩; conv => whnf) | (intro p0 z; rw [frz_lstp (by first | assumption | rfl | exact fzL_ints _ | exact fzL_strs _ | exact fz_ints _ | exact fz_strs _)] at z; subst z; conv => whnf) | (intro p0 z; rw [PV.fz_frz _ (by first | assumption | rfl | exact fzL_ints _ | exact fzL_strs _ | exact fz_ints _ | exact fz_strs _)] at z; subst z; conv => whnf))
          have hb := (h3 ls[j] (List.getElem_mem hj')).1
          refine ⟨okS_of (by omega), ?_⟩
          refine ⟨_, rfl, Nat.lt_of_le_of_lt (show _ ≤ 100 by simp; omega) (by rw [sizeLine_eq]; decide), ?_, rfl⟩
          rw [← take_map_step (f := lenI) hj', List.map_append]
          rfl
      · have hout : s2 ∉ ls := of_decide_eq_false hk2
        (conv => whnf); repeat (first | (refine ⟨_, rfl, (by first | assumption | rfl | exact fzL_ints _ | exact fzL_strs _ | exact fz_ints _ | exact fz_strs _), ?_⟩; conv => whnf) | (refine ⟨_, rfl, ?_⟩; conv => whnf) | (refine And.intro rfl ?_; conv => whnf) | (refine And.intro (by first | assumption | decide | omega) ?_; conv => whnf) | (refine And.intro (by first | assumption | rfl | exact fzL_ints _ | exact fzL_strs _ | exact fz_ints _ | exact fz_strs _) ?_; conv => whnf) | (refine And.intro (And.intro (by first | assumption | decide | omega) (by first | assumption | decide | omega)) ?_; conv => whnf) | (refine And.intro (And.intro (And.intro (by first | assumption | decide | omega) (by first | assumption | decide | omega)) (And.intro (by first | assumption | decide | omega) (by first | assumption | decide | omega))) ?_; conv => whnf) | (refine And.intro (And.intro (by first | assumption | rfl | exact fzL_ints _ | exact fzL_strs _ | exact fz_ints _ | exact fz_strs _) (And.intro (by first | assumption | rfl | exact fzL_ints _ | exact fzL_strs _ | exact fz_ints _ | exact fz_strs _) (by first | assumption | rfl | exact fzL_ints _ | exact fzL_strs _ | exact fz_ints _ | exact fz_strs _))) ?_; conv => whnf) | (refine And.intro (by first | exact Or.inl (by decide) | exact Or.inr (by decide)) ?_; conv => whnf) | (refine Or.inl (And.intro (by first | assumption | rfl | exact fzL_ints _ | exact fzL_strs _ | exact fz_ints _ | exact fz_strs _) ?_); conv => whnf) | (refine ⟨fun _ => ?_, fun z => Bool.noConfusion z⟩; conv => whnf) | (refine ⟨fun z => Bool.noConfusion z, fun _ => ?_⟩; conv => whnf) | (intro p0 z; rw [frz_lstp (by first | assumption | rfl | exact fzL_ints _ | exact fzL_strs _ | exact fz_ints _ | exact fz_strs _)] at z; subst z; conv => whnf) | (intro p0 z; rw [PV.fz_frz _ (by first | assumption | rfl | exact fzL_ints _ | exact fzL_strs _ | exact fz_ints _ | exact fz_strs _)] at z; subst z; conv => whnf))
        refine ⟨Nat.lt_of_le_of_lt (show _ ≤ 100 by simp; omega) (by rw [sizeLine_eq]; decide), ?_⟩
        obtain ⟨f1, f2⟩ := pool_step h2 h3 hout (hw.mono (by omega))
        exact ⟨_, _, _, ls ++ [_], _, _, by simp; omega, f1, f2, by rw [List.map_append]; rfl⟩
/-! a file of a pool's lines -/
def fileB : List IS := [
  .set 3 (.call "_law_draw" [true, true] [.loc 0, .op (.bin .Add) [.loc 2, .cst (.int 1)]]),
  .ret (.comp (.op .ix [.loc 1, .call "_law_draw" [true, true] [.loc 0, .op .len [.loc 1]]]) (.nm 4) (.rng [.loc 3]) [] [4])]
theorem atI_str {ls : List Str} {j : Int} (h0 : 0 ≤ j) (h1 : j < ls.length) : ∃ s ∈ ls, L2.atI (ls.map PV.str) j = some (.str s) := by
  have h2 : j.toNat < ls.length := by omega
  refine ⟨ls[j.toNat], List.getElem_mem h2, ?_⟩
  have := atI_map (f := PV.str) h2
  rwa [show ((j.toNat : Nat) : Int) = j from by omega] at this
/-- the list of the lines may stand alone or not: b -/
theorem file_ok {T : Tb} {fuel n : Nat} (hD : T ("_law_draw" : Str) = some ⟨5, 2, [true, true], drawB⟩) (hT : T ("_law_file" : Str) = some ⟨5, 3, [true, true, true], fileB⟩)
    {cs : List Int} {i r k m : Int} {b : Bool} {ls : List Str} (hc : cs ≠ []) (hl : ls ≠ []) (hl2 : ls.length ≤ 1000) (hm : 0 ≤ m) (hm2 : m ≤ 1000) {Q : PV → Fr → Prop} {E : PX → Fr → Prop}
    (h : ∀ (fs : List Str) i' r' k', (fs.length : Int) ≤ m → (∀ s ∈ fs, s ∈ ls) → Q (.lst true (fs.map .str)) [some (potP cs i' r' k'), some (.lst b (ls.map .str)), some (.int m)]) : zC (callN T fuel (n + 2)) ("_law_file" : Str) [potP cs i r k, .lst b (ls.map .str), .int m] Q E := by
  have hlen : 0 < ls.length := List.length_pos_iff.mpr hl
  refine run_ok hT rfl ?_
  (conv => whnf); repeat (first | (refine ⟨_, rfl, (by first | assumption | rfl | exact fzL_ints _ | exact fzL_strs _ | exact fz_ints _ | exact fz_strs _), ?_⟩; conv => whnf) | (refine ⟨_, rfl, ?_⟩; conv => whnf) | (refine And.intro rfl ?_; conv => whnf) | (refine And.intro (by first | assumption | decide | omega) ?_; conv => whnf) | (refine And.intro (by first | assumption | rfl | exact fzL_ints _ | exact fzL_strs _ | exact fz_ints _ | exact fz_strs _) ?_; conv => whnf) | (refine And.intro (And.intro (by first | assumption | decide | omega) (by first | assumption | decide | omega)) ?_; conv => whnf) | (refine And.intro (And.intro (And.intro (by first | assumption | decide | omega) (by first | assumption | decide | omega)) (And.intro (by first | assumption | decide | omega) (by first | assumption | decide | omega))) ?_; conv => whnf) | (refine And.intro (And.intro (by first | assumption | rfl | exact fzL_ints _ | exact fzL_strs _ | exact fz_ints _ | exact fz_strs _) (And.intro (by first | assumption | rfl | exact fzL_ints _ | exact fzL_strs _ | exact fz_ints _ | exact fz_strs _) (by first | assumption | rfl | exact fzL_ints _ | exact fzL_strs _ | exact fz_ints _ | exact fz_strs _))) ?_; conv => whnf) | (refine And.intro (by first | exact Or.inl (by decide) | exact Or.inr (by decide)) ?_; conv => whnf) | (refine Or.inl (And.intro (by first | assumption | rfl | exact fzL_ints _ | exact fzL_strs _ | exact fz_ints _ | exact fz_strs _) ?_); conv => whnf) | (refine ⟨fun _ => ?_, fun z => Bool.noConfusion z⟩; conv => whnf) | (refine ⟨fun z => Bool.noConfusion z, fun _ => ?_⟩; conv => whnf) | (intro p0 z; rw [frz_lstp (by first | assumption | rfl | exact fzL_ints _ | exact fzL_strs _ | exact fz_ints _ | exact fz_strs _)] at z; subst z; conv => whnf) | (intro p0 z; rw [PV.fz_frz _ (by first | assumption | rfl | exact fzL_ints _ | exact fzL_strs _ | exact fz_ints _ | exact fz_strs _)] at z; subst z; conv => whnf))
  refine draw_ok hD hc (by omega) (lg (by omega) (by omega)) fun d i1 r1 k1 hd0 hd1 => ?_
  (conv => whnf); repeat (first | (refine ⟨_, rfl, (by first | assumption | rfl | exact fzL_ints _ | exact fzL_strs _ | exact fz_ints _ | exact fz_strs _), ?_⟩; conv => whnf) | (refine ⟨_, rfl, ?_⟩; conv => whnf) | (refine And.intro rfl ?_; conv => whnf) | (refine And.intro (by first | assumption | decide | omega) ?_; conv => whnf) | (refine And.intro (by first | assumption | rfl | exact fzL_ints _ | exact fzL_strs _ | exact fz_ints _ | exact fz_strs _) ?_; conv => whnf) | (refine And.intro (And.intro (by first | assumption | decide | omega) (by first | assumption | decide | omega)) ?_; conv => whnf) | (refine And.intro (And.intro (And.intro (by first | assumption | decide | omega) (by first | assumption | decide | omega)) (And.intro (by first | assumption | decide | omega) (by first | assumption | decide | omega))) ?_; conv => whnf) | (refine And.intro (And.intro (by first | assumption | rfl | exact fzL_ints _ | exact fzL_strs _ | exact fz_ints _ | exact fz_strs _) (And.intro (by first | assumption | rfl | exact fzL_ints _ | exact fzL_strs _ | exact fz_ints _ | exact fz_strs _) (by first | assumption | rfl | exact fzL_ints _ | exact fzL_strs _ | exact fz_ints _ | exact fz_strs _))) ?_; conv => whnf) | (refine And.intro (by first | exact Or.inl (by decide) | exact Or.inr (by decide)) ?_; conv => whnf) | (refine Or.inl (And.intro (by first | assumption | rfl | exact fzL_ints _ | exact fzL_strs _ | exact fz_ints _ | exact fz_strs _) ?_); conv => whnf) | (refine ⟨fun _ => ?_, fun z => Bool.noConfusion z⟩; conv => whnf) | (refine ⟨fun z => Bool.noConfusion z, fun _ => ?_⟩; conv => whnf) | (intro p0 z; rw [frz_lstp (by first | assumption | rfl | exact fzL_ints _ | exact fzL_strs _ | exact fz_ints _ | exact fz_strs _)] at z; subst z; conv => whnf) | (intro p0 z; rw [PV.fz_frz _ (by first | assumption | rfl | exact fzL_ints _ | exact fzL_strs _ | exact fz_ints _ | exact fz_strs _)] at z; subst z; conv => whnf))
  refine zK_in (fun rest acc ρ => ∃ (i2 r2 k2 : Int) (fs : List Str), acc = fs.map .str ∧ fs.length + rest.length = d.toNat ∧ (∀ s ∈ fs, s ∈ ls) ∧ ρ = [some (potP cs i2 r2 k2), some (.lst b (ls.map .str)), some (.int m), some (.int d), none]) ?_ ?_ ?_
  · exact ⟨_, _, _, [], rfl, by simp [rng_len], by simp, rfl⟩
  · rintro _ _ ⟨i2, r2, k2, fs, rfl, h1, h2, rfl⟩
    (conv => whnf); repeat (first | (refine ⟨_, rfl, (by first | assumption | rfl | exact fzL_ints _ | exact fzL_strs _ | exact fz_ints _ | exact fz_strs _), ?_⟩; conv => whnf) | (refine ⟨_, rfl, ?_⟩; conv => whnf) | (refine And.intro rfl ?_; conv => whnf) | (refine And.intro (by first | assumption | decide | omega) ?_; conv => whnf) | (refine And.intro (by first | assumption | rfl | exact fzL_ints _ | exact fzL_strs _ | exact fz_ints _ | exact fz_strs _) ?_; conv => whnf) | (refine And.intro (And.intro (by first | assumption | decide | omega) (by first | assumption | decide | omega)) ?_; conv => whnf) | (refine And.intro (And.intro (And.intro (by first | assumption | decide | omega) (by first | assumption | decide | omega)) (And.intro (by first | assumption | decide | omega) (by first | assumption | decide | omega))) ?_; conv => whnf) | (refine And.intro (And.intro (by first | assumption | rfl | exact fzL_ints _ | exact fzL_strs _ | exact fz_ints _ | exact fz_strs _) (And.intro (by first | assumption | rfl | exact fzL_ints _ | exact fzL_strs _ | exact fz_ints _ | exact fz_strs _) (by first | assumption | rfl | exact fzL_ints _ | exact fzL_strs _ | exact fz_ints _ | exact fz_strs _))) ?_; conv => whnf) | (refine And.intro (by first | exact Or.inl (by decide) | exact Or.inr (by decide)) ?_; conv => whnf) | (refine Or.inl (And.intro (by first | assumption | rfl | exact fzL_ints _ | exact fzL_strs _ | exact fz_ints _ | exact fz_strs _) ?_); conv => whnf) | (refine ⟨fun _ => ?_, fun z => Bool.noConfusion z⟩; conv => whnf) | (refine ⟨fun z => Bool.noConfusion z, fun _ => ?_⟩; conv => whnf) | (intro p0 z; rw [frz_lstp (by first | assumption | rfl | exact fzL_ints _ | exact fzL_strs _ | exact fz_ints _ | exact fz_strs _)] at z; subst z; conv => whnf) | (intro p0 z; rw [PV.fz_frz _ (by first | assumption | rfl | exact fzL_ints _ | exact fzL_strs _ | exact fz_ints _ | exact fz_strs _)] at z; subst z; conv => whnf))
    refine h fs _ _ _ ?_ h2
    simp at h1
    omega
  · rintro x rest acc _ ⟨i2, r2, k2, fs, rfl, h1, h2, rfl⟩
    simp only [List.length_cons] at h1
    refine ⟨_, rfl, ?_⟩
    (conv => whnf); repeat (first | (refine ⟨_, rfl, (by first | assumption | rfl | exact fzL_ints _ | exact fzL_strs _ | exact fz_ints _ | exact fz_strs _), ?_⟩; conv => whnf) | (refine ⟨_, rfl, ?_⟩; conv => whnf) | (refine And.intro rfl ?_; conv => whnf) | (refine And.intro (by first | assumption | decide | omega) ?_; conv => whnf) | (refine And.intro (by first | assumption | rfl | exact fzL_ints _ | exact fzL_strs _ | exact fz_ints _ | exact fz_strs _) ?_; conv => whnf) | (refine And.intro (And.intro (by first | assumption | decide | omega) (by first | assumption | decide | omega)) ?_; conv => whnf) | (refine And.intro (And.intro (And.intro (by first | assumption | decide | omega) (by first | assumption | decide | omega)) (And.intro (by first | assumption | decide | omega) (by first | assumption | decide | omega))) ?_; conv => whnf) | (refine And.intro (And.intro (by first | assumption | rfl | exact fzL_ints _ | exact fzL_strs _ | exact fz_ints _ | exact fz_strs _) (And.intro (by first | assumption | rfl | exact fzL_ints _ | exact fzL_strs _ | exact fz_ints _ | exact fz_strs _) (by first | assumption | rfl | exact fzL_ints _ | exact fzL_strs _ | exact fz_ints _ | exact fz_strs _))) ?_; conv => whnf) | (refine And.intro (by first | exact Or.inl (by decide) | exact Or.inr (by decide)) ?_; conv => whnf) | (refine Or.inl (And.intro (by first | assumption | rfl | exact fzL_ints _ | exact fzL_strs _ | exact fz_ints _ | exact fz_strs _) ?_); conv => whnf) | (refine ⟨fun _ => ?_, fun z => Bool.noConfusion z⟩; conv => whnf) | (refine ⟨fun z => Bool.noConfusion z, fun _ => ?_⟩; conv => whnf) | (intro p0 z; rw [frz_lstp (by first | assumption | rfl | exact fzL_ints _ | exact fzL_strs _ | exact fz_ints _ | exact fz_strs _)] at z; subst z; conv => whnf) | (intro p0 z; rw [PV.fz_frz _ (by first | assumption | rfl | exact fzL_ints _ | exact fzL_strs _ | exact fz_ints _ | exact fz_strs _)] at z; subst z; conv => whnf))
    have el : (((ls.map PV.str).length : Nat) : Int) = (ls.length : Int) := by simp
    rw [el]
    refine draw_ok hD hc (by omega) (lg (by omega) (by omega)) fun j i3 r3 k3 hj0 hj1 => ?_
    (conv => whnf); repeat (first | (refine ⟨_, rfl, (by first | assumption | rfl | exact fzL_ints _ | exact fzL_strs _ | exact fz_ints _ | exact fz_strs _), ?_⟩; conv => whnf) | (refine ⟨_, rfl, ?_⟩; conv => whnf) | (refine And.intro rfl ?_; conv => whnf) | (refine And.intro (by first | assumption | decide | omega) ?_; conv => whnf) | (refine And.intro (by first | assumption | rfl | exact fzL_ints _ | exact fzL_strs _ | exact fz_ints _ | exact fz_strs _) ?_; conv => whnf) | (refine And.intro (And.intro (by first | assumption | decide | omega) (by first | assumption | decide | omega)) ?_; conv => whnf) | (refine And.intro (And.intro (And.intro (by first | assumption | decide | omega) (by first | assumption | decide | omega)) (And.intro (by first | assumption | decide | omega) (by first | assumption | decide | omega))) ?_; conv => whnf) | (refine And.intro (And.intro (by first | assumption | rfl | exact fzL_ints _ | exact fzL_strs _ | exact fz_ints _ | exact fz_strs _) (And.intro (by first | assumption | rfl | exact fzL_ints _ | exact fzL_strs _ | exact fz_ints _ | exact fz_strs _) (by first | assumption | rfl | exact fzL_ints _ | exact fzL_strs _ | exact fz_ints _ | exact fz_strs _))) ?_; conv => whnf) | (refine And.intro (by first | exact Or.inl (by decide) | exact Or.inr (by decide)) ?_; conv => whnf) | (refine Or.inl (And.intro (by first | assumption | rfl | exact fzL_ints _ | exact fzL_strs _ | exact fz_ints _ | exact fz_strs _) ?_); conv => whnf) | (refine ⟨fun _ => ?_, fun z => Bool.noConfusion z⟩; conv => whnf) | (refine ⟨fun z => Bool.noConfusion z, fun _ => ?_⟩; conv => whnf) | (intro p0 z; rw [frz_lstp (by first | assumption | rfl | exact fzL_ints _ | exact fzL_strs _ | exact fz_ints _ | exact fz_strs _)] at z; subst z; conv => whnf) | (intro p0 z; rw [PV.fz_frz _ (by first | assumption | rfl | exact fzL_ints _ | exact fzL_strs _ | exact fz_ints _ | exact fz_strs _)] at z; subst z; conv => whnf))
    obtain ⟨s, hs, es⟩ := atI_str hj0 hj1
    refine ⟨_, es, rfl, ?_⟩
    refine ⟨_, rfl, Nat.lt_of_le_of_lt (show _ ≤ 1001 by simp; omega) (by rw [sizeLine_eq]; decide), _, _, _, fs ++ [s], by simp [PV.frz], by simp; omega, fun t ht => ?_, rfl⟩
    rcases mem_app_one ht with h | rfl
    · exact h2 t h
    · exact hs
end Y
end
section
set_option Elab.async false
set_option linter.all false
set_option maxRecDepth 100000
set_option maxHeartbeats 2000000
set_option autoImplicit false
/-! V6: == of lists of one kind. -/
namespace Y
open PySem
theorem datL_of {α : Type} {f : α → PV} {g : α → PyData} (h : ∀ x, (f x).dat = some (g x)) : ∀ xs : List α, PV.datL (xs.map f) = some (xs.map g)
  | [] => rfl
  | x :: xs => by simp only [List.map_cons, PV.datL, h, datL_of h xs]
theorem eqvAll_of {α : Type} [DecidableEq α] {g : α → PyData} (h : ∀ x y, PyData.eqv (g x) (g y) = decide (x = y)) : ∀ xs ys : List α, PyData.eqvAll (xs.map g) (ys.map g) = decide (xs = ys)
  | [], [] => rfl
  | [], _ :: _ => rfl
  | _ :: _, [] => rfl
  | x :: a, y :: b => by
    simp only [List.map_cons, PyData.eqvAll, eqvAll_of h a b, h]
    by_cases e : x = y <;> by_cases e2 : a = b <;> simp [e, e2]
theorem depthAll_of {α : Type} {g : α → PyData} {m : Nat} (h : ∀ x, (g x).depth ≤ m) : ∀ xs : List α, PyData.depthAll (xs.map g) ≤ m
  | [] => by simp [PyData.depthAll]
  | x :: xs => by
    have h1 := h x
    have h2 := depthAll_of h xs
    simp only [List.map_cons, PyData.depthAll]
    omega
/-- data of one kind -/
structure Kd (α : Type) [DecidableEq α] where
  f : α → PV
  g : α → PyData
  m : Nat
  dat : ∀ x, (f x).dat = some (g x)
  eqv : ∀ x y, PyData.eqv (g x) (g y) = decide (x = y)
  dep : ∀ x, (g x).depth ≤ m
theorem kd_eq {α : Type} [DecidableEq α] (K : Kd α) (hm : K.m < 60) {o o2 : Bool} {xs ys : List α} : opN (.cmp .Eq) [.lst o (xs.map K.f), .lst o2 (ys.map K.f)] = some (.bl (decide (xs = ys))) := by
  show (cmpN .Eq _ _).map _ = _
  have hd := depthAll_of K.dep xs
  have h1 : (PyData.list (xs.map K.g)).depth ≤ 60 := by simp only [PyData.depth]; omega
  simp only [cmpN, cdat, PV.dat, datL_of K.dat, Option.map, decide_eq_true h1, if_true, PyData.eqv, eqvAll_of K.eqv]
theorem kd_ne {α : Type} [DecidableEq α] (K : Kd α) (hm : K.m < 60) {o o2 : Bool} {xs ys : List α} : opN (.cmp .NotEq) [.lst o (xs.map K.f), .lst o2 (ys.map K.f)] = some (.bl (!decide (xs = ys))) := by
  show (cmpN .NotEq _ _).map _ = _
  have hd := depthAll_of K.dep xs
  have h1 : (PyData.list (xs.map K.g)).depth ≤ 60 := by simp only [PyData.depth]; omega
  simp only [cmpN, cdat, PV.dat, datL_of K.dat, Option.map, decide_eq_true h1, if_true, PyData.eqv, eqvAll_of K.eqv]
def kStr : Kd Str := ⟨.str, .str, 0, fun _ => rfl, eqv_str, fun _ => by simp [PyData.depth]⟩
def kInt : Kd Int := ⟨.int, .int, 0, fun _ => rfl, eqv_int, fun _ => by simp [PyData.depth]⟩
def Kd.list {α : Type} [DecidableEq α] (K : Kd α) : Kd (List α) := ⟨fun xs => .lst false (xs.map K.f), fun xs => .list (xs.map K.g), K.m + 1, fun xs => by simp only [PV.dat, datL_of K.dat]; rfl, fun xs ys => by simp only [PyData.eqv, eqvAll_of K.eqv],
  fun xs => by have := depthAll_of K.dep xs; simp only [PyData.depth]; omega⟩
theorem n_eqS {o o2 : Bool} {xs ys : List Str} : opN (.cmp .Eq) [.lst o (xs.map .str), .lst o2 (ys.map .str)] = some (.bl (decide (xs = ys))) := kd_eq kStr (by decide)
theorem n_neS {o o2 : Bool} {xs ys : List Str} : opN (.cmp .NotEq) [.lst o (xs.map .str), .lst o2 (ys.map .str)] = some (.bl (!decide (xs = ys))) := kd_ne kStr (by decide)
theorem n_neS0 {o o2 : Bool} {xs : List Str} : opN (.cmp .NotEq) [.lst o (xs.map .str), .lst o2 []] = some (.bl (!decide (xs = []))) := kd_ne kStr (by decide) (ys := [])
/-- a file -/
abbrev fP (a : List Str) : PV := .lst false (a.map .str)
theorem n_eqF {o o2 : Bool} {xs ys : List (List Str)} : opN (.cmp .Eq) [.lst o (xs.map fP), .lst o2 (ys.map fP)] = some (.bl (decide (xs = ys))) := kd_eq kStr.list (by decide)
theorem n_neF {o o2 : Bool} {xs ys : List (List Str)} : opN (.cmp .NotEq) [.lst o (xs.map fP), .lst o2 (ys.map fP)] = some (.bl (!decide (xs = ys))) := kd_ne kStr.list (by decide)
theorem fzL_fP : ∀ xs : List (List Str), PV.fzL (xs.map fP) = true
  | [] => rfl
  | x :: xs => by simp [PV.fzL, fz_strs, fzL_fP xs]
theorem vwAt_map {α : Type} {f : α → PV} (hf : ∀ x, (f x).fz = true) {ρ : Fr} {i j : Nat} {o : Bool} {xs : List α} (e : ρ.at i = some (.lst o (xs.map f))) (hj : j < xs.length) : vwAt ρ i (xs.map f).length j = some (f xs[j]) := by
  simp only [vwAt, e, if_true]
  simp [hj, hf]
theorem vwLen_map {α : Type} {f : α → PV} {ρ : Fr} {i : Nat} {o : Bool} {xs : List α} (e : ρ.at i = some (.lst o (xs.map f))) : vwLen ρ i (xs.map f).length = true := by
  simp only [vwLen, e]
  simp
theorem cut_map {α β : Type} (f : α → β) (xs : List α) (lo hi : Option Int) : cutP (xs.map f) lo hi = (cutP xs lo hi).map f := by
  simp only [cutP, List.length_map, List.map_take, List.map_drop]
theorem cut_len {α : Type} (xs : List α) (lo hi : Option Int) : (cutP xs lo hi).length ≤ xs.length := by
  simp only [cutP, List.length_take, List.length_drop]
  omega
theorem cut_mem {α : Type} {xs : List α} {lo hi : Option Int} {x : α} (h : x ∈ cutP xs lo hi) : x ∈ xs := List.mem_of_mem_drop (List.mem_of_mem_take h)
theorem ixN_in {n : Nat} {i : Int} (h0 : 0 ≤ i) (h1 : i < n) : L2.ixN n i = some i.toNat := by
  unfold L2.ixN
  rw [if_pos h0, if_pos h1]
theorem atI_get {α β : Type} {f : α → β} {xs : List α} {j : Int} (h0 : 0 ≤ j) (h1 : j < xs.length) : ∃ (hj : j.toNat < xs.length), L2.atI (xs.map f) j = some (f xs[j.toNat]) := by
  have h2 : j.toNat < xs.length := by omega
  refine ⟨h2, ?_⟩
  have := atI_map (f := f) h2
  rwa [show ((j.toNat : Nat) : Int) = j from by omega] at this
theorem small_lt {n m : Nat} (h : n ≤ m) (hm : m ≤ 10000 := by decide) : n < sizeLine := Nat.lt_of_le_of_lt h (Nat.lt_of_le_of_lt hm (by rw [sizeLine_eq]; decide))
end Y
end
section
set_option Elab.async false
set_option linter.all false
set_option maxRecDepth 100001
namespace K01
open PySem Y L2
def top (i : Nat) : Stmt := PySem.Challenge.pw_markedblocks_k01_lines_and_files.main.body.getD i (.Pass ⟨0, 0, 0, 0⟩)
def xd_BadFile : XD := ⟨"BadFile", ["index"], [("BadFile", true)], []⟩
def b_is_line : List IS := [
  .ife (.or (.op .not [.op .isi [.loc 0, .cst (.ty "str")]]) (.op (.cmp .Gt) [.op .len [.loc 0], .cst (.int 80)])) [.ret (.cst (.bl false))] [],
  .ret (.op .all [.comp (.chain .LtE .LtE (.cst (.str " ")) (.loc 1) (.cst (.str "~"))) (.nm 1) (.it (.loc 0)) [] [1]])]
def fd_is_line : Fd := ⟨2, 1, [true], b_is_line⟩
def en_is_line : Ent := ⟨"is_line", top 4, ["thing", "sign"], ["thing"], fd_is_line⟩
def b_look_file : List IS := [
  .ife (.op .not [.op .isi [.loc 0, .cst (.ty "list")]]) [.rai xd_BadFile [.op .neg [.cst (.int 1)]]] [],
  .fors (.tp [.nm 1, .nm 2]) (.enm (.loc 0)) [.ife (.op .not [.call "is_line" [true] [.loc 2]]) [.rai xd_BadFile [.loc 1]] []],
  .ret (.op .list [.loc 0])]
def fd_look_file : Fd := ⟨3, 1, [true], b_look_file⟩
def en_look_file : Ent := ⟨"look_file", top 5, ["lines", "index", "line"], ["lines"], fd_look_file⟩
def b_law_draw : List IS := [
  .sub 0 (.cst (.int 3)) (.op (.bin .Add) [.op .ix [.loc 0, .cst (.int 3)], .cst (.int 1)]),
  .ife (.op (.cmp .Eq) [.op .ix [.loc 0, .cst (.int 2)], .cst (.int 0)]) [.set 3 (.op .ix [.op .ix [.loc 0, .cst (.int 0)], .op (.bin .Mod) [.op .int [.op .ix [.loc 0, .cst (.int 1)]], .op .len [.op .ix [.loc 0, .cst (.int 0)]]]]), .sub 0 (.cst (.int 1)) (.op (.bin .Add) [.op .ix [.loc 0, .cst (.int 1)], .cst (.int 1)]), .ife (.op (.cmp .Lt) [.loc 3, .op (.bin .Pow) [.cst (.int 10), .cst (.int 18)]]) [.set 4 (.op (.bin .Mod) [.op .int [.op (.bin .Add) [.op (.bin .Add) [.op (.bin .Mult) [.loc 3, .cst (.int 48271)], .op (.bin .Mult) [.op .ix [.loc 0, .cst (.int 3)], .cst (.int 69621)]], .cst (.int 12345)]], .cst (.int 2147483629)]), .ret (.op (.bin .Mod) [.op (.bin .FloorDiv) [.op (.bin .Mod) [.op .int [.op (.bin .Add) [.op (.bin .Mult) [.loc 4, .cst (.int 16807)], .op (.bin .Mult) [.op .ix [.loc 0, .cst (.int 3)], .cst (.int 104729)]]], .cst (.int 2147483587)], .cst (.int 7)], .loc 1])] [], .sub 0 (.cst (.int 2)) (.loc 3)] [],
  .set 2 (.op (.bin .Mod) [.op .int [.op .ix [.loc 0, .cst (.int 2)]], .loc 1]),
  .sub 0 (.cst (.int 2)) (.op (.bin .FloorDiv) [.op .int [.op .ix [.loc 0, .cst (.int 2)]], .loc 1]),
  .ret (.mov 2)]
def fd_law_draw : Fd := ⟨5, 2, [true, true], b_law_draw⟩
def en_law_draw : Ent := ⟨"_law_draw", top 7, ["_law_pot_here", "_law_many", "_law_digit", "_law_cell", "_law_mixed"], ["_law_pot_here", "_law_many"], fd_law_draw⟩
def b_law_pot : List IS := [
  .ret (.lst [.op (.bin .Add) [.op .list [.loc 0], .op (.bin .Mult) [.lst [.cst (.int 0)], .op .int [.op (.cmp .Eq) [.op .len [.loc 0], .cst (.int 0)]]]], .cst (.int 0), .cst (.int 0), .cst (.int 0)])]
def fd_law_pot : Fd := ⟨1, 1, [true], b_law_pot⟩
def en_law_pot : Ent := ⟨"_law_pot", top 8, ["_law_script"], ["_law_script"], fd_law_pot⟩
def b_law_text : List IS := [
  .set 2 (.cst (.str " !\"#$&'()*+,-./0123456789:;<=>?@ABCDEFGHIJKLMNOPQRSTUVWXYZ[\\]^_`abcdefghijklmnopqrstuvwxyz{|}~")),
  .set 3 (.call "_law_draw" [true, true] [.loc 0, .op (.bin .Add) [.loc 1, .cst (.int 1)]]),
  .ret (.op .join [.cst (.str ""), .comp (.op .ix [.loc 2, .call "_law_draw" [true, true] [.loc 0, .cst (.int 94)]]) (.nm 4) (.rng [.loc 3]) [] [4]])]
def fd_law_text : Fd := ⟨5, 2, [true, true], b_law_text⟩
def en_law_text : Ent := ⟨"_law_text", top 9, ["_law_pot_here", "_law_most", "_law_signs", "_law_size", "_law_k"], ["_law_pot_here", "_law_most"], fd_law_text⟩
def b_law_is : List IS := [
  .ret (.and (.op .isi [.loc 0, .cst (.ty "bool")]) (.op (.cmp .Eq) [.loc 0, .loc 1]))]
def fd_law_is : Fd := ⟨2, 2, [true, true], b_law_is⟩
def en_law_is : Ent := ⟨"_law_is", top 10, ["_law_told", "_law_due"], ["_law_told", "_law_due"], fd_law_is⟩
def b_law_thing : List IS := [
  .set 1 (.call "_law_draw" [true, true] [.loc 0, .cst (.int 9)]),
  .ife (.op (.cmp .Gt) [.loc 1, .cst (.int 5)]) [.ret (.op .ix [.lst [.call "_law_draw" [true, true] [.loc 0, .op (.bin .Pow) [.cst (.int 10), .cst (.int 9)]], .cst .non, .lst [], .cst (.bl true), .tup [.cst (.str "a")], .lst [.cst (.str "a")], .op .neg [.cst (.int 5)]], .call "_law_draw" [true, true] [.loc 0, .cst (.int 7)]])] [],
  .set 2 (.op .ix [.lst [.call "_law_draw" [true, true] [.loc 0, .cst (.int 7)], .op (.bin .Add) [.cst (.int 78), .call "_law_draw" [true, true] [.loc 0, .cst (.int 6)]], .call "_law_draw" [true, true] [.loc 0, .cst (.int 84)]], .call "_law_draw" [true, true] [.loc 0, .cst (.int 3)]]),
  .set 3 (.op (.slice false true) [.op (.bin .Mult) [.cst (.str "abc x~"), .cst (.int 14)], .loc 2]),
  .set 3 (.op (.bin .Add) [.call "_law_text" [true, true] [.loc 0, .cst (.int 3)], .op (.slice true false) [.loc 3, .op .min2 [.cst (.int 3), .loc 2]]]),
  .ife (.and (.op (.cmp .Gt) [.loc 1, .cst (.int 2)]) (.op (.cmp .NotEq) [.loc 3, .cst (.str "")])) [.set 4 (.call "_law_draw" [true, true] [.loc 0, .op .len [.loc 3]]), .set 3 (.op (.bin .Add) [.op (.bin .Add) [.op (.slice false true) [.loc 3, .loc 4], .op .ix [.lst [.cst (.str "\n"), .cst (.str "z")], .call "_law_draw" [true, true] [.loc 0, .cst (.int 2)]]], .op (.slice true false) [.loc 3, .op (.bin .Add) [.loc 4, .cst (.int 1)]]])] [],
  .ret (.mov 3)]
def fd_law_thing : Fd := ⟨5, 1, [true], b_law_thing⟩
def en_law_thing : Ent := ⟨"_law_thing", top 11, ["_law_pot_here", "_law_kind", "_law_size", "_law_text_here", "_law_at"], ["_law_pot_here"], fd_law_thing⟩
def b_law_is_line : List IS := [
  .ife (.op .not [.op .isi [.loc 0, .cst (.ty "str")]]) [.ret (.cst (.bl false))] [],
  .ret (.and (.op (.cmp .NotIn) [.cst (.str "\n"), .loc 0]) (.op (.cmp .LtE) [.op .len [.loc 0], .cst (.int 80)]))]
def fd_law_is_line : Fd := ⟨1, 1, [true], b_law_is_line⟩
def en_law_is_line : Ent := ⟨"_law_is_line", top 12, ["_law_thing_here"], ["_law_thing_here"], fd_law_is_line⟩
def b_law_index : List IS := [
  .tryx [.set 2 (.call "look_file" [true] [.loc 0])] (.cons "BadFile" (some 1) [.ife (.op .isi [.xf "index", .cst (.ty "bool")]) [.ret (.cst .non)] [], .ret (.xf "index")] .nil),
  .ret (.tupo [.cst (.str "new"), .mov 2])]
def fd_law_index : Fd := ⟨3, 1, [true], b_law_index⟩
def en_law_index : Ent := ⟨"_law_index", top 13, ["_law_call", "e", "_law_told"], ["_law_call"], fd_law_index⟩
def b_law : List IS := [
  .set 1 (.call "_law_pot" [true] [.loc 0]),
  .set 2 (.comp (.call "_law_thing" [true] [.loc 1]) (.nm 9) (.rng [.cst (.int 7)]) [] [9]),
  .fors (.nm 3) (.it (.loc 2)) [.ife (.op .not [.call "_law_is" [true, true] [.call "is_line" [true] [.loc 3], .call "_law_is_line" [true] [.loc 3]]]) [.ret (.cst (.bl false))] []],
  .set 4 (.comp (.call "_law_text" [true, true] [.loc 1, .cst (.int 80)]) (.nm 9) (.rng [.call "_law_draw" [true, true] [.loc 1, .cst (.int 31)]]) [] [9]),
  .ife (.op (.cmp .Gt) [.call "_law_draw" [true, true] [.loc 1, .cst (.int 4)], .cst (.int 0)]) [.fors (.nm 9) (.rng [.op (.bin .Add) [.cst (.int 1), .call "_law_draw" [true, true] [.loc 1, .cst (.int 2)]]]) [.set 10 (.call "_law_draw" [true, true] [.loc 1, .op (.bin .Add) [.op .len [.loc 4], .cst (.int 1)]]), .set 4 (.op (.bin .Add) [.op (.bin .Add) [.op (.slice false true) [.loc 4, .loc 10], .lst [.op .ix [.loc 2, .loc 9]]], .op (.slice true false) [.loc 4, .loc 10]])]] [],
  .set 5 (.comp (.loc 9) (.nm 9) (.rng [.op .len [.loc 4]]) [.op .not [.call "_law_is_line" [true] [.op .ix [.loc 4, .loc 9]]]] [9]),
  .set 6 (.op .list [.loc 4]),
  .set 7 (.call "_law_index" [true] [.loc 4]),
  .ife (.op (.cmp .NotEq) [.loc 4, .loc 6]) [.ret (.cst (.bl false))] [],
  .ife (.op (.cmp .NotEq) [.loc 5, .lst []]) [.ife (.op (.cmp .NotEq) [.loc 7, .op .ix [.loc 5, .cst (.int 0)]]) [.ret (.cst (.bl false))] []] [.ife (.or (.dcmp .NotEq none [.loc 7] (some true) [.cst (.str "new"), .loc 6]) (.op .not [.op .isi [.it 7 1, .cst (.ty "list")]])) [.ret (.cst (.bl false))] [], .appi 7 1 "x", .ife (.op (.cmp .NotEq) [.loc 4, .loc 6]) [.ret (.cst (.bl false))] []],
  .set 8 (.comp (.loc 3) (.nm 3) (.it (.loc 2)) [.call "_law_is_line" [true] [.loc 3]] [3]),
  .ret (.and (.op (.cmp .Eq) [.call "_law_index" [true] [.op .tuple [.loc 8]], .op .neg [.cst (.int 1)]]) (.and (.op (.cmp .Eq) [.call "_law_index" [true] [.cst (.str "ab")], .op .neg [.cst (.int 1)]]) (.op (.cmp .Eq) [.call "_law_index" [true] [.cst .non], .op .neg [.cst (.int 1)]])))]
def fd_law : Fd := ⟨11, 1, [true], b_law⟩
def en_law : Ent := ⟨"law", top 14, ["_law_script", "_law_pot_here", "_law_things", "_law_thing_here", "_law_lines", "_law_bad", "_law_kept", "_law_told", "_law_good", "_law_k", "_law_at"], ["_law_script"], fd_law⟩
def lw : Lw := ⟨[en_is_line, en_look_file, en_law_draw, en_law_pot, en_law_text, en_law_is, en_law_thing, en_law_is_line, en_law_index, en_law], [("LONGEST", (.int 80))], ["all", "bool", "enumerate", "int", "isinstance", "len", "list", "min", "range", "str", "tuple"], [xd_BadFile]⟩
theorem c_is_line : lw.entC en_is_line = true := by decide +kernel
theorem c_look_file : lw.entC en_look_file = true := by decide +kernel
theorem c_law_draw : lw.entC en_law_draw = true := by decide +kernel
theorem c_law_pot : lw.entC en_law_pot = true := by decide +kernel
theorem c_law_text : lw.entC en_law_text = true := by decide +kernel
theorem c_law_is : lw.entC en_law_is = true := by decide +kernel
theorem c_law_thing : lw.entC en_law_thing = true := by decide +kernel
theorem c_law_is_line : lw.entC en_law_is_line = true := by decide +kernel
theorem c_law_index : lw.entC en_law_index = true := by decide +kernel
theorem c_law : lw.entC en_law = true := by decide +kernel
theorem lwok : lw.ok := ⟨by decide +kernel, fun e he => by
  simp only [lw, List.mem_cons, List.not_mem_nil, or_false] at he
  rcases he with rfl | rfl | rfl | rfl | rfl | rfl | rfl | rfl | rfl | rfl
  · exact c_is_line
  · exact c_look_file
  · exact c_law_draw
  · exact c_law_pot
  · exact c_law_text
  · exact c_law_is
  · exact c_law_thing
  · exact c_law_is_line
  · exact c_law_index
  · exact c_law
  ⟩
end K01
end
section
set_option Elab.async false
set_option linter.all false
set_option maxRecDepth 100001
set_option maxHeartbeats 2000001
set_option autoImplicit false
namespace K01
open PySem Y PySem.StrLaws
theorem nd : (lw.es.map (·.key)).Nodup := lwok.1
theorem T_draw : lw.T ("_law_draw" : Str) = some ⟨5, 2, [true, true], drawB⟩ := tblOf_mem (e := en_law_draw) nd (by simp [lw])
theorem T_text : lw.T ("_law_text" : Str) = some ⟨5, 2, [true, true], textB⟩ := tblOf_mem (e := en_law_text) nd (by simp [lw])
theorem T_pot : lw.T ("_law_pot" : Str) = some ⟨1, 1, [true], potB⟩ := tblOf_mem (e := en_law_pot) nd (by simp [lw])
theorem is_ok {n : Nat} {a b : Bool} {Q : PV → Fr → Prop} {E : PX → Fr → Prop} (h : Q (.bl (decide (a = b))) [some (.bl a), some (.bl b)]) : zC (callN lw.T 100 (n + 1)) ("_law_is" : Str) [.bl a, .bl b] Q E := by
  refine run_ok (tblOf_mem (e := en_law_is) nd (by simp [lw])) rfl ?_
  (conv => whnf); repeat (first | (refine ⟨_, rfl, (by first | assumption | rfl | exact fzL_ints _ | exact fzL_strs _ | exact fz_ints _ | exact fz_strs _), ?_⟩; conv => whnf) | (refine ⟨_, rfl, ?_⟩; conv => whnf) | (refine And.intro rfl ?_; conv => whnf) | (refine And.intro (by first | assumption | decide | omega) ?_; conv => whnf) | (refine And.intro (by first | assumption | rfl | exact fzL_ints _ | exact fzL_strs _ | exact fz_ints _ | exact fz_strs _) ?_; conv => whnf) | (refine And.intro (And.intro (by first | assumption | decide | omega) (by first | assumption | decide | omega)) ?_; conv => whnf) | (refine And.intro (And.intro (And.intro (by first | assumption | decide | omega) (by first | assumption | decide | omega)) (And.intro (by first | assumption | decide | omega) (by first | assumption | decide | omega))) ?_; conv => whnf) | (refine And.intro (And.intro (by first | assumption | rfl | exact fzL_ints _ | exact fzL_strs _ | exact fz_ints _ | exact fz_strs _) (And.intro (by first | assumption | rfl | exact fzL_ints _ | exact fzL_strs _ | exact fz_ints _ | exact fz_strs _) (by first | assumption | rfl | exact fzL_ints _ | exact fzL_strs _ | exact fz_ints _ | exact fz_strs _))) ?_; conv => whnf) | (refine And.intro (by first | exact Or.inl (by decide) | exact Or.inr (by decide)) ?_; conv => whnf) | (refine Or.inl (And.intro (by first | assumption | rfl | exact fzL_ints _ | exact fzL_strs _ | exact fz_ints _ | exact fz_strs _) ?_); conv => whnf) | (refine ⟨fun _ => ?_, fun z => Bool.noConfusion z⟩; conv => whnf) | (refine ⟨fun z => Bool.noConfusion z, fun _ => ?_⟩; conv => whnf) | (intro p0 z; rw [frz_lstp (by first | assumption | rfl | exact fzL_ints _ | exact fzL_strs _ | exact fz_ints _ | exact fz_strs _)] at z; subst z; conv => whnf) | (intro p0 z; rw [PV.fz_frz _ (by first | assumption | rfl | exact fzL_ints _ | exact fzL_strs _ | exact fz_ints _ | exact fz_strs _)] at z; subst z; conv => whnf))
  cases a <;> cases b <;> exact h
/-- what the law draws -/
inductive Th where
  | sS (x : Str) | iI (m : Int) | nN | tT | eE | uU | lL
def Th.p : Th → PV
  | .sS x => .str x
  | .iI m => .int m
  | .nN => .non
  | .tT => .bl true
  | .eE => .lst false []
  | .uU => .tup [.str "a"]
  | .lL => .lst false [.str "a"]
def Th.g : Th → PyData
  | .sS x => .str x
  | .iI m => .int m
  | .nN => .none
  | .tT => .bool true
  | .eE => .list []
  | .uU => .tuple [.str "a"]
  | .lL => .list [.str "a"]
def COk (c : Nat) : Prop := c = 10 ∨ (32 ≤ c ∧ c ≤ 126)
def SOk (m : Nat) (x : Str) : Prop := x.length ≤ m ∧ ∀ c ∈ x.cps.toList, COk c
def Th.ok : Th → Prop
  | .sS x => SOk 200 x
  | _ => True
def inR (c : Nat) : Bool := decide (32 ≤ c) && decide (c ≤ 126)
def L : Th → Bool
  | .sS x => decide (x.length ≤ 80) && (x.cps.toList.map inR).all id
  | _ => false
theorem fz_p (t : Th) : t.p.fz = true := by cases t <;> rfl
theorem fzL_of {α : Type} {f : α → PV} (h : ∀ x, (f x).fz = true) : ∀ xs : List α, PV.fzL (xs.map f) = true
  | [] => rfl
  | x :: xs => by simp [PV.fzL, h x, fzL_of h xs]
theorem fzL_p (xs : List Th) : PV.fzL (xs.map Th.p) = true := fzL_of fz_p xs
theorem fzL_bls (xs : List Bool) : PV.fzL (xs.map .bl) = true := fzL_of (fun _ => rfl) xs
theorem boolsP_mk : ∀ bs : List Bool, boolsP (bs.map .bl) = some bs
  | [] => rfl
  | b :: bs => by simp [boolsP, boolsP_mk bs]
theorem n_all {o : Bool} {bs : List Bool} : opN .all [.lst o (bs.map .bl)] = some (.bl (bs.all id)) := by
  show (((lstOf _).bind boolsP).map _) = _
  simp only [lstOf, Option.bind, boolsP_mk]
  rfl
theorem bl_space : (" " : Str).cps.toList = [32] := by decide +kernel
theorem bl_tilde : ("~" : Str).cps.toList = [126] := by decide +kernel
theorem le_one (a b : Nat) : decide ([a] ≤ [b]) = decide (a ≤ b) := by
  by_cases h : a ≤ b
  · rw [decide_eq_true h]
    exact decide_eq_true (by rw [List.cons_le_cons_iff]; rcases Nat.lt_or_eq_of_le h with z | z
                             · exact .inl z
                             · exact .inr ⟨z, List.nil_le _⟩)
  · rw [decide_eq_false h]
    exact decide_eq_false (by rw [List.cons_le_cons_iff]; rintro (z | ⟨z, _⟩) <;> omega)
theorem T_isl : lw.T ("is_line" : Str) = some fd_is_line := tblOf_mem (e := en_is_line) nd (by simp [lw])
theorem isl_ok {n : Nat} {x : Th} (hx : x.ok) {Q : PV → Fr → Prop} {E : PX → Fr → Prop} (h : Q (.bl (L x)) [some x.p]) : zC (callN lw.T 100 (n + 1)) ("is_line" : Str) [x.p] Q E := by
  cases x with
  | sS s =>
    have hx' : SOk 200 s := hx
    have h0 : okS s.length = true := okS_of (Nat.le_trans hx'.1 (by decide))
    refine run_ok T_isl rfl ?_
    (conv => whnf); repeat (first | (refine ⟨_, rfl, (by first | assumption | rfl | exact fzL_ints _ | exact fzL_strs _ | exact fz_ints _ | exact fz_strs _), ?_⟩; conv => whnf) | (refine ⟨_, rfl, ?_⟩; conv => whnf) | (refine And.intro rfl ?_; conv => whnf) | (refine And.intro (by first | assumption | decide | omega) ?_; conv => whnf) | (refine And.intro (by first | assumption | rfl | exact fzL_ints _ | exact fzL_strs _ | exact fz_ints _ | exact fz_strs _) ?_; conv => whnf) | (refine And.intro (And.intro (by first | assumption | decide | omega) (by first | assumption | decide | omega)) ?_; conv => whnf) | (refine And.intro (And.intro (And.intro (by first | assumption | decide | omega) (by first | assumption | decide | omega)) (And.intro (by first | assumption | decide | omega) (by first | assumption | decide | omega))) ?_; conv => whnf) | (refine And.intro (And.intro (by first | assumption | rfl | exact fzL_ints _ | exact fzL_strs _ | exact fz_ints _ | exact fz_strs _) (And.intro (by first | assumption | rfl | exact fzL_ints _ | exact fzL_strs _ | exact fz_ints _ | exact fz_strs _) (by first | assumption | rfl | exact fzL_ints _ | exact fzL_strs _ | exact fz_ints _ | exact fz_strs _))) ?_; conv => whnf) | (refine And.intro (by first | exact Or.inl (by decide) | exact Or.inr (by decide)) ?_; conv => whnf) | (refine Or.inl (And.intro (by first | assumption | rfl | exact fzL_ints _ | exact fzL_strs _ | exact fz_ints _ | exact fz_strs _) ?_); conv => whnf) | (refine ⟨fun _ => ?_, fun z => Bool.noConfusion z⟩; conv => whnf) | (refine ⟨fun z => Bool.noConfusion z, fun _ => ?_⟩; conv => whnf) | (intro p0 z; rw [frz_lstp (by first | assumption | rfl | exact fzL_ints _ | exact fzL_strs _ | exact fz_ints _ | exact fz_strs _)] at z; subst z; conv => whnf) | (intro p0 z; rw [PV.fz_frz _ (by first | assumption | rfl | exact fzL_ints _ | exact fzL_strs _ | exact fz_ints _ | exact fz_strs _)] at z; subst z; conv => whnf))
    refine ⟨fun hk => ?_, fun hk => ?_⟩
    · (conv => whnf); repeat (first | (refine ⟨_, rfl, (by first | assumption | rfl | exact fzL_ints _ | exact fzL_strs _ | exact fz_ints _ | exact fz_strs _), ?_⟩; conv => whnf) | (refine ⟨_, rfl, ?_⟩; conv => whnf) | (refine And.intro rfl ?_; conv => whnf) | (refine And.intro (by first | assumption | decide | omega) ?_; conv => whnf) | (refine And.intro (by first | assumption | rfl | exact fzL_ints _ | exact fzL_strs _ | exact fz_ints _ | exact fz_strs _) ?_; conv => whnf) | (refine And.intro (And.intro (by first | assumption | decide | omega) (by first | assumption | decide | omega)) ?_; conv => whnf) | (refine And.intro (And.intro (And.intro (by first | assumption | decide | omega) (by first | assumption | decide | omega)) (And.intro (by first | assumption | decide | omega) (by first | assumption | decide | omega))) ?_; conv => whnf) | (refine And.intro (And.intro (by first | assumption | rfl | exact fzL_ints _ | exact fzL_strs _ | exact fz_ints _ | exact fz_strs _) (And.intro (by first | assumption | rfl | exact fzL_ints _ | exact fzL_strs _ | exact fz_ints _ | exact fz_strs _) (by first | assumption | rfl | exact fzL_ints _ | exact fzL_strs _ | exact fz_ints _ | exact fz_strs _))) ?_; conv => whnf) | (refine And.intro (by first | exact Or.inl (by decide) | exact Or.inr (by decide)) ?_; conv => whnf) | (refine Or.inl (And.intro (by first | assumption | rfl | exact fzL_ints _ | exact fzL_strs _ | exact fz_ints _ | exact fz_strs _) ?_); conv => whnf) | (refine ⟨fun _ => ?_, fun z => Bool.noConfusion z⟩; conv => whnf) | (refine ⟨fun z => Bool.noConfusion z, fun _ => ?_⟩; conv => whnf) | (intro p0 z; rw [frz_lstp (by first | assumption | rfl | exact fzL_ints _ | exact fzL_strs _ | exact fz_ints _ | exact fz_strs _)] at z; subst z; conv => whnf) | (intro p0 z; rw [PV.fz_frz _ (by first | assumption | rfl | exact fzL_ints _ | exact fzL_strs _ | exact fz_ints _ | exact fz_strs _)] at z; subst z; conv => whnf))
      have e : L (.sS s) = false := by
        have : ¬ s.length ≤ 80 := by have := of_decide_eq_true hk; omega
        simp [L, this]
      rw [e] at h
      exact h
    · (conv => whnf); repeat (first | (refine ⟨_, rfl, (by first | assumption | rfl | exact fzL_ints _ | exact fzL_strs _ | exact fz_ints _ | exact fz_strs _), ?_⟩; conv => whnf) | (refine ⟨_, rfl, ?_⟩; conv => whnf) | (refine And.intro rfl ?_; conv => whnf) | (refine And.intro (by first | assumption | decide | omega) ?_; conv => whnf) | (refine And.intro (by first | assumption | rfl | exact fzL_ints _ | exact fzL_strs _ | exact fz_ints _ | exact fz_strs _) ?_; conv => whnf) | (refine And.intro (And.intro (by first | assumption | decide | omega) (by first | assumption | decide | omega)) ?_; conv => whnf) | (refine And.intro (And.intro (And.intro (by first | assumption | decide | omega) (by first | assumption | decide | omega)) (And.intro (by first | assumption | decide | omega) (by first | assumption | decide | omega))) ?_; conv => whnf) | (refine And.intro (And.intro (by first | assumption | rfl | exact fzL_ints _ | exact fzL_strs _ | exact fz_ints _ | exact fz_strs _) (And.intro (by first | assumption | rfl | exact fzL_ints _ | exact fzL_strs _ | exact fz_ints _ | exact fz_strs _) (by first | assumption | rfl | exact fzL_ints _ | exact fzL_strs _ | exact fz_ints _ | exact fz_strs _))) ?_; conv => whnf) | (refine And.intro (by first | exact Or.inl (by decide) | exact Or.inr (by decide)) ?_; conv => whnf) | (refine Or.inl (And.intro (by first | assumption | rfl | exact fzL_ints _ | exact fzL_strs _ | exact fz_ints _ | exact fz_strs _) ?_); conv => whnf) | (refine ⟨fun _ => ?_, fun z => Bool.noConfusion z⟩; conv => whnf) | (refine ⟨fun z => Bool.noConfusion z, fun _ => ?_⟩; conv => whnf) | (intro p0 z; rw [frz_lstp (by first | assumption | rfl | exact fzL_ints _ | exact fzL_strs _ | exact fz_ints _ | exact fz_strs _)] at z; subst z; conv => whnf) | (intro p0 z; rw [PV.fz_frz _ (by first | assumption | rfl | exact fzL_ints _ | exact fzL_strs _ | exact fz_ints _ | exact fz_strs _)] at z; subst z; conv => whnf))
      refine zK_in (fun rest acc ρ => ∃ done todo : List Nat, s.cps.toList = done ++ todo ∧ rest = todo.map (fun k => PV.str ⟨#[k]⟩) ∧ acc = (done.map inR).map .bl ∧ ρ = [some (.str s), none]) ?_ ?_ ?_
      · exact ⟨[], _, rfl, rfl, rfl, rfl⟩
      · rintro _ _ ⟨done, todo, e1, e2, rfl, rfl⟩
        have e3 : todo = [] := by simpa using e2.symm
        subst e3
        rw [List.append_nil] at e1
        have hf : PV.fzL ((done.map inR).map .bl) = true := fzL_bls _
        (conv => whnf); repeat (first | (refine ⟨_, rfl, (by first | assumption | rfl | exact fzL_ints _ | exact fzL_strs _ | exact fz_ints _ | exact fz_strs _), ?_⟩; conv => whnf) | (refine ⟨_, rfl, ?_⟩; conv => whnf) | (refine And.intro rfl ?_; conv => whnf) | (refine And.intro (by first | assumption | decide | omega) ?_; conv => whnf) | (refine And.intro (by first | assumption | rfl | exact fzL_ints _ | exact fzL_strs _ | exact fz_ints _ | exact fz_strs _) ?_; conv => whnf) | (refine And.intro (And.intro (by first | assumption | decide | omega) (by first | assumption | decide | omega)) ?_; conv => whnf) | (refine And.intro (And.intro (And.intro (by first | assumption | decide | omega) (by first | assumption | decide | omega)) (And.intro (by first | assumption | decide | omega) (by first | assumption | decide | omega))) ?_; conv => whnf) | (refine And.intro (And.intro (by first | assumption | rfl | exact fzL_ints _ | exact fzL_strs _ | exact fz_ints _ | exact fz_strs _) (And.intro (by first | assumption | rfl | exact fzL_ints _ | exact fzL_strs _ | exact fz_ints _ | exact fz_strs _) (by first | assumption | rfl | exact fzL_ints _ | exact fzL_strs _ | exact fz_ints _ | exact fz_strs _))) ?_; conv => whnf) | (refine And.intro (by first | exact Or.inl (by decide) | exact Or.inr (by decide)) ?_; conv => whnf) | (refine Or.inl (And.intro (by first | assumption | rfl | exact fzL_ints _ | exact fzL_strs _ | exact fz_ints _ | exact fz_strs _) ?_); conv => whnf) | (refine ⟨fun _ => ?_, fun z => Bool.noConfusion z⟩; conv => whnf) | (refine ⟨fun z => Bool.noConfusion z, fun _ => ?_⟩; conv => whnf) | (intro p0 z; rw [frz_lstp (by first | assumption | rfl | exact fzL_ints _ | exact fzL_strs _ | exact fz_ints _ | exact fz_strs _)] at z; subst z; conv => whnf) | (intro p0 z; rw [PV.fz_frz _ (by first | assumption | rfl | exact fzL_ints _ | exact fzL_strs _ | exact fz_ints _ | exact fz_strs _)] at z; subst z; conv => whnf))
        refine ⟨_, n_all, ?_⟩
        (conv => whnf); repeat (first | (refine ⟨_, rfl, (by first | assumption | rfl | exact fzL_ints _ | exact fzL_strs _ | exact fz_ints _ | exact fz_strs _), ?_⟩; conv => whnf) | (refine ⟨_, rfl, ?_⟩; conv => whnf) | (refine And.intro rfl ?_; conv => whnf) | (refine And.intro (by first | assumption | decide | omega) ?_; conv => whnf) | (refine And.intro (by first | assumption | rfl | exact fzL_ints _ | exact fzL_strs _ | exact fz_ints _ | exact fz_strs _) ?_; conv => whnf) | (refine And.intro (And.intro (by first | assumption | decide | omega) (by first | assumption | decide | omega)) ?_; conv => whnf) | (refine And.intro (And.intro (And.intro (by first | assumption | decide | omega) (by first | assumption | decide | omega)) (And.intro (by first | assumption | decide | omega) (by first | assumption | decide | omega))) ?_; conv => whnf) | (refine And.intro (And.intro (by first | assumption | rfl | exact fzL_ints _ | exact fzL_strs _ | exact fz_ints _ | exact fz_strs _) (And.intro (by first | assumption | rfl | exact fzL_ints _ | exact fzL_strs _ | exact fz_ints _ | exact fz_strs _) (by first | assumption | rfl | exact fzL_ints _ | exact fzL_strs _ | exact fz_ints _ | exact fz_strs _))) ?_; conv => whnf) | (refine And.intro (by first | exact Or.inl (by decide) | exact Or.inr (by decide)) ?_; conv => whnf) | (refine Or.inl (And.intro (by first | assumption | rfl | exact fzL_ints _ | exact fzL_strs _ | exact fz_ints _ | exact fz_strs _) ?_); conv => whnf) | (refine ⟨fun _ => ?_, fun z => Bool.noConfusion z⟩; conv => whnf) | (refine ⟨fun z => Bool.noConfusion z, fun _ => ?_⟩; conv => whnf) | (intro p0 z; rw [frz_lstp (by first | assumption | rfl | exact fzL_ints _ | exact fzL_strs _ | exact fz_ints _ | exact fz_strs _)] at z; subst z; conv => whnf) | (intro p0 z; rw [PV.fz_frz _ (by first | assumption | rfl | exact fzL_ints _ | exact fzL_strs _ | exact fz_ints _ | exact fz_strs _)] at z; subst z; conv => whnf))
        have e : L (.sS s) = (done.map inR).all id := by
          have : s.length ≤ 80 := by have := of_decide_eq_false hk; omega
          simp only [L, this, decide_true, Bool.true_and, e1]
        rw [e] at h
        exact h
      · rintro y r acc _ ⟨done, todo, e1, e2, rfl, rfl⟩
        cases todo with
        | nil => simp at e2
        | cons c todo =>
          rw [List.map_cons] at e2
          obtain ⟨rfl, rfl⟩ := List.cons.inj e2
          have hl : done.length ≤ 200 := by
            have h3 : s.cps.toList.length = done.length + (todo.length + 1) := by rw [e1]; simp
            have h2 := hx'.1
            rw [str_len] at h2
            omega
          have hl2 : ((done.map inR).map PV.bl).length < sizeLine := by
            simp only [List.length_map]
            exact small_lt hl
          refine ⟨_, rfl, ?_⟩
          (conv => whnf); repeat (first | (refine ⟨_, rfl, (by first | assumption | rfl | exact fzL_ints _ | exact fzL_strs _ | exact fz_ints _ | exact fz_strs _), ?_⟩; conv => whnf) | (refine ⟨_, rfl, ?_⟩; conv => whnf) | (refine And.intro rfl ?_; conv => whnf) | (refine And.intro (by first | assumption | decide | omega) ?_; conv => whnf) | (refine And.intro (by first | assumption | rfl | exact fzL_ints _ | exact fzL_strs _ | exact fz_ints _ | exact fz_strs _) ?_; conv => whnf) | (refine And.intro (And.intro (by first | assumption | decide | omega) (by first | assumption | decide | omega)) ?_; conv => whnf) | (refine And.intro (And.intro (And.intro (by first | assumption | decide | omega) (by first | assumption | decide | omega)) (And.intro (by first | assumption | decide | omega) (by first | assumption | decide | omega))) ?_; conv => whnf) | (refine And.intro (And.intro (by first | assumption | rfl | exact fzL_ints _ | exact fzL_strs _ | exact fz_ints _ | exact fz_strs _) (And.intro (by first | assumption | rfl | exact fzL_ints _ | exact fzL_strs _ | exact fz_ints _ | exact fz_strs _) (by first | assumption | rfl | exact fzL_ints _ | exact fzL_strs _ | exact fz_ints _ | exact fz_strs _))) ?_; conv => whnf) | (refine And.intro (by first | exact Or.inl (by decide) | exact Or.inr (by decide)) ?_; conv => whnf) | (refine Or.inl (And.intro (by first | assumption | rfl | exact fzL_ints _ | exact fzL_strs _ | exact fz_ints _ | exact fz_strs _) ?_); conv => whnf) | (refine ⟨fun _ => ?_, fun z => Bool.noConfusion z⟩; conv => whnf) | (refine ⟨fun z => Bool.noConfusion z, fun _ => ?_⟩; conv => whnf) | (intro p0 z; rw [frz_lstp (by first | assumption | rfl | exact fzL_ints _ | exact fzL_strs _ | exact fz_ints _ | exact fz_strs _)] at z; subst z; conv => whnf) | (intro p0 z; rw [PV.fz_frz _ (by first | assumption | rfl | exact fzL_ints _ | exact fzL_strs _ | exact fz_ints _ | exact fz_strs _)] at z; subst z; conv => whnf))
          refine ⟨fun hk => ?_, fun hk => ?_⟩
          · have h1 : decide ([32] ≤ [c]) = false := hk
            rw [le_one] at h1
            exact ⟨_, rfl, hl2, done ++ [c], todo, by simpa using e1, rfl, by simp [inR, PV.frz, of_decide_eq_false h1], rfl⟩
          · have h1 : decide ([32] ≤ [c]) = true := hk
            rw [le_one] at h1
            have h2 : (PV.bl (decide ([c] ≤ [126]))).frz = .bl (inR c) := by
              rw [le_one]
              simp [inR, PV.frz, of_decide_eq_true h1]
            (conv => whnf); repeat (first | (refine ⟨_, rfl, (by first | assumption | rfl | exact fzL_ints _ | exact fzL_strs _ | exact fz_ints _ | exact fz_strs _), ?_⟩; conv => whnf) | (refine ⟨_, rfl, ?_⟩; conv => whnf) | (refine And.intro rfl ?_; conv => whnf) | (refine And.intro (by first | assumption | decide | omega) ?_; conv => whnf) | (refine And.intro (by first | assumption | rfl | exact fzL_ints _ | exact fzL_strs _ | exact fz_ints _ | exact fz_strs _) ?_; conv => whnf) | (refine And.intro (And.intro (by first | assumption | decide | omega) (by first | assumption | decide | omega)) ?_; conv => whnf) | (refine And.intro (And.intro (And.intro (by first | assumption | decide | omega) (by first | assumption | decide | omega)) (And.intro (by first | assumption | decide | omega) (by first | assumption | decide | omega))) ?_; conv => whnf) | (refine And.intro (And.intro (by first | assumption | rfl | exact fzL_ints _ | exact fzL_strs _ | exact fz_ints _ | exact fz_strs _) (And.intro (by first | assumption | rfl | exact fzL_ints _ | exact fzL_strs _ | exact fz_ints _ | exact fz_strs _) (by first | assumption | rfl | exact fzL_ints _ | exact fzL_strs _ | exact fz_ints _ | exact fz_strs _))) ?_; conv => whnf) | (refine And.intro (by first | exact Or.inl (by decide) | exact Or.inr (by decide)) ?_; conv => whnf) | (refine Or.inl (And.intro (by first | assumption | rfl | exact fzL_ints _ | exact fzL_strs _ | exact fz_ints _ | exact fz_strs _) ?_); conv => whnf) | (refine ⟨fun _ => ?_, fun z => Bool.noConfusion z⟩; conv => whnf) | (refine ⟨fun z => Bool.noConfusion z, fun _ => ?_⟩; conv => whnf) | (intro p0 z; rw [frz_lstp (by first | assumption | rfl | exact fzL_ints _ | exact fzL_strs _ | exact fz_ints _ | exact fz_strs _)] at z; subst z; conv => whnf) | (intro p0 z; rw [PV.fz_frz _ (by first | assumption | rfl | exact fzL_ints _ | exact fzL_strs _ | exact fz_ints _ | exact fz_strs _)] at z; subst z; conv => whnf))
            exact ⟨done ++ [c], todo, by simpa using e1, rfl, by rw [List.map_append, List.map_append]; exact congrArg (fun z => List.map PV.bl (List.map inR done) ++ [z]) h2, rfl⟩
  | iI m =>
    refine run_ok T_isl rfl ?_
    conv => whnf
    refine And.intro rfl ?_
    rw [show isiT "int" "str" = false from by decide +kernel]
    (conv => whnf); repeat (first | (refine ⟨_, rfl, (by first | assumption | rfl | exact fzL_ints _ | exact fzL_strs _ | exact fz_ints _ | exact fz_strs _), ?_⟩; conv => whnf) | (refine ⟨_, rfl, ?_⟩; conv => whnf) | (refine And.intro rfl ?_; conv => whnf) | (refine And.intro (by first | assumption | decide | omega) ?_; conv => whnf) | (refine And.intro (by first | assumption | rfl | exact fzL_ints _ | exact fzL_strs _ | exact fz_ints _ | exact fz_strs _) ?_; conv => whnf) | (refine And.intro (And.intro (by first | assumption | decide | omega) (by first | assumption | decide | omega)) ?_; conv => whnf) | (refine And.intro (And.intro (And.intro (by first | assumption | decide | omega) (by first | assumption | decide | omega)) (And.intro (by first | assumption | decide | omega) (by first | assumption | decide | omega))) ?_; conv => whnf) | (refine And.intro (And.intro (by first | assumption | rfl | exact fzL_ints _ | exact fzL_strs _ | exact fz_ints _ | exact fz_strs _) (And.intro (by first | assumption | rfl | exact fzL_ints _ | exact fzL_strs _ | exact fz_ints _ | exact fz_strs _) (by first | assumption | rfl | exact fzL_ints _ | exact fzL_strs _ | exact fz_ints _ | exact fz_strs _))) ?_; conv => whnf) | (refine And.intro (by first | exact Or.inl (by decide) | exact Or.inr (by decide)) ?_; conv => whnf) | (refine Or.inl (And.intro (by first | assumption | rfl | exact fzL_ints _ | exact fzL_strs _ | exact fz_ints _ | exact fz_strs _) ?_); conv => whnf) | (refine ⟨fun _ => ?_, fun z => Bool.noConfusion z⟩; conv => whnf) | (refine ⟨fun z => Bool.noConfusion z, fun _ => ?_⟩; conv => whnf) | (intro p0 z; rw [frz_lstp (by first | assumption | rfl | exact fzL_ints _ | exact fzL_strs _ | exact fz_ints _ | exact fz_strs _)] at z; subst z; conv => whnf) | (intro p0 z; rw [PV.fz_frz _ (by first | assumption | rfl | exact fzL_ints _ | exact fzL_strs _ | exact fz_ints _ | exact fz_strs _)] at z; subst z; conv => whnf))
    exact h
  | nN =>
    refine run_ok T_isl rfl ?_
    conv => whnf
    refine And.intro rfl ?_
    rw [show isiT "NoneType" "str" = false from by decide +kernel]
    (conv => whnf); repeat (first | (refine ⟨_, rfl, (by first | assumption | rfl | exact fzL_ints _ | exact fzL_strs _ | exact fz_ints _ | exact fz_strs _), ?_⟩; conv => whnf) | (refine ⟨_, rfl, ?_⟩; conv => whnf) | (refine And.intro rfl ?_; conv => whnf) | (refine And.intro (by first | assumption | decide | omega) ?_; conv => whnf) | (refine And.intro (by first | assumption | rfl | exact fzL_ints _ | exact fzL_strs _ | exact fz_ints _ | exact fz_strs _) ?_; conv => whnf) | (refine And.intro (And.intro (by first | assumption | decide | omega) (by first | assumption | decide | omega)) ?_; conv => whnf) | (refine And.intro (And.intro (And.intro (by first | assumption | decide | omega) (by first | assumption | decide | omega)) (And.intro (by first | assumption | decide | omega) (by first | assumption | decide | omega))) ?_; conv => whnf) | (refine And.intro (And.intro (by first | assumption | rfl | exact fzL_ints _ | exact fzL_strs _ | exact fz_ints _ | exact fz_strs _) (And.intro (by first | assumption | rfl | exact fzL_ints _ | exact fzL_strs _ | exact fz_ints _ | exact fz_strs _) (by first | assumption | rfl | exact fzL_ints _ | exact fzL_strs _ | exact fz_ints _ | exact fz_strs _))) ?_; conv => whnf) | (refine And.intro (by first | exact Or.inl (by decide) | exact Or.inr (by decide)) ?_; conv => whnf) | (refine Or.inl (And.intro (by first | assumption | rfl | exact fzL_ints _ | exact fzL_strs _ | exact fz_ints _ | exact fz_strs _) ?_); conv => whnf) | (refine ⟨fun _ => ?_, fun z => Bool.noConfusion z⟩; conv => whnf) | (refine ⟨fun z => Bool.noConfusion z, fun _ => ?_⟩; conv => whnf) | (intro p0 z; rw [frz_lstp (by first | assumption | rfl | exact fzL_ints _ | exact fzL_strs _ | exact fz_ints _ | exact fz_strs _)] at z; subst z; conv => whnf) | (intro p0 z; rw [PV.fz_frz _ (by first | assumption | rfl | exact fzL_ints _ | exact fzL_strs _ | exact fz_ints _ | exact fz_strs _)] at z; subst z; conv => whnf))
    exact h
  | tT =>
    refine run_ok T_isl rfl ?_
    conv => whnf
    refine And.intro rfl ?_
    rw [show isiT "bool" "str" = false from by decide +kernel]
    (conv => whnf); repeat (first | (refine ⟨_, rfl, (by first | assumption | rfl | exact fzL_ints _ | exact fzL_strs _ | exact fz_ints _ | exact fz_strs _), ?_⟩; conv => whnf) | (refine ⟨_, rfl, ?_⟩; conv => whnf) | (refine And.intro rfl ?_; conv => whnf) | (refine And.intro (by first | assumption | decide | omega) ?_; conv => whnf) | (refine And.intro (by first | assumption | rfl | exact fzL_ints _ | exact fzL_strs _ | exact fz_ints _ | exact fz_strs _) ?_; conv => whnf) | (refine And.intro (And.intro (by first | assumption | decide | omega) (by first | assumption | decide | omega)) ?_; conv => whnf) | (refine And.intro (And.intro (And.intro (by first | assumption | decide | omega) (by first | assumption | decide | omega)) (And.intro (by first | assumption | decide | omega) (by first | assumption | decide | omega))) ?_; conv => whnf) | (refine And.intro (And.intro (by first | assumption | rfl | exact fzL_ints _ | exact fzL_strs _ | exact fz_ints _ | exact fz_strs _) (And.intro (by first | assumption | rfl | exact fzL_ints _ | exact fzL_strs _ | exact fz_ints _ | exact fz_strs _) (by first | assumption | rfl | exact fzL_ints _ | exact fzL_strs _ | exact fz_ints _ | exact fz_strs _))) ?_; conv => whnf) | (refine And.intro (by first | exact Or.inl (by decide) | exact Or.inr (by decide)) ?_; conv => whnf) | (refine Or.inl (And.intro (by first | assumption | rfl | exact fzL_ints _ | exact fzL_strs _ | exact fz_ints _ | exact fz_strs _) ?_); conv => whnf) | (refine ⟨fun _ => ?_, fun z => Bool.noConfusion z⟩; conv => whnf) | (refine ⟨fun z => Bool.noConfusion z, fun _ => ?_⟩; conv => whnf) | (intro p0 z; rw [frz_lstp (by first | assumption | rfl | exact fzL_ints _ | exact fzL_strs _ | exact fz_ints _ | exact fz_strs _)] at z; subst z; conv => whnf) | (intro p0 z; rw [PV.fz_frz _ (by first | assumption | rfl | exact fzL_ints _ | exact fzL_strs _ | exact fz_ints _ | exact fz_strs _)] at z; subst z; conv => whnf))
    exact h
  | eE =>
    refine run_ok T_isl rfl ?_
    conv => whnf
    refine And.intro rfl ?_
    rw [show isiT "list" "str" = false from by decide +kernel]
    (conv => whnf); repeat (first | (refine ⟨_, rfl, (by first | assumption | rfl | exact fzL_ints _ | exact fzL_strs _ | exact fz_ints _ | exact fz_strs _), ?_⟩; conv => whnf) | (refine ⟨_, rfl, ?_⟩; conv => whnf) | (refine And.intro rfl ?_; conv => whnf) | (refine And.intro (by first | assumption | decide | omega) ?_; conv => whnf) | (refine And.intro (by first | assumption | rfl | exact fzL_ints _ | exact fzL_strs _ | exact fz_ints _ | exact fz_strs _) ?_; conv => whnf) | (refine And.intro (And.intro (by first | assumption | decide | omega) (by first | assumption | decide | omega)) ?_; conv => whnf) | (refine And.intro (And.intro (And.intro (by first | assumption | decide | omega) (by first | assumption | decide | omega)) (And.intro (by first | assumption | decide | omega) (by first | assumption | decide | omega))) ?_; conv => whnf) | (refine And.intro (And.intro (by first | assumption | rfl | exact fzL_ints _ | exact fzL_strs _ | exact fz_ints _ | exact fz_strs _) (And.intro (by first | assumption | rfl | exact fzL_ints _ | exact fzL_strs _ | exact fz_ints _ | exact fz_strs _) (by first | assumption | rfl | exact fzL_ints _ | exact fzL_strs _ | exact fz_ints _ | exact fz_strs _))) ?_; conv => whnf) | (refine And.intro (by first | exact Or.inl (by decide) | exact Or.inr (by decide)) ?_; conv => whnf) | (refine Or.inl (And.intro (by first | assumption | rfl | exact fzL_ints _ | exact fzL_strs _ | exact fz_ints _ | exact fz_strs _) ?_); conv => whnf) | (refine ⟨fun _ => ?_, fun z => Bool.noConfusion z⟩; conv => whnf) | (refine ⟨fun z => Bool.noConfusion z, fun _ => ?_⟩; conv => whnf) | (intro p0 z; rw [frz_lstp (by first | assumption | rfl | exact fzL_ints _ | exact fzL_strs _ | exact fz_ints _ | exact fz_strs _)] at z; subst z; conv => whnf) | (intro p0 z; rw [PV.fz_frz _ (by first | assumption | rfl | exact fzL_ints _ | exact fzL_strs _ | exact fz_ints _ | exact fz_strs _)] at z; subst z; conv => whnf))
    exact h
  | uU =>
    refine run_ok T_isl rfl ?_
    conv => whnf
    refine And.intro rfl ?_
    rw [show isiT "tuple" "str" = false from by decide +kernel]
    (conv => whnf); repeat (first | (refine ⟨_, rfl, (by first | assumption | rfl | exact fzL_ints _ | exact fzL_strs _ | exact fz_ints _ | exact fz_strs _), ?_⟩; conv => whnf) | (refine ⟨_, rfl, ?_⟩; conv => whnf) | (refine And.intro rfl ?_; conv => whnf) | (refine And.intro (by first | assumption | decide | omega) ?_; conv => whnf) | (refine And.intro (by first | assumption | rfl | exact fzL_ints _ | exact fzL_strs _ | exact fz_ints _ | exact fz_strs _) ?_; conv => whnf) | (refine And.intro (And.intro (by first | assumption | decide | omega) (by first | assumption | decide | omega)) ?_; conv => whnf) | (refine And.intro (And.intro (And.intro (by first | assumption | decide | omega) (by first | assumption | decide | omega)) (And.intro (by first | assumption | decide | omega) (by first | assumption | decide | omega))) ?_; conv => whnf) | (refine And.intro (And.intro (by first | assumption | rfl | exact fzL_ints _ | exact fzL_strs _ | exact fz_ints _ | exact fz_strs _) (And.intro (by first | assumption | rfl | exact fzL_ints _ | exact fzL_strs _ | exact fz_ints _ | exact fz_strs _) (by first | assumption | rfl | exact fzL_ints _ | exact fzL_strs _ | exact fz_ints _ | exact fz_strs _))) ?_; conv => whnf) | (refine And.intro (by first | exact Or.inl (by decide) | exact Or.inr (by decide)) ?_; conv => whnf) | (refine Or.inl (And.intro (by first | assumption | rfl | exact fzL_ints _ | exact fzL_strs _ | exact fz_ints _ | exact fz_strs _) ?_); conv => whnf) | (refine ⟨fun _ => ?_, fun z => Bool.noConfusion z⟩; conv => whnf) | (refine ⟨fun z => Bool.noConfusion z, fun _ => ?_⟩; conv => whnf) | (intro p0 z; rw [frz_lstp (by first | assumption | rfl | exact fzL_ints _ | exact fzL_strs _ | exact fz_ints _ | exact fz_strs _)] at z; subst z; conv => whnf) | (intro p0 z; rw [PV.fz_frz _ (by first | assumption | rfl | exact fzL_ints _ | exact fzL_strs _ | exact fz_ints _ | exact fz_strs _)] at z; subst z; conv => whnf))
    exact h
  | lL =>
    refine run_ok T_isl rfl ?_
    conv => whnf
    refine And.intro rfl ?_
    rw [show isiT "list" "str" = false from by decide +kernel]
    (conv => whnf); repeat (first | (refine ⟨_, rfl, (by first | assumption | rfl | exact fzL_ints _ | exact fzL_strs _ | exact fz_ints _ | exact fz_strs _), ?_⟩; conv => whnf) | (refine ⟨_, rfl, ?_⟩; conv => whnf) | (refine And.intro rfl ?_; conv => whnf) | (refine And.intro (by first | assumption | decide | omega) ?_; conv => whnf) | (refine And.intro (by first | assumption | rfl | exact fzL_ints _ | exact fzL_strs _ | exact fz_ints _ | exact fz_strs _) ?_; conv => whnf) | (refine And.intro (And.intro (by first | assumption | decide | omega) (by first | assumption | decide | omega)) ?_; conv => whnf) | (refine And.intro (And.intro (And.intro (by first | assumption | decide | omega) (by first | assumption | decide | omega)) (And.intro (by first | assumption | decide | omega) (by first | assumption | decide | omega))) ?_; conv => whnf) | (refine And.intro (And.intro (by first | assumption | rfl | exact fzL_ints _ | exact fzL_strs _ | exact fz_ints _ | exact fz_strs _) (And.intro (by first | assumption | rfl | exact fzL_ints _ | exact fzL_strs _ | exact fz_ints _ | exact fz_strs _) (by first | assumption | rfl | exact fzL_ints _ | exact fzL_strs _ | exact fz_ints _ | exact fz_strs _))) ?_; conv => whnf) | (refine And.intro (by first | exact Or.inl (by decide) | exact Or.inr (by decide)) ?_; conv => whnf) | (refine Or.inl (And.intro (by first | assumption | rfl | exact fzL_ints _ | exact fzL_strs _ | exact fz_ints _ | exact fz_strs _) ?_); conv => whnf) | (refine ⟨fun _ => ?_, fun z => Bool.noConfusion z⟩; conv => whnf) | (refine ⟨fun z => Bool.noConfusion z, fun _ => ?_⟩; conv => whnf) | (intro p0 z; rw [frz_lstp (by first | assumption | rfl | exact fzL_ints _ | exact fzL_strs _ | exact fz_ints _ | exact fz_strs _)] at z; subst z; conv => whnf) | (intro p0 z; rw [PV.fz_frz _ (by first | assumption | rfl | exact fzL_ints _ | exact fzL_strs _ | exact fz_ints _ | exact fz_strs _)] at z; subst z; conv => whnf))
    exact h
theorem nl_is : ("\n" : Str) = ⟨#[10]⟩ := by decide +kernel
theorem n_nl (s : Str) : opN (.cmp .NotIn) [.str "\n", .str s] = some (.bl (!decide (10 ∈ s.cps.toList))) := by
  show (cmpN .NotIn (.str "\n") (.str s)).map PV.bl = _
  simp only [cmpN, Option.map]
  rw [nl_is, ← found_one]
  simp
theorem nl_all {m : Nat} {s : Str} (h : SOk m s) : (s.cps.toList.map inR).all id = !decide (10 ∈ s.cps.toList) := by
  by_cases e : 10 ∈ s.cps.toList
  · rw [decide_eq_true e]
    refine Bool.eq_false_iff.mpr fun z => ?_
    have := List.all_eq_true.mp z (inR 10) (List.mem_map.mpr ⟨10, e, rfl⟩)
    simp [inR] at this
  · rw [decide_eq_false e]
    refine List.all_eq_true.mpr fun b hb => ?_
    obtain ⟨c, hc, rfl⟩ := List.mem_map.mp hb
    rcases h.2 c hc with z | z
    · exact absurd (z ▸ hc) e
    · simp [inR, z.1, z.2]
theorem T_lil : lw.T ("_law_is_line" : Str) = some fd_law_is_line := tblOf_mem (e := en_law_is_line) nd (by simp [lw])
theorem lil_ok {n : Nat} {x : Th} (hx : x.ok) {Q : PV → Fr → Prop} {E : PX → Fr → Prop} (h : Q (.bl (L x)) [some x.p]) : zC (callN lw.T 100 (n + 1)) ("_law_is_line" : Str) [x.p] Q E := by
  cases x with
  | sS s =>
    have hx' : SOk 200 s := hx
    have h0 : okS s.length = true := okS_of (Nat.le_trans hx'.1 (by decide))
    refine run_ok T_lil rfl ?_
    (conv => whnf); repeat (first | (refine ⟨_, rfl, (by first | assumption | rfl | exact fzL_ints _ | exact fzL_strs _ | exact fz_ints _ | exact fz_strs _), ?_⟩; conv => whnf) | (refine ⟨_, rfl, ?_⟩; conv => whnf) | (refine And.intro rfl ?_; conv => whnf) | (refine And.intro (by first | assumption | decide | omega) ?_; conv => whnf) | (refine And.intro (by first | assumption | rfl | exact fzL_ints _ | exact fzL_strs _ | exact fz_ints _ | exact fz_strs _) ?_; conv => whnf) | (refine And.intro (And.intro (by first | assumption | decide | omega) (by first | assumption | decide | omega)) ?_; conv => whnf) | (refine And.intro (And.intro (And.intro (by first | assumption | decide | omega) (by first | assumption | decide | omega)) (And.intro (by first | assumption | decide | omega) (by first | assumption | decide | omega))) ?_; conv => whnf) | (refine And.intro (And.intro (by first | assumption | rfl | exact fzL_ints _ | exact fzL_strs _ | exact fz_ints _ | exact fz_strs _) (And.intro (by first | assumption | rfl | exact fzL_ints _ | exact fzL_strs _ | exact fz_ints _ | exact fz_strs _) (by first | assumption | rfl | exact fzL_ints _ | exact fzL_strs _ | exact fz_ints _ | exact fz_strs _))) ?_; conv => whnf) | (refine And.intro (by first | exact Or.inl (by decide) | exact Or.inr (by decide)) ?_; conv => whnf) | (refine Or.inl (And.intro (by first | assumption | rfl | exact fzL_ints _ | exact fzL_strs _ | exact fz_ints _ | exact fz_strs _) ?_); conv => whnf) | (refine ⟨fun _ => ?_, fun z => Bool.noConfusion z⟩; conv => whnf) | (refine ⟨fun z => Bool.noConfusion z, fun _ => ?_⟩; conv => whnf) | (intro p0 z; rw [frz_lstp (by first | assumption | rfl | exact fzL_ints _ | exact fzL_strs _ | exact fz_ints _ | exact fz_strs _)] at z; subst z; conv => whnf) | (intro p0 z; rw [PV.fz_frz _ (by first | assumption | rfl | exact fzL_ints _ | exact fzL_strs _ | exact fz_ints _ | exact fz_strs _)] at z; subst z; conv => whnf))
    have e0 : (Builtin.Str.occurrences s ("\n" : Str) 0 s.length 1).isEmpty = !decide (10 ∈ s.cps.toList) := by
      rw [nl_is, ← found_one]
      simp
    have e : L (.sS s) = (decide (s.length ≤ 80) && !decide (10 ∈ s.cps.toList)) := by
      show (decide (s.length ≤ 80) && (s.cps.toList.map inR).all id) = _
      rw [nl_all hx']
    rw [e] at h
    refine ⟨fun hk => ?_, fun hk => ?_⟩
    · replace hk := e0.symm.trans hk
      (conv => whnf); repeat (first | (refine ⟨_, rfl, (by first | assumption | rfl | exact fzL_ints _ | exact fzL_strs _ | exact fz_ints _ | exact fz_strs _), ?_⟩; conv => whnf) | (refine ⟨_, rfl, ?_⟩; conv => whnf) | (refine And.intro rfl ?_; conv => whnf) | (refine And.intro (by first | assumption | decide | omega) ?_; conv => whnf) | (refine And.intro (by first | assumption | rfl | exact fzL_ints _ | exact fzL_strs _ | exact fz_ints _ | exact fz_strs _) ?_; conv => whnf) | (refine And.intro (And.intro (by first | assumption | decide | omega) (by first | assumption | decide | omega)) ?_; conv => whnf) | (refine And.intro (And.intro (And.intro (by first | assumption | decide | omega) (by first | assumption | decide | omega)) (And.intro (by first | assumption | decide | omega) (by first | assumption | decide | omega))) ?_; conv => whnf) | (refine And.intro (And.intro (by first | assumption | rfl | exact fzL_ints _ | exact fzL_strs _ | exact fz_ints _ | exact fz_strs _) (And.intro (by first | assumption | rfl | exact fzL_ints _ | exact fzL_strs _ | exact fz_ints _ | exact fz_strs _) (by first | assumption | rfl | exact fzL_ints _ | exact fzL_strs _ | exact fz_ints _ | exact fz_strs _))) ?_; conv => whnf) | (refine And.intro (by first | exact Or.inl (by decide) | exact Or.inr (by decide)) ?_; conv => whnf) | (refine Or.inl (And.intro (by first | assumption | rfl | exact fzL_ints _ | exact fzL_strs _ | exact fz_ints _ | exact fz_strs _) ?_); conv => whnf) | (refine ⟨fun _ => ?_, fun z => Bool.noConfusion z⟩; conv => whnf) | (refine ⟨fun z => Bool.noConfusion z, fun _ => ?_⟩; conv => whnf) | (intro p0 z; rw [frz_lstp (by first | assumption | rfl | exact fzL_ints _ | exact fzL_strs _ | exact fz_ints _ | exact fz_strs _)] at z; subst z; conv => whnf) | (intro p0 z; rw [PV.fz_frz _ (by first | assumption | rfl | exact fzL_ints _ | exact fzL_strs _ | exact fz_ints _ | exact fz_strs _)] at z; subst z; conv => whnf))
      rw [hk, Bool.and_true] at h
      have e2 : decide ((s.length : Int) ≤ 80) = decide (s.length ≤ 80) := by
        by_cases z : s.length ≤ 80
        · rw [decide_eq_true z]; exact decide_eq_true (by omega)
        · rw [decide_eq_false z]; exact decide_eq_false (by omega)
      show Q (.bl (decide ((s.length : Int) ≤ 80))) _
      rw [e2]
      exact h
    · replace hk := e0.symm.trans hk
      (conv => whnf); repeat (first | (refine ⟨_, rfl, (by first | assumption | rfl | exact fzL_ints _ | exact fzL_strs _ | exact fz_ints _ | exact fz_strs _), ?_⟩; conv => whnf) | (refine ⟨_, rfl, ?_⟩; conv => whnf) | (refine And.intro rfl ?_; conv => whnf) | (refine And.intro (by first | assumption | decide | omega) ?_; conv => whnf) | (refine And.intro (by first | assumption | rfl | exact fzL_ints _ | exact fzL_strs _ | exact fz_ints _ | exact fz_strs _) ?_; conv => whnf) | (refine And.intro (And.intro (by first | assumption | decide | omega) (by first | assumption | decide | omega)) ?_; conv => whnf) | (refine And.intro (And.intro (And.intro (by first | assumption | decide | omega) (by first | assumption | decide | omega)) (And.intro (by first | assumption | decide | omega) (by first | assumption | decide | omega))) ?_; conv => whnf) | (refine And.intro (And.intro (by first | assumption | rfl | exact fzL_ints _ | exact fzL_strs _ | exact fz_ints _ | exact fz_strs _) (And.intro (by first | assumption | rfl | exact fzL_ints _ | exact fzL_strs _ | exact fz_ints _ | exact fz_strs _) (by first | assumption | rfl | exact fzL_ints _ | exact fzL_strs _ | exact fz_ints _ | exact fz_strs _))) ?_; conv => whnf) | (refine And.intro (by first | exact Or.inl (by decide) | exact Or.inr (by decide)) ?_; conv => whnf) | (refine Or.inl (And.intro (by first | assumption | rfl | exact fzL_ints _ | exact fzL_strs _ | exact fz_ints _ | exact fz_strs _) ?_); conv => whnf) | (refine ⟨fun _ => ?_, fun z => Bool.noConfusion z⟩; conv => whnf) | (refine ⟨fun z => Bool.noConfusion z, fun _ => ?_⟩; conv => whnf) | (intro p0 z; rw [frz_lstp (by first | assumption | rfl | exact fzL_ints _ | exact fzL_strs _ | exact fz_ints _ | exact fz_strs _)] at z; subst z; conv => whnf) | (intro p0 z; rw [PV.fz_frz _ (by first | assumption | rfl | exact fzL_ints _ | exact fzL_strs _ | exact fz_ints _ | exact fz_strs _)] at z; subst z; conv => whnf))
      rw [hk, Bool.and_false] at h
      exact h
  | iI m =>
    refine run_ok T_lil rfl ?_
    conv => whnf
    refine And.intro rfl ?_
    rw [show isiT "int" "str" = false from by decide +kernel]
    (conv => whnf); repeat (first | (refine ⟨_, rfl, (by first | assumption | rfl | exact fzL_ints _ | exact fzL_strs _ | exact fz_ints _ | exact fz_strs _), ?_⟩; conv => whnf) | (refine ⟨_, rfl, ?_⟩; conv => whnf) | (refine And.intro rfl ?_; conv => whnf) | (refine And.intro (by first | assumption | decide | omega) ?_; conv => whnf) | (refine And.intro (by first | assumption | rfl | exact fzL_ints _ | exact fzL_strs _ | exact fz_ints _ | exact fz_strs _) ?_; conv => whnf) | (refine And.intro (And.intro (by first | assumption | decide | omega) (by first | assumption | decide | omega)) ?_; conv => whnf) | (refine And.intro (And.intro (And.intro (by first | assumption | decide | omega) (by first | assumption | decide | omega)) (And.intro (by first | assumption | decide | omega) (by first | assumption | decide | omega))) ?_; conv => whnf) | (refine And.intro (And.intro (by first | assumption | rfl | exact fzL_ints _ | exact fzL_strs _ | exact fz_ints _ | exact fz_strs _) (And.intro (by first | assumption | rfl | exact fzL_ints _ | exact fzL_strs _ | exact fz_ints _ | exact fz_strs _) (by first | assumption | rfl | exact fzL_ints _ | exact fzL_strs _ | exact fz_ints _ | exact fz_strs _))) ?_; conv => whnf) | (refine And.intro (by first | exact Or.inl (by decide) | exact Or.inr (by decide)) ?_; conv => whnf) | (refine Or.inl (And.intro (by first | assumption | rfl | exact fzL_ints _ | exact fzL_strs _ | exact fz_ints _ | exact fz_strs _) ?_); conv => whnf) | (refine ⟨fun _ => ?_, fun z => Bool.noConfusion z⟩; conv => whnf) | (refine ⟨fun z => Bool.noConfusion z, fun _ => ?_⟩; conv => whnf) | (intro p0 z; rw [frz_lstp (by first | assumption | rfl | exact fzL_ints _ | exact fzL_strs _ | exact fz_ints _ | exact fz_strs _)] at z; subst z; conv => whnf) | (intro p0 z; rw [PV.fz_frz _ (by first | assumption | rfl | exact fzL_ints _ | exact fzL_strs _ | exact fz_ints _ | exact fz_strs _)] at z; subst z; conv => whnf))
    exact h
  | nN =>
    refine run_ok T_lil rfl ?_
    conv => whnf
    refine And.intro rfl ?_
    rw [show isiT "NoneType" "str" = false from by decide +kernel]
    (conv => whnf); repeat (first | (refine ⟨_, rfl, (by first | assumption | rfl | exact fzL_ints _ | exact fzL_strs _ | exact fz_ints _ | exact fz_strs _), ?_⟩; conv => whnf) | (refine ⟨_, rfl, ?_⟩; conv => whnf) | (refine And.intro rfl ?_; conv => whnf) | (refine And.intro (by first | assumption | decide | omega) ?_; conv => whnf) | (refine And.intro (by first | assumption | rfl | exact fzL_ints _ | exact fzL_strs _ | exact fz_ints _ | exact fz_strs _) ?_; conv => whnf) | (refine And.intro (And.intro (by first | assumption | decide | omega) (by first | assumption | decide | omega)) ?_; conv => whnf) | (refine And.intro (And.intro (And.intro (by first | assumption | decide | omega) (by first | assumption | decide | omega)) (And.intro (by first | assumption | decide | omega) (by first | assumption | decide | omega))) ?_; conv => whnf) | (refine And.intro (And.intro (by first | assumption | rfl | exact fzL_ints _ | exact fzL_strs _ | exact fz_ints _ | exact fz_strs _) (And.intro (by first | assumption | rfl | exact fzL_ints _ | exact fzL_strs _ | exact fz_ints _ | exact fz_strs _) (by first | assumption | rfl | exact fzL_ints _ | exact fzL_strs _ | exact fz_ints _ | exact fz_strs _))) ?_; conv => whnf) | (refine And.intro (by first | exact Or.inl (by decide) | exact Or.inr (by decide)) ?_; conv => whnf) | (refine Or.inl (And.intro (by first | assumption | rfl | exact fzL_ints _ | exact fzL_strs _ | exact fz_ints _ | exact fz_strs _) ?_); conv => whnf) | (refine ⟨fun _ => ?_, fun z => Bool.noConfusion z⟩; conv => whnf) | (refine ⟨fun z => Bool.noConfusion z, fun _ => ?_⟩; conv => whnf) | (intro p0 z; rw [frz_lstp (by first | assumption | rfl | exact fzL_ints _ | exact fzL_strs _ | exact fz_ints _ | exact fz_strs _)] at z; subst z; conv => whnf) | (intro p0 z; rw [PV.fz_frz _ (by first | assumption | rfl | exact fzL_ints _ | exact fzL_strs _ | exact fz_ints _ | exact fz_strs _)] at z; subst z; conv => whnf))
    exact h
  | tT =>
    refine run_ok T_lil rfl ?_
    conv => whnf
    refine And.intro rfl ?_
    rw [show isiT "bool" "str" = false from by decide +kernel]
    (conv => whnf); repeat (first | (refine ⟨_, rfl, (by first | assumption | rfl | exact fzL_ints _ | exact fzL_strs _ | exact fz_ints _ | exact fz_strs _), ?_⟩; conv => whnf) | (refine ⟨_, rfl, ?_⟩; conv => whnf) | (refine And.intro rfl ?_; conv => whnf) | (refine And.intro (by first | assumption | decide | omega) ?_; conv => whnf) | (refine And.intro (by first | assumption | rfl | exact fzL_ints _ | exact fzL_strs _ | exact fz_ints _ | exact fz_strs _) ?_; conv => whnf) | (refine And.intro (And.intro (by first | assumption | decide | omega) (by first | assumption | decide | omega)) ?_; conv => whnf) | (refine And.intro (And.intro (And.intro (by first | assumption | decide | omega) (by first | assumption | decide | omega)) (And.intro (by first | assumption | decide | omega) (by first | assumption | decide | omega))) ?_; conv => whnf) | (refine And.intro (And.intro (by first | assumption | rfl | exact fzL_ints _ | exact fzL_strs _ | exact fz_ints _ | exact fz_strs _) (And.intro (by first | assumption | rfl | exact fzL_ints _ | exact fzL_strs _ | exact fz_ints _ | exact fz_strs _) (by first | assumption | rfl | exact fzL_ints _ | exact fzL_strs _ | exact fz_ints _ | exact fz_strs _))) ?_; conv => whnf) | (refine And.intro (by first | exact Or.inl (by decide) | exact Or.inr (by decide)) ?_; conv => whnf) | (refine Or.inl (And.intro (by first | assumption | rfl | exact fzL_ints _ | exact fzL_strs _ | exact fz_ints _ | exact fz_strs _) ?_); conv => whnf) | (refine ⟨fun _ => ?_, fun z => Bool.noConfusion z⟩; conv => whnf) | (refine ⟨fun z => Bool.noConfusion z, fun _ => ?_⟩; conv => whnf) | (intro p0 z; rw [frz_lstp (by first | assumption | rfl | exact fzL_ints _ | exact fzL_strs _ | exact fz_ints _ | exact fz_strs _)] at z; subst z; conv => whnf) | (intro p0 z; rw [PV.fz_frz _ (by first | assumption | rfl | exact fzL_ints _ | exact fzL_strs _ | exact fz_ints _ | exact fz_strs _)] at z; subst z; conv => whnf))
    exact h
  | eE =>
    refine run_ok T_lil rfl ?_
    conv => whnf
    refine And.intro rfl ?_
    rw [show isiT "list" "str" = false from by decide +kernel]
    (conv => whnf); repeat (first | (refine ⟨_, rfl, (by first | assumption | rfl | exact fzL_ints _ | exact fzL_strs _ | exact fz_ints _ | exact fz_strs _), ?_⟩; conv => whnf) | (refine ⟨_, rfl, ?_⟩; conv => whnf) | (refine And.intro rfl ?_; conv => whnf) | (refine And.intro (by first | assumption | decide | omega) ?_; conv => whnf) | (refine And.intro (by first | assumption | rfl | exact fzL_ints _ | exact fzL_strs _ | exact fz_ints _ | exact fz_strs _) ?_; conv => whnf) | (refine And.intro (And.intro (by first | assumption | decide | omega) (by first | assumption | decide | omega)) ?_; conv => whnf) | (refine And.intro (And.intro (And.intro (by first | assumption | decide | omega) (by first | assumption | decide | omega)) (And.intro (by first | assumption | decide | omega) (by first | assumption | decide | omega))) ?_; conv => whnf) | (refine And.intro (And.intro (by first | assumption | rfl | exact fzL_ints _ | exact fzL_strs _ | exact fz_ints _ | exact fz_strs _) (And.intro (by first | assumption | rfl | exact fzL_ints _ | exact fzL_strs _ | exact fz_ints _ | exact fz_strs _) (by first | assumption | rfl | exact fzL_ints _ | exact fzL_strs _ | exact fz_ints _ | exact fz_strs _))) ?_; conv => whnf) | (refine And.intro (by first | exact Or.inl (by decide) | exact Or.inr (by decide)) ?_; conv => whnf) | (refine Or.inl (And.intro (by first | assumption | rfl | exact fzL_ints _ | exact fzL_strs _ | exact fz_ints _ | exact fz_strs _) ?_); conv => whnf) | (refine ⟨fun _ => ?_, fun z => Bool.noConfusion z⟩; conv => whnf) | (refine ⟨fun z => Bool.noConfusion z, fun _ => ?_⟩; conv => whnf) | (intro p0 z; rw [frz_lstp (by first | assumption | rfl | exact fzL_ints _ | exact fzL_strs _ | exact fz_ints _ | exact fz_strs _)] at z; subst z; conv => whnf) | (intro p0 z; rw [PV.fz_frz _ (by first | assumption | rfl | exact fzL_ints _ | exact fzL_strs _ | exact fz_ints _ | exact fz_strs _)] at z; subst z; conv => whnf))
    exact h
  | uU =>
    refine run_ok T_lil rfl ?_
    conv => whnf
    refine And.intro rfl ?_
    rw [show isiT "tuple" "str" = false from by decide +kernel]
    (conv => whnf); repeat (first | (refine ⟨_, rfl, (by first | assumption | rfl | exact fzL_ints _ | exact fzL_strs _ | exact fz_ints _ | exact fz_strs _), ?_⟩; conv => whnf) | (refine ⟨_, rfl, ?_⟩; conv => whnf) | (refine And.intro rfl ?_; conv => whnf) | (refine And.intro (by first | assumption | decide | omega) ?_; conv => whnf) | (refine And.intro (by first | assumption | rfl | exact fzL_ints _ | exact fzL_strs _ | exact fz_ints _ | exact fz_strs _) ?_; conv => whnf) | (refine And.intro (And.intro (by first | assumption | decide | omega) (by first | assumption | decide | omega)) ?_; conv => whnf) | (refine And.intro (And.intro (And.intro (by first | assumption | decide | omega) (by first | assumption | decide | omega)) (And.intro (by first | assumption | decide | omega) (by first | assumption | decide | omega))) ?_; conv => whnf) | (refine And.intro (And.intro (by first | assumption | rfl | exact fzL_ints _ | exact fzL_strs _ | exact fz_ints _ | exact fz_strs _) (And.intro (by first | assumption | rfl | exact fzL_ints _ | exact fzL_strs _ | exact fz_ints _ | exact fz_strs _) (by first | assumption | rfl | exact fzL_ints _ | exact fzL_strs _ | exact fz_ints _ | exact fz_strs _))) ?_; conv => whnf) | (refine And.intro (by first | exact Or.inl (by decide) | exact Or.inr (by decide)) ?_; conv => whnf) | (refine Or.inl (And.intro (by first | assumption | rfl | exact fzL_ints _ | exact fzL_strs _ | exact fz_ints _ | exact fz_strs _) ?_); conv => whnf) | (refine ⟨fun _ => ?_, fun z => Bool.noConfusion z⟩; conv => whnf) | (refine ⟨fun z => Bool.noConfusion z, fun _ => ?_⟩; conv => whnf) | (intro p0 z; rw [frz_lstp (by first | assumption | rfl | exact fzL_ints _ | exact fzL_strs _ | exact fz_ints _ | exact fz_strs _)] at z; subst z; conv => whnf) | (intro p0 z; rw [PV.fz_frz _ (by first | assumption | rfl | exact fzL_ints _ | exact fzL_strs _ | exact fz_ints _ | exact fz_strs _)] at z; subst z; conv => whnf))
    exact h
  | lL =>
    refine run_ok T_lil rfl ?_
    conv => whnf
    refine And.intro rfl ?_
    rw [show isiT "list" "str" = false from by decide +kernel]
    (conv => whnf); repeat (first | (refine ⟨_, rfl, (by first | assumption | rfl | exact fzL_ints _ | exact fzL_strs _ | exact fz_ints _ | exact fz_strs _), ?_⟩; conv => whnf) | (refine ⟨_, rfl, ?_⟩; conv => whnf) | (refine And.intro rfl ?_; conv => whnf) | (refine And.intro (by first | assumption | decide | omega) ?_; conv => whnf) | (refine And.intro (by first | assumption | rfl | exact fzL_ints _ | exact fzL_strs _ | exact fz_ints _ | exact fz_strs _) ?_; conv => whnf) | (refine And.intro (And.intro (by first | assumption | decide | omega) (by first | assumption | decide | omega)) ?_; conv => whnf) | (refine And.intro (And.intro (And.intro (by first | assumption | decide | omega) (by first | assumption | decide | omega)) (And.intro (by first | assumption | decide | omega) (by first | assumption | decide | omega))) ?_; conv => whnf) | (refine And.intro (And.intro (by first | assumption | rfl | exact fzL_ints _ | exact fzL_strs _ | exact fz_ints _ | exact fz_strs _) (And.intro (by first | assumption | rfl | exact fzL_ints _ | exact fzL_strs _ | exact fz_ints _ | exact fz_strs _) (by first | assumption | rfl | exact fzL_ints _ | exact fzL_strs _ | exact fz_ints _ | exact fz_strs _))) ?_; conv => whnf) | (refine And.intro (by first | exact Or.inl (by decide) | exact Or.inr (by decide)) ?_; conv => whnf) | (refine Or.inl (And.intro (by first | assumption | rfl | exact fzL_ints _ | exact fzL_strs _ | exact fz_ints _ | exact fz_strs _) ?_); conv => whnf) | (refine ⟨fun _ => ?_, fun z => Bool.noConfusion z⟩; conv => whnf) | (refine ⟨fun z => Bool.noConfusion z, fun _ => ?_⟩; conv => whnf) | (intro p0 z; rw [frz_lstp (by first | assumption | rfl | exact fzL_ints _ | exact fzL_strs _ | exact fz_ints _ | exact fz_strs _)] at z; subst z; conv => whnf) | (intro p0 z; rw [PV.fz_frz _ (by first | assumption | rfl | exact fzL_ints _ | exact fzL_strs _ | exact fz_ints _ | exact fz_strs _)] at z; subst z; conv => whnf))
    exact h
/-! look_file -/
theorem T_look : lw.T ("look_file" : Str) = some fd_look_file := tblOf_mem (e := en_look_file) nd (by simp [lw])
theorem look_no {n : Nat} {p : PV} {ty : String} (hp : p.fz = true) (hn : (p = .non ∧ ty = "NoneType") ∨ (∃ s, p = .str s ∧ ty = "str") ∨ (∃ ys, p = .tup ys ∧ ty = "tuple")) {Q : PV → Fr → Prop} {E : PX → Fr → Prop} (h : E ⟨xd_BadFile, [("index", .int (-1))]⟩ [some p]) : zC (callN lw.T 100 (n + 1)) ("look_file" : Str) [p] Q E := by
  have e1 : isiT "NoneType" "list" = false := by decide +kernel
  have e2 : isiT "str" "list" = false := by decide +kernel
  have e3 : isiT "tuple" "list" = false := by decide +kernel
  rcases hn with ⟨rfl, rfl⟩ | ⟨s, rfl, rfl⟩ | ⟨ys, rfl, rfl⟩ <;>
  · refine run_ok T_look rfl ?_
    conv => whnf
    refine And.intro rfl ?_
    first | rw [e1] | rw [e2] | rw [e3]
    (conv => whnf); repeat (first | (refine ⟨_, rfl, (by first | assumption | rfl | exact fzL_ints _ | exact fzL_strs _ | exact fz_ints _ | exact fz_strs _), ?_⟩; conv => whnf) | (refine ⟨_, rfl, ?_⟩; conv => whnf) | (refine And.intro rfl ?_; conv => whnf) | (refine And.intro (by first | assumption | decide | omega) ?_; conv => whnf) | (refine And.intro (by first | assumption | rfl | exact fzL_ints _ | exact fzL_strs _ | exact fz_ints _ | exact fz_strs _) ?_; conv => whnf) | (refine And.intro (And.intro (by first | assumption | decide | omega) (by first | assumption | decide | omega)) ?_; conv => whnf) | (refine And.intro (And.intro (And.intro (by first | assumption | decide | omega) (by first | assumption | decide | omega)) (And.intro (by first | assumption | decide | omega) (by first | assumption | decide | omega))) ?_; conv => whnf) | (refine And.intro (And.intro (by first | assumption | rfl | exact fzL_ints _ | exact fzL_strs _ | exact fz_ints _ | exact fz_strs _) (And.intro (by first | assumption | rfl | exact fzL_ints _ | exact fzL_strs _ | exact fz_ints _ | exact fz_strs _) (by first | assumption | rfl | exact fzL_ints _ | exact fzL_strs _ | exact fz_ints _ | exact fz_strs _))) ?_; conv => whnf) | (refine And.intro (by first | exact Or.inl (by decide) | exact Or.inr (by decide)) ?_; conv => whnf) | (refine Or.inl (And.intro (by first | assumption | rfl | exact fzL_ints _ | exact fzL_strs _ | exact fz_ints _ | exact fz_strs _) ?_); conv => whnf) | (refine ⟨fun _ => ?_, fun z => Bool.noConfusion z⟩; conv => whnf) | (refine ⟨fun z => Bool.noConfusion z, fun _ => ?_⟩; conv => whnf) | (intro p0 z; rw [frz_lstp (by first | assumption | rfl | exact fzL_ints _ | exact fzL_strs _ | exact fz_ints _ | exact fz_strs _)] at z; subst z; conv => whnf) | (intro p0 z; rw [PV.fz_frz _ (by first | assumption | rfl | exact fzL_ints _ | exact fzL_strs _ | exact fz_ints _ | exact fz_strs _)] at z; subst z; conv => whnf))
    exact h
theorem drop_cons {xs : List Th} {j : Nat} {y : PV} {r : List PV} (h : y :: r = enmN (j : Int) ((xs.drop j).map Th.p)) : ∃ hj : j < xs.length, y = .tup [.int j, xs[j].p] ∧ r = enmN ((j + 1 : Nat) : Int) ((xs.drop (j + 1)).map Th.p) := by
  have hj : j < xs.length := by
    rcases Nat.lt_or_ge j xs.length with z | z
    · exact z
    · rw [List.drop_eq_nil_of_le z] at h
      cases h
  rw [List.drop_eq_getElem_cons hj] at h
  simp only [List.map_cons, enmN] at h
  obtain ⟨h1, h2⟩ := List.cons.inj h
  exact ⟨hj, h1, h2⟩
theorem look_list {n : Nat} {xs : List Th} (hx : ∀ x ∈ xs, x.ok) {o : Bool} {Q : PV → Fr → Prop} {E : PX → Fr → Prop} (h1 : (∀ x ∈ xs, L x = true) → Q (.lst true (xs.map Th.p)) [some (.lst false (xs.map Th.p))])
    (h2 : ∀ j (hj : j < xs.length), (∀ k (hk : k < j), L (xs[k]'(Nat.lt_trans hk hj)) = true) → L xs[j] = false → E ⟨xd_BadFile, [("index", .int j)]⟩ [some (.lst false (xs.map Th.p))]) : zC (callN lw.T 100 (n + 2)) ("look_file" : Str) [.lst o (xs.map Th.p)] Q E := by
  have hf : PV.fzL (xs.map Th.p) = true := fzL_p xs
  refine run_ok T_look rfl ?_
  (conv => whnf); repeat (first | (refine ⟨_, rfl, (by first | assumption | rfl | exact fzL_ints _ | exact fzL_strs _ | exact fz_ints _ | exact fz_strs _), ?_⟩; conv => whnf) | (refine ⟨_, rfl, ?_⟩; conv => whnf) | (refine And.intro rfl ?_; conv => whnf) | (refine And.intro (by first | assumption | decide | omega) ?_; conv => whnf) | (refine And.intro (by first | assumption | rfl | exact fzL_ints _ | exact fzL_strs _ | exact fz_ints _ | exact fz_strs _) ?_; conv => whnf) | (refine And.intro (And.intro (by first | assumption | decide | omega) (by first | assumption | decide | omega)) ?_; conv => whnf) | (refine And.intro (And.intro (And.intro (by first | assumption | decide | omega) (by first | assumption | decide | omega)) (And.intro (by first | assumption | decide | omega) (by first | assumption | decide | omega))) ?_; conv => whnf) | (refine And.intro (And.intro (by first | assumption | rfl | exact fzL_ints _ | exact fzL_strs _ | exact fz_ints _ | exact fz_strs _) (And.intro (by first | assumption | rfl | exact fzL_ints _ | exact fzL_strs _ | exact fz_ints _ | exact fz_strs _) (by first | assumption | rfl | exact fzL_ints _ | exact fzL_strs _ | exact fz_ints _ | exact fz_strs _))) ?_; conv => whnf) | (refine And.intro (by first | exact Or.inl (by decide) | exact Or.inr (by decide)) ?_; conv => whnf) | (refine Or.inl (And.intro (by first | assumption | rfl | exact fzL_ints _ | exact fzL_strs _ | exact fz_ints _ | exact fz_strs _) ?_); conv => whnf) | (refine ⟨fun _ => ?_, fun z => Bool.noConfusion z⟩; conv => whnf) | (refine ⟨fun z => Bool.noConfusion z, fun _ => ?_⟩; conv => whnf) | (intro p0 z; rw [frz_lstp (by first | assumption | rfl | exact fzL_ints _ | exact fzL_strs _ | exact fz_ints _ | exact fz_strs _)] at z; subst z; conv => whnf) | (intro p0 z; rw [PV.fz_frz _ (by first | assumption | rfl | exact fzL_ints _ | exact fzL_strs _ | exact fz_ints _ | exact fz_strs _)] at z; subst z; conv => whnf))
  refine zF_in (fun rest ρ => ∃ (j : Nat) (z1 z2 : Option PV), rest = enmN (j : Int) ((xs.drop j).map Th.p) ∧ j ≤ xs.length ∧ (∀ k (hk : k < xs.length), k < j → L xs[k] = true) ∧ ρ = [some (.lst false (xs.map Th.p)), z1, z2]) ?_ ?_ ?_
  · exact ⟨0, _, _, rfl, Nat.zero_le _, fun k _ hk => absurd hk (Nat.not_lt_zero _), rfl⟩
  · rintro _ ⟨j, z1, z2, e1, e2, e3, rfl⟩
    have hj : j = xs.length := by
      rcases Nat.lt_or_ge j xs.length with z | z
      · rw [List.drop_eq_getElem_cons z] at e1
        cases e1
      · omega
    subst hj
    (conv => whnf); repeat (first | (refine ⟨_, rfl, (by first | assumption | rfl | exact fzL_ints _ | exact fzL_strs _ | exact fz_ints _ | exact fz_strs _), ?_⟩; conv => whnf) | (refine ⟨_, rfl, ?_⟩; conv => whnf) | (refine And.intro rfl ?_; conv => whnf) | (refine And.intro (by first | assumption | decide | omega) ?_; conv => whnf) | (refine And.intro (by first | assumption | rfl | exact fzL_ints _ | exact fzL_strs _ | exact fz_ints _ | exact fz_strs _) ?_; conv => whnf) | (refine And.intro (And.intro (by first | assumption | decide | omega) (by first | assumption | decide | omega)) ?_; conv => whnf) | (refine And.intro (And.intro (And.intro (by first | assumption | decide | omega) (by first | assumption | decide | omega)) (And.intro (by first | assumption | decide | omega) (by first | assumption | decide | omega))) ?_; conv => whnf) | (refine And.intro (And.intro (by first | assumption | rfl | exact fzL_ints _ | exact fzL_strs _ | exact fz_ints _ | exact fz_strs _) (And.intro (by first | assumption | rfl | exact fzL_ints _ | exact fzL_strs _ | exact fz_ints _ | exact fz_strs _) (by first | assumption | rfl | exact fzL_ints _ | exact fzL_strs _ | exact fz_ints _ | exact fz_strs _))) ?_; conv => whnf) | (refine And.intro (by first | exact Or.inl (by decide) | exact Or.inr (by decide)) ?_; conv => whnf) | (refine Or.inl (And.intro (by first | assumption | rfl | exact fzL_ints _ | exact fzL_strs _ | exact fz_ints _ | exact fz_strs _) ?_); conv => whnf) | (refine ⟨fun _ => ?_, fun z => Bool.noConfusion z⟩; conv => whnf) | (refine ⟨fun z => Bool.noConfusion z, fun _ => ?_⟩; conv => whnf) | (intro p0 z; rw [frz_lstp (by first | assumption | rfl | exact fzL_ints _ | exact fzL_strs _ | exact fz_ints _ | exact fz_strs _)] at z; subst z; conv => whnf) | (intro p0 z; rw [PV.fz_frz _ (by first | assumption | rfl | exact fzL_ints _ | exact fzL_strs _ | exact fz_ints _ | exact fz_strs _)] at z; subst z; conv => whnf))
    exact h1 fun x hx' => by
      obtain ⟨k, hk, rfl⟩ := List.getElem_of_mem hx'
      exact e3 k hk hk
  · rintro y r _ ⟨j, z1, z2, e1, e2, e3, rfl⟩
    obtain ⟨hj, rfl, rfl⟩ := drop_cons e1
    have hok := hx xs[j] (List.getElem_mem hj)
    have hL2 := h2 j hj fun k hk => e3 k (Nat.lt_trans hk hj) hk
    have hstep : L xs[j] = true → ∀ k (hk : k < xs.length), k < j + 1 → L xs[k] = true := fun hl k hk hkj => by
      rcases Nat.lt_or_eq_of_le (Nat.le_of_lt_succ hkj) with z | z
      · exact e3 k hk z
      · subst z; exact hl
    generalize xs[j] = t at hok hL2 hstep
    refine ⟨[some (.lst false (xs.map Th.p)), some (.int j), some t.p], rfl, ?_⟩
    cases t
    case sS s =>
      (conv => whnf); repeat (first | (refine ⟨_, rfl, (by first | assumption | rfl | exact fzL_ints _ | exact fzL_strs _ | exact fz_ints _ | exact fz_strs _), ?_⟩; conv => whnf) | (refine ⟨_, rfl, ?_⟩; conv => whnf) | (refine And.intro rfl ?_; conv => whnf) | (refine And.intro (by first | assumption | decide | omega) ?_; conv => whnf) | (refine And.intro (by first | assumption | rfl | exact fzL_ints _ | exact fzL_strs _ | exact fz_ints _ | exact fz_strs _) ?_; conv => whnf) | (refine And.intro (And.intro (by first | assumption | decide | omega) (by first | assumption | decide | omega)) ?_; conv => whnf) | (refine And.intro (And.intro (And.intro (by first | assumption | decide | omega) (by first | assumption | decide | omega)) (And.intro (by first | assumption | decide | omega) (by first | assumption | decide | omega))) ?_; conv => whnf) | (refine And.intro (And.intro (by first | assumption | rfl | exact fzL_ints _ | exact fzL_strs _ | exact fz_ints _ | exact fz_strs _) (And.intro (by first | assumption | rfl | exact fzL_ints _ | exact fzL_strs _ | exact fz_ints _ | exact fz_strs _) (by first | assumption | rfl | exact fzL_ints _ | exact fzL_strs _ | exact fz_ints _ | exact fz_strs _))) ?_; conv => whnf) | (refine And.intro (by first | exact Or.inl (by decide) | exact Or.inr (by decide)) ?_; conv => whnf) | (refine Or.inl (And.intro (by first | assumption | rfl | exact fzL_ints _ | exact fzL_strs _ | exact fz_ints _ | exact fz_strs _) ?_); conv => whnf) | (refine ⟨fun _ => ?_, fun z => Bool.noConfusion z⟩; conv => whnf) | (refine ⟨fun z => Bool.noConfusion z, fun _ => ?_⟩; conv => whnf) | (intro p0 z; rw [frz_lstp (by first | assumption | rfl | exact fzL_ints _ | exact fzL_strs _ | exact fz_ints _ | exact fz_strs _)] at z; subst z; conv => whnf) | (intro p0 z; rw [PV.fz_frz _ (by first | assumption | rfl | exact fzL_ints _ | exact fzL_strs _ | exact fz_ints _ | exact fz_strs _)] at z; subst z; conv => whnf))
      (first | refine isl_ok (x := .sS _) (by assumption) ?_ | refine isl_ok (x := .iI _) (by assumption) ?_ | refine isl_ok (x := .nN) (by assumption) ?_ | refine isl_ok (x := .tT) (by assumption) ?_ | refine isl_ok (x := .eE) (by assumption) ?_ | refine isl_ok (x := .uU) (by assumption) ?_ | refine isl_ok (x := .lL) (by assumption) ?_)
      (conv => whnf); repeat (first | (refine ⟨_, rfl, (by first | assumption | rfl | exact fzL_ints _ | exact fzL_strs _ | exact fz_ints _ | exact fz_strs _), ?_⟩; conv => whnf) | (refine ⟨_, rfl, ?_⟩; conv => whnf) | (refine And.intro rfl ?_; conv => whnf) | (refine And.intro (by first | assumption | decide | omega) ?_; conv => whnf) | (refine And.intro (by first | assumption | rfl | exact fzL_ints _ | exact fzL_strs _ | exact fz_ints _ | exact fz_strs _) ?_; conv => whnf) | (refine And.intro (And.intro (by first | assumption | decide | omega) (by first | assumption | decide | omega)) ?_; conv => whnf) | (refine And.intro (And.intro (And.intro (by first | assumption | decide | omega) (by first | assumption | decide | omega)) (And.intro (by first | assumption | decide | omega) (by first | assumption | decide | omega))) ?_; conv => whnf) | (refine And.intro (And.intro (by first | assumption | rfl | exact fzL_ints _ | exact fzL_strs _ | exact fz_ints _ | exact fz_strs _) (And.intro (by first | assumption | rfl | exact fzL_ints _ | exact fzL_strs _ | exact fz_ints _ | exact fz_strs _) (by first | assumption | rfl | exact fzL_ints _ | exact fzL_strs _ | exact fz_ints _ | exact fz_strs _))) ?_; conv => whnf) | (refine And.intro (by first | exact Or.inl (by decide) | exact Or.inr (by decide)) ?_; conv => whnf) | (refine Or.inl (And.intro (by first | assumption | rfl | exact fzL_ints _ | exact fzL_strs _ | exact fz_ints _ | exact fz_strs _) ?_); conv => whnf) | (refine ⟨fun _ => ?_, fun z => Bool.noConfusion z⟩; conv => whnf) | (refine ⟨fun z => Bool.noConfusion z, fun _ => ?_⟩; conv => whnf) | (intro p0 z; rw [frz_lstp (by first | assumption | rfl | exact fzL_ints _ | exact fzL_strs _ | exact fz_ints _ | exact fz_strs _)] at z; subst z; conv => whnf) | (intro p0 z; rw [PV.fz_frz _ (by first | assumption | rfl | exact fzL_ints _ | exact fzL_strs _ | exact fz_ints _ | exact fz_strs _)] at z; subst z; conv => whnf))
      refine ⟨fun hk => ?_, fun hk => ?_⟩
      · (conv => whnf); repeat (first | (refine ⟨_, rfl, (by first | assumption | rfl | exact fzL_ints _ | exact fzL_strs _ | exact fz_ints _ | exact fz_strs _), ?_⟩; conv => whnf) | (refine ⟨_, rfl, ?_⟩; conv => whnf) | (refine And.intro rfl ?_; conv => whnf) | (refine And.intro (by first | assumption | decide | omega) ?_; conv => whnf) | (refine And.intro (by first | assumption | rfl | exact fzL_ints _ | exact fzL_strs _ | exact fz_ints _ | exact fz_strs _) ?_; conv => whnf) | (refine And.intro (And.intro (by first | assumption | decide | omega) (by first | assumption | decide | omega)) ?_; conv => whnf) | (refine And.intro (And.intro (And.intro (by first | assumption | decide | omega) (by first | assumption | decide | omega)) (And.intro (by first | assumption | decide | omega) (by first | assumption | decide | omega))) ?_; conv => whnf) | (refine And.intro (And.intro (by first | assumption | rfl | exact fzL_ints _ | exact fzL_strs _ | exact fz_ints _ | exact fz_strs _) (And.intro (by first | assumption | rfl | exact fzL_ints _ | exact fzL_strs _ | exact fz_ints _ | exact fz_strs _) (by first | assumption | rfl | exact fzL_ints _ | exact fzL_strs _ | exact fz_ints _ | exact fz_strs _))) ?_; conv => whnf) | (refine And.intro (by first | exact Or.inl (by decide) | exact Or.inr (by decide)) ?_; conv => whnf) | (refine Or.inl (And.intro (by first | assumption | rfl | exact fzL_ints _ | exact fzL_strs _ | exact fz_ints _ | exact fz_strs _) ?_); conv => whnf) | (refine ⟨fun _ => ?_, fun z => Bool.noConfusion z⟩; conv => whnf) | (refine ⟨fun z => Bool.noConfusion z, fun _ => ?_⟩; conv => whnf) | (intro p0 z; rw [frz_lstp (by first | assumption | rfl | exact fzL_ints _ | exact fzL_strs _ | exact fz_ints _ | exact fz_strs _)] at z; subst z; conv => whnf) | (intro p0 z; rw [PV.fz_frz _ (by first | assumption | rfl | exact fzL_ints _ | exact fzL_strs _ | exact fz_ints _ | exact fz_strs _)] at z; subst z; conv => whnf))
        exact hL2 (by simpa using hk)
      · (conv => whnf); repeat (first | (refine ⟨_, rfl, (by first | assumption | rfl | exact fzL_ints _ | exact fzL_strs _ | exact fz_ints _ | exact fz_strs _), ?_⟩; conv => whnf) | (refine ⟨_, rfl, ?_⟩; conv => whnf) | (refine And.intro rfl ?_; conv => whnf) | (refine And.intro (by first | assumption | decide | omega) ?_; conv => whnf) | (refine And.intro (by first | assumption | rfl | exact fzL_ints _ | exact fzL_strs _ | exact fz_ints _ | exact fz_strs _) ?_; conv => whnf) | (refine And.intro (And.intro (by first | assumption | decide | omega) (by first | assumption | decide | omega)) ?_; conv => whnf) | (refine And.intro (And.intro (And.intro (by first | assumption | decide | omega) (by first | assumption | decide | omega)) (And.intro (by first | assumption | decide | omega) (by first | assumption | decide | omega))) ?_; conv => whnf) | (refine And.intro (And.intro (by first | assumption | rfl | exact fzL_ints _ | exact fzL_strs _ | exact fz_ints _ | exact fz_strs _) (And.intro (by first | assumption | rfl | exact fzL_ints _ | exact fzL_strs _ | exact fz_ints _ | exact fz_strs _) (by first | assumption | rfl | exact fzL_ints _ | exact fzL_strs _ | exact fz_ints _ | exact fz_strs _))) ?_; conv => whnf) | (refine And.intro (by first | exact Or.inl (by decide) | exact Or.inr (by decide)) ?_; conv => whnf) | (refine Or.inl (And.intro (by first | assumption | rfl | exact fzL_ints _ | exact fzL_strs _ | exact fz_ints _ | exact fz_strs _) ?_); conv => whnf) | (refine ⟨fun _ => ?_, fun z => Bool.noConfusion z⟩; conv => whnf) | (refine ⟨fun z => Bool.noConfusion z, fun _ => ?_⟩; conv => whnf) | (intro p0 z; rw [frz_lstp (by first | assumption | rfl | exact fzL_ints _ | exact fzL_strs _ | exact fz_ints _ | exact fz_strs _)] at z; subst z; conv => whnf) | (intro p0 z; rw [PV.fz_frz _ (by first | assumption | rfl | exact fzL_ints _ | exact fzL_strs _ | exact fz_ints _ | exact fz_strs _)] at z; subst z; conv => whnf))
        exact ⟨j + 1, _, _, rfl, hj, hstep (by simpa using hk), rfl⟩
    all_goals
      (conv => whnf); repeat (first | (refine ⟨_, rfl, (by first | assumption | rfl | exact fzL_ints _ | exact fzL_strs _ | exact fz_ints _ | exact fz_strs _), ?_⟩; conv => whnf) | (refine ⟨_, rfl, ?_⟩; conv => whnf) | (refine And.intro rfl ?_; conv => whnf) | (refine And.intro (by first | assumption | decide | omega) ?_; conv => whnf) | (refine And.intro (by first | assumption | rfl | exact fzL_ints _ | exact fzL_strs _ | exact fz_ints _ | exact fz_strs _) ?_; conv => whnf) | (refine And.intro (And.intro (by first | assumption | decide | omega) (by first | assumption | decide | omega)) ?_; conv => whnf) | (refine And.intro (And.intro (And.intro (by first | assumption | decide | omega) (by first | assumption | decide | omega)) (And.intro (by first | assumption | decide | omega) (by first | assumption | decide | omega))) ?_; conv => whnf) | (refine And.intro (And.intro (by first | assumption | rfl | exact fzL_ints _ | exact fzL_strs _ | exact fz_ints _ | exact fz_strs _) (And.intro (by first | assumption | rfl | exact fzL_ints _ | exact fzL_strs _ | exact fz_ints _ | exact fz_strs _) (by first | assumption | rfl | exact fzL_ints _ | exact fzL_strs _ | exact fz_ints _ | exact fz_strs _))) ?_; conv => whnf) | (refine And.intro (by first | exact Or.inl (by decide) | exact Or.inr (by decide)) ?_; conv => whnf) | (refine Or.inl (And.intro (by first | assumption | rfl | exact fzL_ints _ | exact fzL_strs _ | exact fz_ints _ | exact fz_strs _) ?_); conv => whnf) | (refine ⟨fun _ => ?_, fun z => Bool.noConfusion z⟩; conv => whnf) | (refine ⟨fun z => Bool.noConfusion z, fun _ => ?_⟩; conv => whnf) | (intro p0 z; rw [frz_lstp (by first | assumption | rfl | exact fzL_ints _ | exact fzL_strs _ | exact fz_ints _ | exact fz_strs _)] at z; subst z; conv => whnf) | (intro p0 z; rw [PV.fz_frz _ (by first | assumption | rfl | exact fzL_ints _ | exact fzL_strs _ | exact fz_ints _ | exact fz_strs _)] at z; subst z; conv => whnf))
      (first | refine isl_ok (x := .sS _) (by assumption) ?_ | refine isl_ok (x := .iI _) (by assumption) ?_ | refine isl_ok (x := .nN) (by assumption) ?_ | refine isl_ok (x := .tT) (by assumption) ?_ | refine isl_ok (x := .eE) (by assumption) ?_ | refine isl_ok (x := .uU) (by assumption) ?_ | refine isl_ok (x := .lL) (by assumption) ?_)
      (conv => whnf); repeat (first | (refine ⟨_, rfl, (by first | assumption | rfl | exact fzL_ints _ | exact fzL_strs _ | exact fz_ints _ | exact fz_strs _), ?_⟩; conv => whnf) | (refine ⟨_, rfl, ?_⟩; conv => whnf) | (refine And.intro rfl ?_; conv => whnf) | (refine And.intro (by first | assumption | decide | omega) ?_; conv => whnf) | (refine And.intro (by first | assumption | rfl | exact fzL_ints _ | exact fzL_strs _ | exact fz_ints _ | exact fz_strs _) ?_; conv => whnf) | (refine And.intro (And.intro (by first | assumption | decide | omega) (by first | assumption | decide | omega)) ?_; conv => whnf) | (refine And.intro (And.intro (And.intro (by first | assumption | decide | omega) (by first | assumption | decide | omega)) (And.intro (by first | assumption | decide | omega) (by first | assumption | decide | omega))) ?_; conv => whnf) | (refine And.intro (And.intro (by first | assumption | rfl | exact fzL_ints _ | exact fzL_strs _ | exact fz_ints _ | exact fz_strs _) (And.intro (by first | assumption | rfl | exact fzL_ints _ | exact fzL_strs _ | exact fz_ints _ | exact fz_strs _) (by first | assumption | rfl | exact fzL_ints _ | exact fzL_strs _ | exact fz_ints _ | exact fz_strs _))) ?_; conv => whnf) | (refine And.intro (by first | exact Or.inl (by decide) | exact Or.inr (by decide)) ?_; conv => whnf) | (refine Or.inl (And.intro (by first | assumption | rfl | exact fzL_ints _ | exact fzL_strs _ | exact fz_ints _ | exact fz_strs _) ?_); conv => whnf) | (refine ⟨fun _ => ?_, fun z => Bool.noConfusion z⟩; conv => whnf) | (refine ⟨fun z => Bool.noConfusion z, fun _ => ?_⟩; conv => whnf) | (intro p0 z; rw [frz_lstp (by first | assumption | rfl | exact fzL_ints _ | exact fzL_strs _ | exact fz_ints _ | exact fz_strs _)] at z; subst z; conv => whnf) | (intro p0 z; rw [PV.fz_frz _ (by first | assumption | rfl | exact fzL_ints _ | exact fzL_strs _ | exact fz_ints _ | exact fz_strs _)] at z; subst z; conv => whnf))
      exact hL2 rfl
end K01
end
section
set_option Elab.async false
set_option linter.all false
set_option maxRecDepth 100001
set_option maxHeartbeats 2000001
set_option autoImplicit false
namespace K01
open PySem Y
theorem T_idx : lw.T ("_law_index" : Str) = some fd_law_index := tblOf_mem (e := en_law_index) nd (by simp [lw])
theorem idx_list {n : Nat} {xs : List Th} (hx : ∀ x ∈ xs, x.ok) {Q : PV → Fr → Prop} {E : PX → Fr → Prop} (h1 : (∀ x ∈ xs, L x = true) → Q (.tup [.str "new", .lst true (xs.map Th.p)]) [some (.lst false (xs.map Th.p))])
    (h2 : ∀ j (hj : j < xs.length), (∀ k (hk : k < j), L (xs[k]'(Nat.lt_trans hk hj)) = true) → L xs[j] = false → Q (.int j) [some (.lst false (xs.map Th.p))]) : zC (callN lw.T 100 (n + 3)) ("_law_index" : Str) [.lst true (xs.map Th.p)] Q E := by
  refine run_ok T_idx rfl ?_
  (conv => whnf); repeat (first | (refine ⟨_, rfl, (by first | assumption | rfl | exact fzL_ints _ | exact fzL_strs _ | exact fz_ints _ | exact fz_strs _), ?_⟩; conv => whnf) | (refine ⟨_, rfl, ?_⟩; conv => whnf) | (refine And.intro rfl ?_; conv => whnf) | (refine And.intro (by first | assumption | decide | omega) ?_; conv => whnf) | (refine And.intro (by first | assumption | rfl | exact fzL_ints _ | exact fzL_strs _ | exact fz_ints _ | exact fz_strs _) ?_; conv => whnf) | (refine And.intro (And.intro (by first | assumption | decide | omega) (by first | assumption | decide | omega)) ?_; conv => whnf) | (refine And.intro (And.intro (And.intro (by first | assumption | decide | omega) (by first | assumption | decide | omega)) (And.intro (by first | assumption | decide | omega) (by first | assumption | decide | omega))) ?_; conv => whnf) | (refine And.intro (And.intro (by first | assumption | rfl | exact fzL_ints _ | exact fzL_strs _ | exact fz_ints _ | exact fz_strs _) (And.intro (by first | assumption | rfl | exact fzL_ints _ | exact fzL_strs _ | exact fz_ints _ | exact fz_strs _) (by first | assumption | rfl | exact fzL_ints _ | exact fzL_strs _ | exact fz_ints _ | exact fz_strs _))) ?_; conv => whnf) | (refine And.intro (by first | exact Or.inl (by decide) | exact Or.inr (by decide)) ?_; conv => whnf) | (refine Or.inl (And.intro (by first | assumption | rfl | exact fzL_ints _ | exact fzL_strs _ | exact fz_ints _ | exact fz_strs _) ?_); conv => whnf) | (refine ⟨fun _ => ?_, fun z => Bool.noConfusion z⟩; conv => whnf) | (refine ⟨fun z => Bool.noConfusion z, fun _ => ?_⟩; conv => whnf) | (intro p0 z; rw [frz_lstp (by first | assumption | rfl | exact fzL_ints _ | exact fzL_strs _ | exact fz_ints _ | exact fz_strs _)] at z; subst z; conv => whnf) | (intro p0 z; rw [PV.fz_frz _ (by first | assumption | rfl | exact fzL_ints _ | exact fzL_strs _ | exact fz_ints _ | exact fz_strs _)] at z; subst z; conv => whnf))
  refine look_list hx (fun hl => ?_) fun j hj hb hl => ?_
  · (conv => whnf); repeat (first | (refine ⟨_, rfl, (by first | assumption | rfl | exact fzL_ints _ | exact fzL_strs _ | exact fz_ints _ | exact fz_strs _), ?_⟩; conv => whnf) | (refine ⟨_, rfl, ?_⟩; conv => whnf) | (refine And.intro rfl ?_; conv => whnf) | (refine And.intro (by first | assumption | decide | omega) ?_; conv => whnf) | (refine And.intro (by first | assumption | rfl | exact fzL_ints _ | exact fzL_strs _ | exact fz_ints _ | exact fz_strs _) ?_; conv => whnf) | (refine And.intro (And.intro (by first | assumption | decide | omega) (by first | assumption | decide | omega)) ?_; conv => whnf) | (refine And.intro (And.intro (And.intro (by first | assumption | decide | omega) (by first | assumption | decide | omega)) (And.intro (by first | assumption | decide | omega) (by first | assumption | decide | omega))) ?_; conv => whnf) | (refine And.intro (And.intro (by first | assumption | rfl | exact fzL_ints _ | exact fzL_strs _ | exact fz_ints _ | exact fz_strs _) (And.intro (by first | assumption | rfl | exact fzL_ints _ | exact fzL_strs _ | exact fz_ints _ | exact fz_strs _) (by first | assumption | rfl | exact fzL_ints _ | exact fzL_strs _ | exact fz_ints _ | exact fz_strs _))) ?_; conv => whnf) | (refine And.intro (by first | exact Or.inl (by decide) | exact Or.inr (by decide)) ?_; conv => whnf) | (refine Or.inl (And.intro (by first | assumption | rfl | exact fzL_ints _ | exact fzL_strs _ | exact fz_ints _ | exact fz_strs _) ?_); conv => whnf) | (refine ⟨fun _ => ?_, fun z => Bool.noConfusion z⟩; conv => whnf) | (refine ⟨fun z => Bool.noConfusion z, fun _ => ?_⟩; conv => whnf) | (intro p0 z; rw [frz_lstp (by first | assumption | rfl | exact fzL_ints _ | exact fzL_strs _ | exact fz_ints _ | exact fz_strs _)] at z; subst z; conv => whnf) | (intro p0 z; rw [PV.fz_frz _ (by first | assumption | rfl | exact fzL_ints _ | exact fzL_strs _ | exact fz_ints _ | exact fz_strs _)] at z; subst z; conv => whnf))
    exact h1 hl
  · have r := h2 j hj hb hl
    conv => whnf
    refine And.intro rfl ?_
    rw [show isiT "int" "bool" = false from by decide +kernel]
    (conv => whnf); repeat (first | (refine ⟨_, rfl, (by first | assumption | rfl | exact fzL_ints _ | exact fzL_strs _ | exact fz_ints _ | exact fz_strs _), ?_⟩; conv => whnf) | (refine ⟨_, rfl, ?_⟩; conv => whnf) | (refine And.intro rfl ?_; conv => whnf) | (refine And.intro (by first | assumption | decide | omega) ?_; conv => whnf) | (refine And.intro (by first | assumption | rfl | exact fzL_ints _ | exact fzL_strs _ | exact fz_ints _ | exact fz_strs _) ?_; conv => whnf) | (refine And.intro (And.intro (by first | assumption | decide | omega) (by first | assumption | decide | omega)) ?_; conv => whnf) | (refine And.intro (And.intro (And.intro (by first | assumption | decide | omega) (by first | assumption | decide | omega)) (And.intro (by first | assumption | decide | omega) (by first | assumption | decide | omega))) ?_; conv => whnf) | (refine And.intro (And.intro (by first | assumption | rfl | exact fzL_ints _ | exact fzL_strs _ | exact fz_ints _ | exact fz_strs _) (And.intro (by first | assumption | rfl | exact fzL_ints _ | exact fzL_strs _ | exact fz_ints _ | exact fz_strs _) (by first | assumption | rfl | exact fzL_ints _ | exact fzL_strs _ | exact fz_ints _ | exact fz_strs _))) ?_; conv => whnf) | (refine And.intro (by first | exact Or.inl (by decide) | exact Or.inr (by decide)) ?_; conv => whnf) | (refine Or.inl (And.intro (by first | assumption | rfl | exact fzL_ints _ | exact fzL_strs _ | exact fz_ints _ | exact fz_strs _) ?_); conv => whnf) | (refine ⟨fun _ => ?_, fun z => Bool.noConfusion z⟩; conv => whnf) | (refine ⟨fun z => Bool.noConfusion z, fun _ => ?_⟩; conv => whnf) | (intro p0 z; rw [frz_lstp (by first | assumption | rfl | exact fzL_ints _ | exact fzL_strs _ | exact fz_ints _ | exact fz_strs _)] at z; subst z; conv => whnf) | (intro p0 z; rw [PV.fz_frz _ (by first | assumption | rfl | exact fzL_ints _ | exact fzL_strs _ | exact fz_ints _ | exact fz_strs _)] at z; subst z; conv => whnf))
    exact r
theorem idx_no {n : Nat} {p : PV} {ty : String} (hp : p.fz = true) (hn : (p = .non ∧ ty = "NoneType") ∨ (∃ s, p = .str s ∧ ty = "str") ∨ (∃ ys, p = .tup ys ∧ ty = "tuple")) {Q : PV → Fr → Prop} {E : PX → Fr → Prop} (h : Q (.int (-1)) [some p]) : zC (callN lw.T 100 (n + 2)) ("_law_index" : Str) [p] Q E := by
  rcases hn with ⟨rfl, rfl⟩ | ⟨s, rfl, rfl⟩ | ⟨ys, rfl, rfl⟩
  · refine run_ok T_idx rfl ?_
    (conv => whnf); repeat (first | (refine ⟨_, rfl, (by first | assumption | rfl | exact fzL_ints _ | exact fzL_strs _ | exact fz_ints _ | exact fz_strs _), ?_⟩; conv => whnf) | (refine ⟨_, rfl, ?_⟩; conv => whnf) | (refine And.intro rfl ?_; conv => whnf) | (refine And.intro (by first | assumption | decide | omega) ?_; conv => whnf) | (refine And.intro (by first | assumption | rfl | exact fzL_ints _ | exact fzL_strs _ | exact fz_ints _ | exact fz_strs _) ?_; conv => whnf) | (refine And.intro (And.intro (by first | assumption | decide | omega) (by first | assumption | decide | omega)) ?_; conv => whnf) | (refine And.intro (And.intro (And.intro (by first | assumption | decide | omega) (by first | assumption | decide | omega)) (And.intro (by first | assumption | decide | omega) (by first | assumption | decide | omega))) ?_; conv => whnf) | (refine And.intro (And.intro (by first | assumption | rfl | exact fzL_ints _ | exact fzL_strs _ | exact fz_ints _ | exact fz_strs _) (And.intro (by first | assumption | rfl | exact fzL_ints _ | exact fzL_strs _ | exact fz_ints _ | exact fz_strs _) (by first | assumption | rfl | exact fzL_ints _ | exact fzL_strs _ | exact fz_ints _ | exact fz_strs _))) ?_; conv => whnf) | (refine And.intro (by first | exact Or.inl (by decide) | exact Or.inr (by decide)) ?_; conv => whnf) | (refine Or.inl (And.intro (by first | assumption | rfl | exact fzL_ints _ | exact fzL_strs _ | exact fz_ints _ | exact fz_strs _) ?_); conv => whnf) | (refine ⟨fun _ => ?_, fun z => Bool.noConfusion z⟩; conv => whnf) | (refine ⟨fun z => Bool.noConfusion z, fun _ => ?_⟩; conv => whnf) | (intro p0 z; rw [frz_lstp (by first | assumption | rfl | exact fzL_ints _ | exact fzL_strs _ | exact fz_ints _ | exact fz_strs _)] at z; subst z; conv => whnf) | (intro p0 z; rw [PV.fz_frz _ (by first | assumption | rfl | exact fzL_ints _ | exact fzL_strs _ | exact fz_ints _ | exact fz_strs _)] at z; subst z; conv => whnf))
    refine look_no hp (.inl ⟨rfl, rfl⟩) ?_
    conv => whnf
    refine And.intro rfl ?_
    rw [show isiT "int" "bool" = false from by decide +kernel]
    (conv => whnf); repeat (first | (refine ⟨_, rfl, (by first | assumption | rfl | exact fzL_ints _ | exact fzL_strs _ | exact fz_ints _ | exact fz_strs _), ?_⟩; conv => whnf) | (refine ⟨_, rfl, ?_⟩; conv => whnf) | (refine And.intro rfl ?_; conv => whnf) | (refine And.intro (by first | assumption | decide | omega) ?_; conv => whnf) | (refine And.intro (by first | assumption | rfl | exact fzL_ints _ | exact fzL_strs _ | exact fz_ints _ | exact fz_strs _) ?_; conv => whnf) | (refine And.intro (And.intro (by first | assumption | decide | omega) (by first | assumption | decide | omega)) ?_; conv => whnf) | (refine And.intro (And.intro (And.intro (by first | assumption | decide | omega) (by first | assumption | decide | omega)) (And.intro (by first | assumption | decide | omega) (by first | assumption | decide | omega))) ?_; conv => whnf) | (refine And.intro (And.intro (by first | assumption | rfl | exact fzL_ints _ | exact fzL_strs _ | exact fz_ints _ | exact fz_strs _) (And.intro (by first | assumption | rfl | exact fzL_ints _ | exact fzL_strs _ | exact fz_ints _ | exact fz_strs _) (by first | assumption | rfl | exact fzL_ints _ | exact fzL_strs _ | exact fz_ints _ | exact fz_strs _))) ?_; conv => whnf) | (refine And.intro (by first | exact Or.inl (by decide) | exact Or.inr (by decide)) ?_; conv => whnf) | (refine Or.inl (And.intro (by first | assumption | rfl | exact fzL_ints _ | exact fzL_strs _ | exact fz_ints _ | exact fz_strs _) ?_); conv => whnf) | (refine ⟨fun _ => ?_, fun z => Bool.noConfusion z⟩; conv => whnf) | (refine ⟨fun z => Bool.noConfusion z, fun _ => ?_⟩; conv => whnf) | (intro p0 z; rw [frz_lstp (by first | assumption | rfl | exact fzL_ints _ | exact fzL_strs _ | exact fz_ints _ | exact fz_strs _)] at z; subst z; conv => whnf) | (intro p0 z; rw [PV.fz_frz _ (by first | assumption | rfl | exact fzL_ints _ | exact fzL_strs _ | exact fz_ints _ | exact fz_strs _)] at z; subst z; conv => whnf))
    exact h
  · refine run_ok T_idx rfl ?_
    (conv => whnf); repeat (first | (refine ⟨_, rfl, (by first | assumption | rfl | exact fzL_ints _ | exact fzL_strs _ | exact fz_ints _ | exact fz_strs _), ?_⟩; conv => whnf) | (refine ⟨_, rfl, ?_⟩; conv => whnf) | (refine And.intro rfl ?_; conv => whnf) | (refine And.intro (by first | assumption | decide | omega) ?_; conv => whnf) | (refine And.intro (by first | assumption | rfl | exact fzL_ints _ | exact fzL_strs _ | exact fz_ints _ | exact fz_strs _) ?_; conv => whnf) | (refine And.intro (And.intro (by first | assumption | decide | omega) (by first | assumption | decide | omega)) ?_; conv => whnf) | (refine And.intro (And.intro (And.intro (by first | assumption | decide | omega) (by first | assumption | decide | omega)) (And.intro (by first | assumption | decide | omega) (by first | assumption | decide | omega))) ?_; conv => whnf) | (refine And.intro (And.intro (by first | assumption | rfl | exact fzL_ints _ | exact fzL_strs _ | exact fz_ints _ | exact fz_strs _) (And.intro (by first | assumption | rfl | exact fzL_ints _ | exact fzL_strs _ | exact fz_ints _ | exact fz_strs _) (by first | assumption | rfl | exact fzL_ints _ | exact fzL_strs _ | exact fz_ints _ | exact fz_strs _))) ?_; conv => whnf) | (refine And.intro (by first | exact Or.inl (by decide) | exact Or.inr (by decide)) ?_; conv => whnf) | (refine Or.inl (And.intro (by first | assumption | rfl | exact fzL_ints _ | exact fzL_strs _ | exact fz_ints _ | exact fz_strs _) ?_); conv => whnf) | (refine ⟨fun _ => ?_, fun z => Bool.noConfusion z⟩; conv => whnf) | (refine ⟨fun z => Bool.noConfusion z, fun _ => ?_⟩; conv => whnf) | (intro p0 z; rw [frz_lstp (by first | assumption | rfl | exact fzL_ints _ | exact fzL_strs _ | exact fz_ints _ | exact fz_strs _)] at z; subst z; conv => whnf) | (intro p0 z; rw [PV.fz_frz _ (by first | assumption | rfl | exact fzL_ints _ | exact fzL_strs _ | exact fz_ints _ | exact fz_strs _)] at z; subst z; conv => whnf))
    refine look_no hp (.inr (.inl ⟨_, rfl, rfl⟩)) ?_
    conv => whnf
    refine And.intro rfl ?_
    rw [show isiT "int" "bool" = false from by decide +kernel]
    (conv => whnf); repeat (first | (refine ⟨_, rfl, (by first | assumption | rfl | exact fzL_ints _ | exact fzL_strs _ | exact fz_ints _ | exact fz_strs _), ?_⟩; conv => whnf) | (refine ⟨_, rfl, ?_⟩; conv => whnf) | (refine And.intro rfl ?_; conv => whnf) | (refine And.intro (by first | assumption | decide | omega) ?_; conv => whnf) | (refine And.intro (by first | assumption | rfl | exact fzL_ints _ | exact fzL_strs _ | exact fz_ints _ | exact fz_strs _) ?_; conv => whnf) | (refine And.intro (And.intro (by first | assumption | decide | omega) (by first | assumption | decide | omega)) ?_; conv => whnf) | (refine And.intro (And.intro (And.intro (by first | assumption | decide | omega) (by first | assumption | decide | omega)) (And.intro (by first | assumption | decide | omega) (by first | assumption | decide | omega))) ?_; conv => whnf) | (refine And.intro (And.intro (by first | assumption | rfl | exact fzL_ints _ | exact fzL_strs _ | exact fz_ints _ | exact fz_strs _) (And.intro (by first | assumption | rfl | exact fzL_ints _ | exact fzL_strs _ | exact fz_ints _ | exact fz_strs _) (by first | assumption | rfl | exact fzL_ints _ | exact fzL_strs _ | exact fz_ints _ | exact fz_strs _))) ?_; conv => whnf) | (refine And.intro (by first | exact Or.inl (by decide) | exact Or.inr (by decide)) ?_; conv => whnf) | (refine Or.inl (And.intro (by first | assumption | rfl | exact fzL_ints _ | exact fzL_strs _ | exact fz_ints _ | exact fz_strs _) ?_); conv => whnf) | (refine ⟨fun _ => ?_, fun z => Bool.noConfusion z⟩; conv => whnf) | (refine ⟨fun z => Bool.noConfusion z, fun _ => ?_⟩; conv => whnf) | (intro p0 z; rw [frz_lstp (by first | assumption | rfl | exact fzL_ints _ | exact fzL_strs _ | exact fz_ints _ | exact fz_strs _)] at z; subst z; conv => whnf) | (intro p0 z; rw [PV.fz_frz _ (by first | assumption | rfl | exact fzL_ints _ | exact fzL_strs _ | exact fz_ints _ | exact fz_strs _)] at z; subst z; conv => whnf))
    exact h
  · refine run_ok T_idx rfl ?_
    conv => whnf
    refine .inl (And.intro hp ?_)
    (conv => whnf); repeat (first | (refine ⟨_, rfl, (by first | assumption | rfl | exact fzL_ints _ | exact fzL_strs _ | exact fz_ints _ | exact fz_strs _), ?_⟩; conv => whnf) | (refine ⟨_, rfl, ?_⟩; conv => whnf) | (refine And.intro rfl ?_; conv => whnf) | (refine And.intro (by first | assumption | decide | omega) ?_; conv => whnf) | (refine And.intro (by first | assumption | rfl | exact fzL_ints _ | exact fzL_strs _ | exact fz_ints _ | exact fz_strs _) ?_; conv => whnf) | (refine And.intro (And.intro (by first | assumption | decide | omega) (by first | assumption | decide | omega)) ?_; conv => whnf) | (refine And.intro (And.intro (And.intro (by first | assumption | decide | omega) (by first | assumption | decide | omega)) (And.intro (by first | assumption | decide | omega) (by first | assumption | decide | omega))) ?_; conv => whnf) | (refine And.intro (And.intro (by first | assumption | rfl | exact fzL_ints _ | exact fzL_strs _ | exact fz_ints _ | exact fz_strs _) (And.intro (by first | assumption | rfl | exact fzL_ints _ | exact fzL_strs _ | exact fz_ints _ | exact fz_strs _) (by first | assumption | rfl | exact fzL_ints _ | exact fzL_strs _ | exact fz_ints _ | exact fz_strs _))) ?_; conv => whnf) | (refine And.intro (by first | exact Or.inl (by decide) | exact Or.inr (by decide)) ?_; conv => whnf) | (refine Or.inl (And.intro (by first | assumption | rfl | exact fzL_ints _ | exact fzL_strs _ | exact fz_ints _ | exact fz_strs _) ?_); conv => whnf) | (refine ⟨fun _ => ?_, fun z => Bool.noConfusion z⟩; conv => whnf) | (refine ⟨fun z => Bool.noConfusion z, fun _ => ?_⟩; conv => whnf) | (intro p0 z; rw [frz_lstp (by first | assumption | rfl | exact fzL_ints _ | exact fzL_strs _ | exact fz_ints _ | exact fz_strs _)] at z; subst z; conv => whnf) | (intro p0 z; rw [PV.fz_frz _ (by first | assumption | rfl | exact fzL_ints _ | exact fzL_strs _ | exact fz_ints _ | exact fz_strs _)] at z; subst z; conv => whnf))
    refine look_no hp (.inr (.inr ⟨_, rfl, rfl⟩)) ?_
    conv => whnf
    refine And.intro rfl ?_
    rw [show isiT "int" "bool" = false from by decide +kernel]
    (conv => whnf); repeat (first | (refine ⟨_, rfl, (by first | assumption | rfl | exact fzL_ints _ | exact fzL_strs _ | exact fz_ints _ | exact fz_strs _), ?_⟩; conv => whnf) | (refine ⟨_, rfl, ?_⟩; conv => whnf) | (refine And.intro rfl ?_; conv => whnf) | (refine And.intro (by first | assumption | decide | omega) ?_; conv => whnf) | (refine And.intro (by first | assumption | rfl | exact fzL_ints _ | exact fzL_strs _ | exact fz_ints _ | exact fz_strs _) ?_; conv => whnf) | (refine And.intro (And.intro (by first | assumption | decide | omega) (by first | assumption | decide | omega)) ?_; conv => whnf) | (refine And.intro (And.intro (And.intro (by first | assumption | decide | omega) (by first | assumption | decide | omega)) (And.intro (by first | assumption | decide | omega) (by first | assumption | decide | omega))) ?_; conv => whnf) | (refine And.intro (And.intro (by first | assumption | rfl | exact fzL_ints _ | exact fzL_strs _ | exact fz_ints _ | exact fz_strs _) (And.intro (by first | assumption | rfl | exact fzL_ints _ | exact fzL_strs _ | exact fz_ints _ | exact fz_strs _) (by first | assumption | rfl | exact fzL_ints _ | exact fzL_strs _ | exact fz_ints _ | exact fz_strs _))) ?_; conv => whnf) | (refine And.intro (by first | exact Or.inl (by decide) | exact Or.inr (by decide)) ?_; conv => whnf) | (refine Or.inl (And.intro (by first | assumption | rfl | exact fzL_ints _ | exact fzL_strs _ | exact fz_ints _ | exact fz_strs _) ?_); conv => whnf) | (refine ⟨fun _ => ?_, fun z => Bool.noConfusion z⟩; conv => whnf) | (refine ⟨fun z => Bool.noConfusion z, fun _ => ?_⟩; conv => whnf) | (intro p0 z; rw [frz_lstp (by first | assumption | rfl | exact fzL_ints _ | exact fzL_strs _ | exact fz_ints _ | exact fz_strs _)] at z; subst z; conv => whnf) | (intro p0 z; rw [PV.fz_frz _ (by first | assumption | rfl | exact fzL_ints _ | exact fzL_strs _ | exact fz_ints _ | exact fz_strs _)] at z; subst z; conv => whnf))
    exact h
end K01
end
section
set_option Elab.async false
set_option linter.all false
set_option maxRecDepth 100001
set_option maxHeartbeats 2000001
set_option autoImplicit false
namespace K01
open PySem Y
/-! == of lists of things, with themselves -/
theorem dat_p (t : Th) : t.p.dat = some t.g := by cases t <;> rfl
theorem eqv_g (t : Th) : PyData.eqv t.g t.g = true := by
  cases t <;> first
    | rfl
    | (simp [Th.g, PyData.eqv, PyData.eqvAll]; done)
    | (simp only [Th.g, eqv_int, eqv_str]; exact decide_eq_true rfl)
theorem dep_g (t : Th) : t.g.depth ≤ 2 := by
  cases t <;> simp [Th.g, PyData.depth, PyData.depthAll]
theorem eqvAll_g : ∀ xs : List Th, PyData.eqvAll (xs.map Th.g) (xs.map Th.g) = true
  | [] => rfl
  | t :: xs => by simp only [List.map_cons, PyData.eqvAll, eqv_g t, eqvAll_g xs]; rfl
theorem n_neT {o o2 : Bool} {xs : List Th} : opN (.cmp .NotEq) [.lst o (xs.map Th.p), .lst o2 (xs.map Th.p)] = some (.bl false) := by
  show (cmpN .NotEq _ _).map _ = _
  have hd := depthAll_of dep_g xs
  have h1 : (PyData.list (xs.map Th.g)).depth ≤ 60 := by simp only [PyData.depth]; omega
  simp only [cmpN, cdat, PV.dat, datL_of dat_p, Option.map, decide_eq_true h1, if_true, PyData.eqv, eqvAll_g]
  rfl
theorem n_neTup {o o2 : Bool} {xs : List Th} : opN (.cmp .NotEq) [.tup [.str "new", .lst o (xs.map Th.p)], .tup [.str "new", .lst o2 (xs.map Th.p)]] = some (.bl false) := by
  show (cmpN .NotEq _ _).map _ = _
  have hd := depthAll_of dep_g xs
  have h1 : (PyData.tuple [.str "new", .list (xs.map Th.g)]).depth ≤ 60 := by simp only [PyData.depth, PyData.depthAll]; omega
  simp only [cmpN, cdat, PV.dat, PV.datL, datL_of dat_p, Option.map, decide_eq_true h1, if_true, PyData.eqv, PyData.eqvAll, eqvAll_g, eqv_str, decide_true, Bool.and_true, Bool.true_and]
  rfl
theorem n_ne0 {o o2 : Bool} {bs : List Int} : opN (.cmp .NotEq) [.lst o (bs.map .int), .lst o2 []] = some (.bl (!decide (bs = []))) := kd_ne kInt (by decide) (ys := [])
/-- the indexes of no lines among the first j -/
def Bd (ls : List Th) (j : Nat) (bs : List Int) : Prop := (bs = [] ∧ ∀ k (hk : k < ls.length), k < j → L ls[k] = true) ∨ ∃ (b : Nat) (r : List Int) (hb : b < ls.length), bs = (b : Int) :: r ∧ b < j ∧ L ls[b] = false ∧ ∀ k (hk : k < b), L (ls[k]'(Nat.lt_trans hk hb)) = true
theorem Bd.yes {ls : List Th} {j : Nat} {bs : List Int} (h : Bd ls j bs) (hj : j < ls.length) (hl : L ls[j] = true) : Bd ls (j + 1) bs := by
  rcases h with ⟨rfl, h⟩ | ⟨b, r, hb, rfl, h1, h2, h3⟩
  · refine .inl ⟨rfl, fun k hk hkj => ?_⟩
    rcases Nat.lt_or_eq_of_le (Nat.le_of_lt_succ hkj) with z | z
    · exact h k hk z
    · subst z; exact hl
  · exact .inr ⟨b, r, hb, rfl, Nat.lt_succ_of_lt h1, h2, h3⟩
theorem Bd.no {ls : List Th} {j : Nat} {bs : List Int} (h : Bd ls j bs) (hj : j < ls.length) (hl : L ls[j] = false) : Bd ls (j + 1) (bs ++ [(j : Int)]) := by
  rcases h with ⟨rfl, h⟩ | ⟨b, r, hb, rfl, h1, h2, h3⟩
  · exact .inr ⟨j, [], hj, rfl, Nat.lt_succ_self j, hl, fun k hk => h k (Nat.lt_trans hk hj) hk⟩
  · exact .inr ⟨b, r ++ [(j : Int)], hb, rfl, Nat.lt_succ_of_lt h1, h2, h3⟩
theorem Bd.first {ls : List Th} {bs : List Int} (h : Bd ls ls.length bs) {j : Nat} (hj : j < ls.length) (hb : ∀ k (hk : k < j), L (ls[k]'(Nat.lt_trans hk hj)) = true) (hl : L ls[j] = false) : ∃ r, bs = (j : Int) :: r := by
  rcases h with ⟨rfl, h⟩ | ⟨b, r, hb', rfl, h1, h2, h3⟩
  · rw [h j hj hj] at hl; cases hl
  · rcases Nat.lt_trichotomy b j with z | z | z
    · rw [hb b z] at h2; cases h2
    · subst z; exact ⟨r, rfl⟩
    · rw [h3 j z] at hl; cases hl
theorem Bd.none {ls : List Th} {bs : List Int} (h : Bd ls ls.length bs) (hl : ∀ x ∈ ls, L x = true) : bs = [] := by
  rcases h with ⟨rfl, _⟩ | ⟨b, r, hb', rfl, h1, h2, h3⟩
  · rfl
  · rw [hl _ (List.getElem_mem hb')] at h2; cases h2
theorem rng_cons {a : Int} {c : Nat} {y : PV} {r : List PV} (h : y :: r = rngI a c) : ∃ c', c = c' + 1 ∧ y = .int a ∧ r = rngI (a + 1) c' := by
  cases c with
  | zero => cases h
  | succ c =>
    obtain ⟨h1, h2⟩ := List.cons.inj (show y :: r = .int a :: rngI (a + 1) c from h)
    exact ⟨c, rfl, h1, h2⟩
theorem n_tuple {o : Bool} {xs : List Th} : opN .tuple [.lst o (xs.map Th.p)] = some (.tup (xs.map Th.p)) := by
  have h : (match seqOf (.lst o (xs.map Th.p)) with
      | some ys => if PV.fzL ys then some (PV.tup ys) else none
      | none => none) = some (.tup (xs.map Th.p)) := by
    simp only [seqOf, fzL_p xs]
    rfl
  exact h
end K01
end
section
set_option Elab.async false
set_option linter.all false
set_option maxRecDepth 100001
set_option maxHeartbeats 2000001
set_option autoImplicit false
namespace K01
open PySem Y
theorem cut_ok {m : Nat} {s : Str} (h : SOk m s) (lo hi : Option Int) : SOk m (L2.cutS s lo hi) := by
  have e : (L2.cutS s lo hi).cps.toList = (s.cps.toList.drop (HT.sIx s.length 0 lo)).take (HT.sIx s.length s.length hi - HT.sIx s.length 0 lo) := by
    show (List.toArray _).toList = _
    rfl
  refine ⟨?_, fun c hc => ?_⟩
  · rw [str_len, e, List.length_take, List.length_drop]
    have := h.1
    rw [str_len] at this
    omega
  · rw [e] at hc
    exact h.2 c (List.mem_of_mem_drop (List.mem_of_mem_take hc))
theorem app_ok {m k : Nat} {s t : Str} (h : SOk m s) (h2 : SOk k t) : SOk (m + k) (s ++ t) := by
  have e : (s ++ t).cps.toList = s.cps.toList ++ t.cps.toList := by
    show (s.cps ++ t.cps).toList = _
    rw [Array.toList_append]
  refine ⟨?_, fun c hc => ?_⟩
  · rw [str_len, e, List.length_append, ← str_len, ← str_len]
    exact Nat.add_le_add h.1 h2.1
  · rw [e] at hc
    rcases List.mem_append.mp hc with z | z
    · exact h.2 c z
    · exact h2.2 c z
theorem SOk.mono {m k : Nat} {s : Str} (h : SOk m s) (hk : m ≤ k) : SOk k s := ⟨Nat.le_trans h.1 hk, h.2⟩
theorem plain_ok {m : Nat} {s : Str} (h : Plain m s) : SOk m s := ⟨by have := h.1; omega, fun c hc => .inr (h.2 c hc)⟩
theorem sok_okS {m : Nat} {s : Str} (h : SOk m s) (hm : m ≤ 10000 := by decide) : okS s.length = true := okS_of (Nat.le_trans h.1 hm)
theorem okS_two {m k : Nat} {s t : Str} (h : SOk m s) (h2 : SOk k t) (hm : m + k ≤ 10000 := by decide) : okS (s.length + t.length) = true := okS_of (Nat.le_trans (Nat.add_le_add h.1 h2.1) hm)
@[irreducible] def MT : Str := Txt.mul ("abc x~" : Str) 14
theorem MT_ok : SOk 84 MT := by
  unfold SOk COk MT
  decide +kernel
theorem T_thing : lw.T ("_law_thing" : Str) = some fd_law_thing := tblOf_mem (e := en_law_thing) nd (by simp [lw])
theorem n_mt : opN (.bin .Mult) [.str "abc x~", .int 14] = some (.str MT) := by
  unfold MT
  exact n_mul_str (by decide) (by decide) (by decide +kernel)
theorem ch_ok : SOk 1 ("\n" : Str) ∧ SOk 1 ("z" : Str) := by
  unfold SOk COk
  decide +kernel
abbrev thQ (Q : PV → Fr → Prop) : Fl → Fr → Prop := fun f ρ => match f with
    | .rt p => Q p (maskF fd_law_thing.lend (ρ.take fd_law_thing.ps))
    | .nx => Q .non (maskF fd_law_thing.lend (ρ.take fd_law_thing.ps))
    | _ => False
abbrev thE (E : PX → Fr → Prop) : PX → Fr → Prop := fun x ρ => E x (maskF fd_law_thing.lend (ρ.take fd_law_thing.ps))
theorem tail5 {n : Nat} {cs : List Int} {i r k kind z : Int} {x : Str} (hc : cs ≠ []) (hx : SOk 87 x) {Q : PV → Fr → Prop} {E : PX → Fr → Prop} (h : ∀ (x : Th) i' r' k', x.ok → Q x.p [some (potP cs i' r' k')]) : wB ⟨callN lw.T 100 (n + 2), lendOf lw.T, 100, none⟩ (b_law_thing.drop 5) [some (potP cs i r k), some (.int kind), some (.int z), some (.str x), none] (thQ Q) (thE E) := by
  (conv => whnf); repeat (first | (refine ⟨_, rfl, (by first | assumption | rfl | exact fzL_ints _ | exact fzL_strs _ | exact fz_ints _ | exact fz_strs _), ?_⟩; conv => whnf) | (refine ⟨_, rfl, ?_⟩; conv => whnf) | (refine And.intro rfl ?_; conv => whnf) | (refine And.intro (by first | assumption | decide | omega) ?_; conv => whnf) | (refine And.intro (by first | assumption | rfl | exact fzL_ints _ | exact fzL_strs _ | exact fz_ints _ | exact fz_strs _) ?_; conv => whnf) | (refine And.intro (And.intro (by first | assumption | decide | omega) (by first | assumption | decide | omega)) ?_; conv => whnf) | (refine And.intro (And.intro (And.intro (by first | assumption | decide | omega) (by first | assumption | decide | omega)) (And.intro (by first | assumption | decide | omega) (by first | assumption | decide | omega))) ?_; conv => whnf) | (refine And.intro (And.intro (by first | assumption | rfl | exact fzL_ints _ | exact fzL_strs _ | exact fz_ints _ | exact fz_strs _) (And.intro (by first | assumption | rfl | exact fzL_ints _ | exact fzL_strs _ | exact fz_ints _ | exact fz_strs _) (by first | assumption | rfl | exact fzL_ints _ | exact fzL_strs _ | exact fz_ints _ | exact fz_strs _))) ?_; conv => whnf) | (refine And.intro (by first | exact Or.inl (by decide) | exact Or.inr (by decide)) ?_; conv => whnf) | (refine Or.inl (And.intro (by first | assumption | rfl | exact fzL_ints _ | exact fzL_strs _ | exact fz_ints _ | exact fz_strs _) ?_); conv => whnf) | (refine ⟨fun _ => ?_, fun z => Bool.noConfusion z⟩; conv => whnf) | (refine ⟨fun z => Bool.noConfusion z, fun _ => ?_⟩; conv => whnf) | (intro p0 z; rw [frz_lstp (by first | assumption | rfl | exact fzL_ints _ | exact fzL_strs _ | exact fz_ints _ | exact fz_strs _)] at z; subst z; conv => whnf) | (intro p0 z; rw [PV.fz_frz _ (by first | assumption | rfl | exact fzL_ints _ | exact fzL_strs _ | exact fz_ints _ | exact fz_strs _)] at z; subst z; conv => whnf))
  refine ⟨fun hk2 => ?_, fun hk2 => ?_⟩
  · (conv => whnf); repeat (first | (refine ⟨_, rfl, (by first | assumption | rfl | exact fzL_ints _ | exact fzL_strs _ | exact fz_ints _ | exact fz_strs _), ?_⟩; conv => whnf) | (refine ⟨_, rfl, ?_⟩; conv => whnf) | (refine And.intro rfl ?_; conv => whnf) | (refine And.intro (by first | assumption | decide | omega) ?_; conv => whnf) | (refine And.intro (by first | assumption | rfl | exact fzL_ints _ | exact fzL_strs _ | exact fz_ints _ | exact fz_strs _) ?_; conv => whnf) | (refine And.intro (And.intro (by first | assumption | decide | omega) (by first | assumption | decide | omega)) ?_; conv => whnf) | (refine And.intro (And.intro (And.intro (by first | assumption | decide | omega) (by first | assumption | decide | omega)) (And.intro (by first | assumption | decide | omega) (by first | assumption | decide | omega))) ?_; conv => whnf) | (refine And.intro (And.intro (by first | assumption | rfl | exact fzL_ints _ | exact fzL_strs _ | exact fz_ints _ | exact fz_strs _) (And.intro (by first | assumption | rfl | exact fzL_ints _ | exact fzL_strs _ | exact fz_ints _ | exact fz_strs _) (by first | assumption | rfl | exact fzL_ints _ | exact fzL_strs _ | exact fz_ints _ | exact fz_strs _))) ?_; conv => whnf) | (refine And.intro (by first | exact Or.inl (by decide) | exact Or.inr (by decide)) ?_; conv => whnf) | (refine Or.inl (And.intro (by first | assumption | rfl | exact fzL_ints _ | exact fzL_strs _ | exact fz_ints _ | exact fz_strs _) ?_); conv => whnf) | (refine ⟨fun _ => ?_, fun z => Bool.noConfusion z⟩; conv => whnf) | (refine ⟨fun z => Bool.noConfusion z, fun _ => ?_⟩; conv => whnf) | (intro p0 z; rw [frz_lstp (by first | assumption | rfl | exact fzL_ints _ | exact fzL_strs _ | exact fz_ints _ | exact fz_strs _)] at z; subst z; conv => whnf) | (intro p0 z; rw [PV.fz_frz _ (by first | assumption | rfl | exact fzL_ints _ | exact fzL_strs _ | exact fz_ints _ | exact fz_strs _)] at z; subst z; conv => whnf))
    refine ⟨fun hk3 => ?_, fun hk3 => ?_⟩
    · have hp : 0 < (x.length : Int) := by
        rcases Nat.eq_zero_or_pos x.length with z0 | z0
        · exfalso
          have : x = ("" : Str) := by
            obtain ⟨c⟩ := x
            have : c = #[] := Array.eq_empty_of_size_eq_zero z0
            rw [this]
            decide +kernel
          simp [this] at hk3
        · omega
      have hxl := hx.1
      conv => whnf
      refine And.intro (sok_okS hx) ?_
      (conv => whnf); repeat (first | (refine ⟨_, rfl, (by first | assumption | rfl | exact fzL_ints _ | exact fzL_strs _ | exact fz_ints _ | exact fz_strs _), ?_⟩; conv => whnf) | (refine ⟨_, rfl, ?_⟩; conv => whnf) | (refine And.intro rfl ?_; conv => whnf) | (refine And.intro (by first | assumption | decide | omega) ?_; conv => whnf) | (refine And.intro (by first | assumption | rfl | exact fzL_ints _ | exact fzL_strs _ | exact fz_ints _ | exact fz_strs _) ?_; conv => whnf) | (refine And.intro (And.intro (by first | assumption | decide | omega) (by first | assumption | decide | omega)) ?_; conv => whnf) | (refine And.intro (And.intro (And.intro (by first | assumption | decide | omega) (by first | assumption | decide | omega)) (And.intro (by first | assumption | decide | omega) (by first | assumption | decide | omega))) ?_; conv => whnf) | (refine And.intro (And.intro (by first | assumption | rfl | exact fzL_ints _ | exact fzL_strs _ | exact fz_ints _ | exact fz_strs _) (And.intro (by first | assumption | rfl | exact fzL_ints _ | exact fzL_strs _ | exact fz_ints _ | exact fz_strs _) (by first | assumption | rfl | exact fzL_ints _ | exact fzL_strs _ | exact fz_ints _ | exact fz_strs _))) ?_; conv => whnf) | (refine And.intro (by first | exact Or.inl (by decide) | exact Or.inr (by decide)) ?_; conv => whnf) | (refine Or.inl (And.intro (by first | assumption | rfl | exact fzL_ints _ | exact fzL_strs _ | exact fz_ints _ | exact fz_strs _) ?_); conv => whnf) | (refine ⟨fun _ => ?_, fun z => Bool.noConfusion z⟩; conv => whnf) | (refine ⟨fun z => Bool.noConfusion z, fun _ => ?_⟩; conv => whnf) | (intro p0 z; rw [frz_lstp (by first | assumption | rfl | exact fzL_ints _ | exact fzL_strs _ | exact fz_ints _ | exact fz_strs _)] at z; subst z; conv => whnf) | (intro p0 z; rw [PV.fz_frz _ (by first | assumption | rfl | exact fzL_ints _ | exact fzL_strs _ | exact fz_ints _ | exact fz_strs _)] at z; subst z; conv => whnf))
      refine draw_ok T_draw hc hp (lg hp (by omega)) fun a i5 r5 k5 c0 c1 => ?_
      try dsimp only [give, List.map_cons, List.map_nil, List.set_cons_zero, List.set_cons_succ]
      obtain ⟨u, hu⟩ : ∃ u, u = L2.cutS x none (some a) := ⟨_, rfl⟩
      obtain ⟨v, hv⟩ : ∃ v, v = L2.cutS x (some (a + 1)) none := ⟨_, rfl⟩
      have q1 : SOk 87 u := by rw [hu]; exact cut_ok hx _ _
      have q2 : SOk 87 v := by rw [hv]; exact cut_ok hx _ _
      conv => whnf
      refine And.intro (sok_okS hx) ?_
      rw [← hu]
      clear hu
      (conv => whnf); repeat (first | (refine ⟨_, rfl, (by first | assumption | rfl | exact fzL_ints _ | exact fzL_strs _ | exact fz_ints _ | exact fz_strs _), ?_⟩; conv => whnf) | (refine ⟨_, rfl, ?_⟩; conv => whnf) | (refine And.intro rfl ?_; conv => whnf) | (refine And.intro (by first | assumption | decide | omega) ?_; conv => whnf) | (refine And.intro (by first | assumption | rfl | exact fzL_ints _ | exact fzL_strs _ | exact fz_ints _ | exact fz_strs _) ?_; conv => whnf) | (refine And.intro (And.intro (by first | assumption | decide | omega) (by first | assumption | decide | omega)) ?_; conv => whnf) | (refine And.intro (And.intro (And.intro (by first | assumption | decide | omega) (by first | assumption | decide | omega)) (And.intro (by first | assumption | decide | omega) (by first | assumption | decide | omega))) ?_; conv => whnf) | (refine And.intro (And.intro (by first | assumption | rfl | exact fzL_ints _ | exact fzL_strs _ | exact fz_ints _ | exact fz_strs _) (And.intro (by first | assumption | rfl | exact fzL_ints _ | exact fzL_strs _ | exact fz_ints _ | exact fz_strs _) (by first | assumption | rfl | exact fzL_ints _ | exact fzL_strs _ | exact fz_ints _ | exact fz_strs _))) ?_; conv => whnf) | (refine And.intro (by first | exact Or.inl (by decide) | exact Or.inr (by decide)) ?_; conv => whnf) | (refine Or.inl (And.intro (by first | assumption | rfl | exact fzL_ints _ | exact fzL_strs _ | exact fz_ints _ | exact fz_strs _) ?_); conv => whnf) | (refine ⟨fun _ => ?_, fun z => Bool.noConfusion z⟩; conv => whnf) | (refine ⟨fun z => Bool.noConfusion z, fun _ => ?_⟩; conv => whnf) | (intro p0 z; rw [frz_lstp (by first | assumption | rfl | exact fzL_ints _ | exact fzL_strs _ | exact fz_ints _ | exact fz_strs _)] at z; subst z; conv => whnf) | (intro p0 z; rw [PV.fz_frz _ (by first | assumption | rfl | exact fzL_ints _ | exact fzL_strs _ | exact fz_ints _ | exact fz_strs _)] at z; subst z; conv => whnf))
      refine draw_ok T_draw hc (by decide) (lg (by decide) (by decide)) fun j2 i6 r6 k6 e0 e1 => ?_
      try dsimp only [give, List.map_cons, List.map_nil, List.set_cons_zero, List.set_cons_succ]
      have hj2 : j2 = 0 ∨ j2 = 1 := by omega
      rcases hj2 with rfl | rfl
      · have q3 := okS_two q1 ch_ok.1
        have q4 := app_ok q1 ch_ok.1
        have q5 := okS_two q4 q2
        have q6 := app_ok q4 q2
        conv => whnf
        refine ⟨_, rfl, rfl, ?_⟩
        conv => whnf
        refine And.intro q3 ?_
        conv => whnf
        refine And.intro (sok_okS hx) ?_
        rw [← hv]
        clear hv
        conv => whnf
        refine And.intro q5 ?_
        (conv => whnf); repeat (first | (refine ⟨_, rfl, (by first | assumption | rfl | exact fzL_ints _ | exact fzL_strs _ | exact fz_ints _ | exact fz_strs _), ?_⟩; conv => whnf) | (refine ⟨_, rfl, ?_⟩; conv => whnf) | (refine And.intro rfl ?_; conv => whnf) | (refine And.intro (by first | assumption | decide | omega) ?_; conv => whnf) | (refine And.intro (by first | assumption | rfl | exact fzL_ints _ | exact fzL_strs _ | exact fz_ints _ | exact fz_strs _) ?_; conv => whnf) | (refine And.intro (And.intro (by first | assumption | decide | omega) (by first | assumption | decide | omega)) ?_; conv => whnf) | (refine And.intro (And.intro (And.intro (by first | assumption | decide | omega) (by first | assumption | decide | omega)) (And.intro (by first | assumption | decide | omega) (by first | assumption | decide | omega))) ?_; conv => whnf) | (refine And.intro (And.intro (by first | assumption | rfl | exact fzL_ints _ | exact fzL_strs _ | exact fz_ints _ | exact fz_strs _) (And.intro (by first | assumption | rfl | exact fzL_ints _ | exact fzL_strs _ | exact fz_ints _ | exact fz_strs _) (by first | assumption | rfl | exact fzL_ints _ | exact fzL_strs _ | exact fz_ints _ | exact fz_strs _))) ?_; conv => whnf) | (refine And.intro (by first | exact Or.inl (by decide) | exact Or.inr (by decide)) ?_; conv => whnf) | (refine Or.inl (And.intro (by first | assumption | rfl | exact fzL_ints _ | exact fzL_strs _ | exact fz_ints _ | exact fz_strs _) ?_); conv => whnf) | (refine ⟨fun _ => ?_, fun z => Bool.noConfusion z⟩; conv => whnf) | (refine ⟨fun z => Bool.noConfusion z, fun _ => ?_⟩; conv => whnf) | (intro p0 z; rw [frz_lstp (by first | assumption | rfl | exact fzL_ints _ | exact fzL_strs _ | exact fz_ints _ | exact fz_strs _)] at z; subst z; conv => whnf) | (intro p0 z; rw [PV.fz_frz _ (by first | assumption | rfl | exact fzL_ints _ | exact fzL_strs _ | exact fz_ints _ | exact fz_strs _)] at z; subst z; conv => whnf))
        exact h (.sS _) _ _ _ (q6.mono (by decide))
      · have q3 := okS_two q1 ch_ok.2
        have q4 := app_ok q1 ch_ok.2
        have q5 := okS_two q4 q2
        have q6 := app_ok q4 q2
        conv => whnf
        refine ⟨_, rfl, rfl, ?_⟩
        conv => whnf
        refine And.intro q3 ?_
        conv => whnf
        refine And.intro (sok_okS hx) ?_
        rw [← hv]
        clear hv
        conv => whnf
        refine And.intro q5 ?_
        (conv => whnf); repeat (first | (refine ⟨_, rfl, (by first | assumption | rfl | exact fzL_ints _ | exact fzL_strs _ | exact fz_ints _ | exact fz_strs _), ?_⟩; conv => whnf) | (refine ⟨_, rfl, ?_⟩; conv => whnf) | (refine And.intro rfl ?_; conv => whnf) | (refine And.intro (by first | assumption | decide | omega) ?_; conv => whnf) | (refine And.intro (by first | assumption | rfl | exact fzL_ints _ | exact fzL_strs _ | exact fz_ints _ | exact fz_strs _) ?_; conv => whnf) | (refine And.intro (And.intro (by first | assumption | decide | omega) (by first | assumption | decide | omega)) ?_; conv => whnf) | (refine And.intro (And.intro (And.intro (by first | assumption | decide | omega) (by first | assumption | decide | omega)) (And.intro (by first | assumption | decide | omega) (by first | assumption | decide | omega))) ?_; conv => whnf) | (refine And.intro (And.intro (by first | assumption | rfl | exact fzL_ints _ | exact fzL_strs _ | exact fz_ints _ | exact fz_strs _) (And.intro (by first | assumption | rfl | exact fzL_ints _ | exact fzL_strs _ | exact fz_ints _ | exact fz_strs _) (by first | assumption | rfl | exact fzL_ints _ | exact fzL_strs _ | exact fz_ints _ | exact fz_strs _))) ?_; conv => whnf) | (refine And.intro (by first | exact Or.inl (by decide) | exact Or.inr (by decide)) ?_; conv => whnf) | (refine Or.inl (And.intro (by first | assumption | rfl | exact fzL_ints _ | exact fzL_strs _ | exact fz_ints _ | exact fz_strs _) ?_); conv => whnf) | (refine ⟨fun _ => ?_, fun z => Bool.noConfusion z⟩; conv => whnf) | (refine ⟨fun z => Bool.noConfusion z, fun _ => ?_⟩; conv => whnf) | (intro p0 z; rw [frz_lstp (by first | assumption | rfl | exact fzL_ints _ | exact fzL_strs _ | exact fz_ints _ | exact fz_strs _)] at z; subst z; conv => whnf) | (intro p0 z; rw [PV.fz_frz _ (by first | assumption | rfl | exact fzL_ints _ | exact fzL_strs _ | exact fz_ints _ | exact fz_strs _)] at z; subst z; conv => whnf))
        exact h (.sS _) _ _ _ (q6.mono (by decide))
    · (conv => whnf); repeat (first | (refine ⟨_, rfl, (by first | assumption | rfl | exact fzL_ints _ | exact fzL_strs _ | exact fz_ints _ | exact fz_strs _), ?_⟩; conv => whnf) | (refine ⟨_, rfl, ?_⟩; conv => whnf) | (refine And.intro rfl ?_; conv => whnf) | (refine And.intro (by first | assumption | decide | omega) ?_; conv => whnf) | (refine And.intro (by first | assumption | rfl | exact fzL_ints _ | exact fzL_strs _ | exact fz_ints _ | exact fz_strs _) ?_; conv => whnf) | (refine And.intro (And.intro (by first | assumption | decide | omega) (by first | assumption | decide | omega)) ?_; conv => whnf) | (refine And.intro (And.intro (And.intro (by first | assumption | decide | omega) (by first | assumption | decide | omega)) (And.intro (by first | assumption | decide | omega) (by first | assumption | decide | omega))) ?_; conv => whnf) | (refine And.intro (And.intro (by first | assumption | rfl | exact fzL_ints _ | exact fzL_strs _ | exact fz_ints _ | exact fz_strs _) (And.intro (by first | assumption | rfl | exact fzL_ints _ | exact fzL_strs _ | exact fz_ints _ | exact fz_strs _) (by first | assumption | rfl | exact fzL_ints _ | exact fzL_strs _ | exact fz_ints _ | exact fz_strs _))) ?_; conv => whnf) | (refine And.intro (by first | exact Or.inl (by decide) | exact Or.inr (by decide)) ?_; conv => whnf) | (refine Or.inl (And.intro (by first | assumption | rfl | exact fzL_ints _ | exact fzL_strs _ | exact fz_ints _ | exact fz_strs _) ?_); conv => whnf) | (refine ⟨fun _ => ?_, fun z => Bool.noConfusion z⟩; conv => whnf) | (refine ⟨fun z => Bool.noConfusion z, fun _ => ?_⟩; conv => whnf) | (intro p0 z; rw [frz_lstp (by first | assumption | rfl | exact fzL_ints _ | exact fzL_strs _ | exact fz_ints _ | exact fz_strs _)] at z; subst z; conv => whnf) | (intro p0 z; rw [PV.fz_frz _ (by first | assumption | rfl | exact fzL_ints _ | exact fzL_strs _ | exact fz_ints _ | exact fz_strs _)] at z; subst z; conv => whnf))
      exact h (.sS x) _ _ _ (hx.mono (by decide))
  · (conv => whnf); repeat (first | (refine ⟨_, rfl, (by first | assumption | rfl | exact fzL_ints _ | exact fzL_strs _ | exact fz_ints _ | exact fz_strs _), ?_⟩; conv => whnf) | (refine ⟨_, rfl, ?_⟩; conv => whnf) | (refine And.intro rfl ?_; conv => whnf) | (refine And.intro (by first | assumption | decide | omega) ?_; conv => whnf) | (refine And.intro (by first | assumption | rfl | exact fzL_ints _ | exact fzL_strs _ | exact fz_ints _ | exact fz_strs _) ?_; conv => whnf) | (refine And.intro (And.intro (by first | assumption | decide | omega) (by first | assumption | decide | omega)) ?_; conv => whnf) | (refine And.intro (And.intro (And.intro (by first | assumption | decide | omega) (by first | assumption | decide | omega)) (And.intro (by first | assumption | decide | omega) (by first | assumption | decide | omega))) ?_; conv => whnf) | (refine And.intro (And.intro (by first | assumption | rfl | exact fzL_ints _ | exact fzL_strs _ | exact fz_ints _ | exact fz_strs _) (And.intro (by first | assumption | rfl | exact fzL_ints _ | exact fzL_strs _ | exact fz_ints _ | exact fz_strs _) (by first | assumption | rfl | exact fzL_ints _ | exact fzL_strs _ | exact fz_ints _ | exact fz_strs _))) ?_; conv => whnf) | (refine And.intro (by first | exact Or.inl (by decide) | exact Or.inr (by decide)) ?_; conv => whnf) | (refine Or.inl (And.intro (by first | assumption | rfl | exact fzL_ints _ | exact fzL_strs _ | exact fz_ints _ | exact fz_strs _) ?_); conv => whnf) | (refine ⟨fun _ => ?_, fun z => Bool.noConfusion z⟩; conv => whnf) | (refine ⟨fun z => Bool.noConfusion z, fun _ => ?_⟩; conv => whnf) | (intro p0 z; rw [frz_lstp (by first | assumption | rfl | exact fzL_ints _ | exact fzL_strs _ | exact fz_ints _ | exact fz_strs _)] at z; subst z; conv => whnf) | (intro p0 z; rw [PV.fz_frz _ (by first | assumption | rfl | exact fzL_ints _ | exact fzL_strs _ | exact fz_ints _ | exact fz_strs _)] at z; subst z; conv => whnf))
    exact h (.sS x) _ _ _ (hx.mono (by decide))
theorem tail4 {n : Nat} {cs : List Int} {i r k kind z : Int} {y : Str} (hc : cs ≠ []) (hy : SOk 84 y) {Q : PV → Fr → Prop} {E : PX → Fr → Prop} (h : ∀ (x : Th) i' r' k', x.ok → Q x.p [some (potP cs i' r' k')]) : wB ⟨callN lw.T 100 (n + 2), lendOf lw.T, 100, none⟩ (b_law_thing.drop 4) [some (potP cs i r k), some (.int kind), some (.int z), some (.str y), none] (thQ Q) (thE E) := by
  (conv => whnf); repeat (first | (refine ⟨_, rfl, (by first | assumption | rfl | exact fzL_ints _ | exact fzL_strs _ | exact fz_ints _ | exact fz_strs _), ?_⟩; conv => whnf) | (refine ⟨_, rfl, ?_⟩; conv => whnf) | (refine And.intro rfl ?_; conv => whnf) | (refine And.intro (by first | assumption | decide | omega) ?_; conv => whnf) | (refine And.intro (by first | assumption | rfl | exact fzL_ints _ | exact fzL_strs _ | exact fz_ints _ | exact fz_strs _) ?_; conv => whnf) | (refine And.intro (And.intro (by first | assumption | decide | omega) (by first | assumption | decide | omega)) ?_; conv => whnf) | (refine And.intro (And.intro (And.intro (by first | assumption | decide | omega) (by first | assumption | decide | omega)) (And.intro (by first | assumption | decide | omega) (by first | assumption | decide | omega))) ?_; conv => whnf) | (refine And.intro (And.intro (by first | assumption | rfl | exact fzL_ints _ | exact fzL_strs _ | exact fz_ints _ | exact fz_strs _) (And.intro (by first | assumption | rfl | exact fzL_ints _ | exact fzL_strs _ | exact fz_ints _ | exact fz_strs _) (by first | assumption | rfl | exact fzL_ints _ | exact fzL_strs _ | exact fz_ints _ | exact fz_strs _))) ?_; conv => whnf) | (refine And.intro (by first | exact Or.inl (by decide) | exact Or.inr (by decide)) ?_; conv => whnf) | (refine Or.inl (And.intro (by first | assumption | rfl | exact fzL_ints _ | exact fzL_strs _ | exact fz_ints _ | exact fz_strs _) ?_); conv => whnf) | (refine ⟨fun _ => ?_, fun z => Bool.noConfusion z⟩; conv => whnf) | (refine ⟨fun z => Bool.noConfusion z, fun _ => ?_⟩; conv => whnf) | (intro p0 z; rw [frz_lstp (by first | assumption | rfl | exact fzL_ints _ | exact fzL_strs _ | exact fz_ints _ | exact fz_strs _)] at z; subst z; conv => whnf) | (intro p0 z; rw [PV.fz_frz _ (by first | assumption | rfl | exact fzL_ints _ | exact fzL_strs _ | exact fz_ints _ | exact fz_strs _)] at z; subst z; conv => whnf))
  refine text_ok T_draw T_text hc (by decide) (by decide) fun t i4 r4 k4 ht => ?_
  have ht' : SOk 3 t := plain_ok ht
  obtain ⟨w, hw⟩ : ∃ w, w = L2.cutS y (some (if z < 3 then z else 3)) none := ⟨_, rfl⟩
  have hs2 : SOk 84 w := by rw [hw]; exact cut_ok hy _ _
  have hs3 := okS_two ht' hs2
  have hx := app_ok ht' hs2
  conv => whnf
  refine And.intro (sok_okS hy) ?_
  rw [← hw]
  clear hw hy
  conv => whnf
  refine And.intro hs3 ?_
  exact tail5 hc hx h
theorem thing_ok {n : Nat} {cs : List Int} {i r k : Int} (hc : cs ≠ []) {Q : PV → Fr → Prop} {E : PX → Fr → Prop} (h : ∀ (x : Th) i' r' k', x.ok → Q x.p [some (potP cs i' r' k')]) : zC (callN lw.T 100 (n + 3)) ("_law_thing" : Str) [potP cs i r k] Q E := by
  refine run_ok T_thing rfl ?_
  (conv => whnf); repeat (first | (refine ⟨_, rfl, (by first | assumption | rfl | exact fzL_ints _ | exact fzL_strs _ | exact fz_ints _ | exact fz_strs _), ?_⟩; conv => whnf) | (refine ⟨_, rfl, ?_⟩; conv => whnf) | (refine And.intro rfl ?_; conv => whnf) | (refine And.intro (by first | assumption | decide | omega) ?_; conv => whnf) | (refine And.intro (by first | assumption | rfl | exact fzL_ints _ | exact fzL_strs _ | exact fz_ints _ | exact fz_strs _) ?_; conv => whnf) | (refine And.intro (And.intro (by first | assumption | decide | omega) (by first | assumption | decide | omega)) ?_; conv => whnf) | (refine And.intro (And.intro (And.intro (by first | assumption | decide | omega) (by first | assumption | decide | omega)) (And.intro (by first | assumption | decide | omega) (by first | assumption | decide | omega))) ?_; conv => whnf) | (refine And.intro (And.intro (by first | assumption | rfl | exact fzL_ints _ | exact fzL_strs _ | exact fz_ints _ | exact fz_strs _) (And.intro (by first | assumption | rfl | exact fzL_ints _ | exact fzL_strs _ | exact fz_ints _ | exact fz_strs _) (by first | assumption | rfl | exact fzL_ints _ | exact fzL_strs _ | exact fz_ints _ | exact fz_strs _))) ?_; conv => whnf) | (refine And.intro (by first | exact Or.inl (by decide) | exact Or.inr (by decide)) ?_; conv => whnf) | (refine Or.inl (And.intro (by first | assumption | rfl | exact fzL_ints _ | exact fzL_strs _ | exact fz_ints _ | exact fz_strs _) ?_); conv => whnf) | (refine ⟨fun _ => ?_, fun z => Bool.noConfusion z⟩; conv => whnf) | (refine ⟨fun z => Bool.noConfusion z, fun _ => ?_⟩; conv => whnf) | (intro p0 z; rw [frz_lstp (by first | assumption | rfl | exact fzL_ints _ | exact fzL_strs _ | exact fz_ints _ | exact fz_strs _)] at z; subst z; conv => whnf) | (intro p0 z; rw [PV.fz_frz _ (by first | assumption | rfl | exact fzL_ints _ | exact fzL_strs _ | exact fz_ints _ | exact fz_strs _)] at z; subst z; conv => whnf))
  refine draw_ok T_draw hc (by decide) (lg (by decide) (by decide)) fun kind i1 r1 k1 h0 h1 => ?_
  try dsimp only [give, List.map_cons, List.map_nil, List.set_cons_zero, List.set_cons_succ]
  (conv => whnf); repeat (first | (refine ⟨_, rfl, (by first | assumption | rfl | exact fzL_ints _ | exact fzL_strs _ | exact fz_ints _ | exact fz_strs _), ?_⟩; conv => whnf) | (refine ⟨_, rfl, ?_⟩; conv => whnf) | (refine And.intro rfl ?_; conv => whnf) | (refine And.intro (by first | assumption | decide | omega) ?_; conv => whnf) | (refine And.intro (by first | assumption | rfl | exact fzL_ints _ | exact fzL_strs _ | exact fz_ints _ | exact fz_strs _) ?_; conv => whnf) | (refine And.intro (And.intro (by first | assumption | decide | omega) (by first | assumption | decide | omega)) ?_; conv => whnf) | (refine And.intro (And.intro (And.intro (by first | assumption | decide | omega) (by first | assumption | decide | omega)) (And.intro (by first | assumption | decide | omega) (by first | assumption | decide | omega))) ?_; conv => whnf) | (refine And.intro (And.intro (by first | assumption | rfl | exact fzL_ints _ | exact fzL_strs _ | exact fz_ints _ | exact fz_strs _) (And.intro (by first | assumption | rfl | exact fzL_ints _ | exact fzL_strs _ | exact fz_ints _ | exact fz_strs _) (by first | assumption | rfl | exact fzL_ints _ | exact fzL_strs _ | exact fz_ints _ | exact fz_strs _))) ?_; conv => whnf) | (refine And.intro (by first | exact Or.inl (by decide) | exact Or.inr (by decide)) ?_; conv => whnf) | (refine Or.inl (And.intro (by first | assumption | rfl | exact fzL_ints _ | exact fzL_strs _ | exact fz_ints _ | exact fz_strs _) ?_); conv => whnf) | (refine ⟨fun _ => ?_, fun z => Bool.noConfusion z⟩; conv => whnf) | (refine ⟨fun z => Bool.noConfusion z, fun _ => ?_⟩; conv => whnf) | (intro p0 z; rw [frz_lstp (by first | assumption | rfl | exact fzL_ints _ | exact fzL_strs _ | exact fz_ints _ | exact fz_strs _)] at z; subst z; conv => whnf) | (intro p0 z; rw [PV.fz_frz _ (by first | assumption | rfl | exact fzL_ints _ | exact fzL_strs _ | exact fz_ints _ | exact fz_strs _)] at z; subst z; conv => whnf))
  refine ⟨fun hk => ?_, fun hk => ?_⟩
  · (conv => whnf); repeat (first | (refine ⟨_, rfl, (by first | assumption | rfl | exact fzL_ints _ | exact fzL_strs _ | exact fz_ints _ | exact fz_strs _), ?_⟩; conv => whnf) | (refine ⟨_, rfl, ?_⟩; conv => whnf) | (refine And.intro rfl ?_; conv => whnf) | (refine And.intro (by first | assumption | decide | omega) ?_; conv => whnf) | (refine And.intro (by first | assumption | rfl | exact fzL_ints _ | exact fzL_strs _ | exact fz_ints _ | exact fz_strs _) ?_; conv => whnf) | (refine And.intro (And.intro (by first | assumption | decide | omega) (by first | assumption | decide | omega)) ?_; conv => whnf) | (refine And.intro (And.intro (And.intro (by first | assumption | decide | omega) (by first | assumption | decide | omega)) (And.intro (by first | assumption | decide | omega) (by first | assumption | decide | omega))) ?_; conv => whnf) | (refine And.intro (And.intro (by first | assumption | rfl | exact fzL_ints _ | exact fzL_strs _ | exact fz_ints _ | exact fz_strs _) (And.intro (by first | assumption | rfl | exact fzL_ints _ | exact fzL_strs _ | exact fz_ints _ | exact fz_strs _) (by first | assumption | rfl | exact fzL_ints _ | exact fzL_strs _ | exact fz_ints _ | exact fz_strs _))) ?_; conv => whnf) | (refine And.intro (by first | exact Or.inl (by decide) | exact Or.inr (by decide)) ?_; conv => whnf) | (refine Or.inl (And.intro (by first | assumption | rfl | exact fzL_ints _ | exact fzL_strs _ | exact fz_ints _ | exact fz_strs _) ?_); conv => whnf) | (refine ⟨fun _ => ?_, fun z => Bool.noConfusion z⟩; conv => whnf) | (refine ⟨fun z => Bool.noConfusion z, fun _ => ?_⟩; conv => whnf) | (intro p0 z; rw [frz_lstp (by first | assumption | rfl | exact fzL_ints _ | exact fzL_strs _ | exact fz_ints _ | exact fz_strs _)] at z; subst z; conv => whnf) | (intro p0 z; rw [PV.fz_frz _ (by first | assumption | rfl | exact fzL_ints _ | exact fzL_strs _ | exact fz_ints _ | exact fz_strs _)] at z; subst z; conv => whnf))
    refine draw_ok T_draw hc (by decide) (lg (by decide) (by decide)) fun d i2 r2 k2 a0 a1 => ?_
    try dsimp only [give, List.map_cons, List.map_nil, List.set_cons_zero, List.set_cons_succ]
    (conv => whnf); repeat (first | (refine ⟨_, rfl, (by first | assumption | rfl | exact fzL_ints _ | exact fzL_strs _ | exact fz_ints _ | exact fz_strs _), ?_⟩; conv => whnf) | (refine ⟨_, rfl, ?_⟩; conv => whnf) | (refine And.intro rfl ?_; conv => whnf) | (refine And.intro (by first | assumption | decide | omega) ?_; conv => whnf) | (refine And.intro (by first | assumption | rfl | exact fzL_ints _ | exact fzL_strs _ | exact fz_ints _ | exact fz_strs _) ?_; conv => whnf) | (refine And.intro (And.intro (by first | assumption | decide | omega) (by first | assumption | decide | omega)) ?_; conv => whnf) | (refine And.intro (And.intro (And.intro (by first | assumption | decide | omega) (by first | assumption | decide | omega)) (And.intro (by first | assumption | decide | omega) (by first | assumption | decide | omega))) ?_; conv => whnf) | (refine And.intro (And.intro (by first | assumption | rfl | exact fzL_ints _ | exact fzL_strs _ | exact fz_ints _ | exact fz_strs _) (And.intro (by first | assumption | rfl | exact fzL_ints _ | exact fzL_strs _ | exact fz_ints _ | exact fz_strs _) (by first | assumption | rfl | exact fzL_ints _ | exact fzL_strs _ | exact fz_ints _ | exact fz_strs _))) ?_; conv => whnf) | (refine And.intro (by first | exact Or.inl (by decide) | exact Or.inr (by decide)) ?_; conv => whnf) | (refine Or.inl (And.intro (by first | assumption | rfl | exact fzL_ints _ | exact fzL_strs _ | exact fz_ints _ | exact fz_strs _) ?_); conv => whnf) | (refine ⟨fun _ => ?_, fun z => Bool.noConfusion z⟩; conv => whnf) | (refine ⟨fun z => Bool.noConfusion z, fun _ => ?_⟩; conv => whnf) | (intro p0 z; rw [frz_lstp (by first | assumption | rfl | exact fzL_ints _ | exact fzL_strs _ | exact fz_ints _ | exact fz_strs _)] at z; subst z; conv => whnf) | (intro p0 z; rw [PV.fz_frz _ (by first | assumption | rfl | exact fzL_ints _ | exact fzL_strs _ | exact fz_ints _ | exact fz_strs _)] at z; subst z; conv => whnf))
    refine draw_ok T_draw hc (by decide) (lg (by decide) (by decide)) fun j i3 r3 k3 b0 b1 => ?_
    try dsimp only [give, List.map_cons, List.map_nil, List.set_cons_zero, List.set_cons_succ]
    (conv => whnf); repeat (first | (refine ⟨_, rfl, (by first | assumption | rfl | exact fzL_ints _ | exact fzL_strs _ | exact fz_ints _ | exact fz_strs _), ?_⟩; conv => whnf) | (refine ⟨_, rfl, ?_⟩; conv => whnf) | (refine And.intro rfl ?_; conv => whnf) | (refine And.intro (by first | assumption | decide | omega) ?_; conv => whnf) | (refine And.intro (by first | assumption | rfl | exact fzL_ints _ | exact fzL_strs _ | exact fz_ints _ | exact fz_strs _) ?_; conv => whnf) | (refine And.intro (And.intro (by first | assumption | decide | omega) (by first | assumption | decide | omega)) ?_; conv => whnf) | (refine And.intro (And.intro (And.intro (by first | assumption | decide | omega) (by first | assumption | decide | omega)) (And.intro (by first | assumption | decide | omega) (by first | assumption | decide | omega))) ?_; conv => whnf) | (refine And.intro (And.intro (by first | assumption | rfl | exact fzL_ints _ | exact fzL_strs _ | exact fz_ints _ | exact fz_strs _) (And.intro (by first | assumption | rfl | exact fzL_ints _ | exact fzL_strs _ | exact fz_ints _ | exact fz_strs _) (by first | assumption | rfl | exact fzL_ints _ | exact fzL_strs _ | exact fz_ints _ | exact fz_strs _))) ?_; conv => whnf) | (refine And.intro (by first | exact Or.inl (by decide) | exact Or.inr (by decide)) ?_; conv => whnf) | (refine Or.inl (And.intro (by first | assumption | rfl | exact fzL_ints _ | exact fzL_strs _ | exact fz_ints _ | exact fz_strs _) ?_); conv => whnf) | (refine ⟨fun _ => ?_, fun z => Bool.noConfusion z⟩; conv => whnf) | (refine ⟨fun z => Bool.noConfusion z, fun _ => ?_⟩; conv => whnf) | (intro p0 z; rw [frz_lstp (by first | assumption | rfl | exact fzL_ints _ | exact fzL_strs _ | exact fz_ints _ | exact fz_strs _)] at z; subst z; conv => whnf) | (intro p0 z; rw [PV.fz_frz _ (by first | assumption | rfl | exact fzL_ints _ | exact fzL_strs _ | exact fz_ints _ | exact fz_strs _)] at z; subst z; conv => whnf))
    have hj : j = 0 ∨ j = 1 ∨ j = 2 ∨ j = 3 ∨ j = 4 ∨ j = 5 ∨ j = 6 := by omega
    rcases hj with rfl | rfl | rfl | rfl | rfl | rfl | rfl
    · refine ⟨_, rfl, rfl, ?_⟩
      have hh := h (Th.iI d) i3 r3 k3 trivial
      exact hh
    · refine ⟨_, rfl, rfl, ?_⟩
      exact h .nN _ _ _ trivial
    · refine ⟨_, rfl, rfl, ?_⟩
      exact h .eE _ _ _ trivial
    · refine ⟨_, rfl, rfl, ?_⟩
      exact h .tT _ _ _ trivial
    · refine ⟨_, rfl, rfl, ?_⟩
      exact h .uU _ _ _ trivial
    · refine ⟨_, rfl, rfl, ?_⟩
      exact h .lL _ _ _ trivial
    · refine ⟨_, rfl, rfl, ?_⟩
      exact h (.iI (-5)) _ _ _ trivial
  · (conv => whnf); repeat (first | (refine ⟨_, rfl, (by first | assumption | rfl | exact fzL_ints _ | exact fzL_strs _ | exact fz_ints _ | exact fz_strs _), ?_⟩; conv => whnf) | (refine ⟨_, rfl, ?_⟩; conv => whnf) | (refine And.intro rfl ?_; conv => whnf) | (refine And.intro (by first | assumption | decide | omega) ?_; conv => whnf) | (refine And.intro (by first | assumption | rfl | exact fzL_ints _ | exact fzL_strs _ | exact fz_ints _ | exact fz_strs _) ?_; conv => whnf) | (refine And.intro (And.intro (by first | assumption | decide | omega) (by first | assumption | decide | omega)) ?_; conv => whnf) | (refine And.intro (And.intro (And.intro (by first | assumption | decide | omega) (by first | assumption | decide | omega)) (And.intro (by first | assumption | decide | omega) (by first | assumption | decide | omega))) ?_; conv => whnf) | (refine And.intro (And.intro (by first | assumption | rfl | exact fzL_ints _ | exact fzL_strs _ | exact fz_ints _ | exact fz_strs _) (And.intro (by first | assumption | rfl | exact fzL_ints _ | exact fzL_strs _ | exact fz_ints _ | exact fz_strs _) (by first | assumption | rfl | exact fzL_ints _ | exact fzL_strs _ | exact fz_ints _ | exact fz_strs _))) ?_; conv => whnf) | (refine And.intro (by first | exact Or.inl (by decide) | exact Or.inr (by decide)) ?_; conv => whnf) | (refine Or.inl (And.intro (by first | assumption | rfl | exact fzL_ints _ | exact fzL_strs _ | exact fz_ints _ | exact fz_strs _) ?_); conv => whnf) | (refine ⟨fun _ => ?_, fun z => Bool.noConfusion z⟩; conv => whnf) | (refine ⟨fun z => Bool.noConfusion z, fun _ => ?_⟩; conv => whnf) | (intro p0 z; rw [frz_lstp (by first | assumption | rfl | exact fzL_ints _ | exact fzL_strs _ | exact fz_ints _ | exact fz_strs _)] at z; subst z; conv => whnf) | (intro p0 z; rw [PV.fz_frz _ (by first | assumption | rfl | exact fzL_ints _ | exact fzL_strs _ | exact fz_ints _ | exact fz_strs _)] at z; subst z; conv => whnf))
    refine draw_ok T_draw hc (by decide) (lg (by decide) (by decide)) fun d1 i2 r2 k2 a0 a1 => ?_
    try dsimp only [give, List.map_cons, List.map_nil, List.set_cons_zero, List.set_cons_succ]
    (conv => whnf); repeat (first | (refine ⟨_, rfl, (by first | assumption | rfl | exact fzL_ints _ | exact fzL_strs _ | exact fz_ints _ | exact fz_strs _), ?_⟩; conv => whnf) | (refine ⟨_, rfl, ?_⟩; conv => whnf) | (refine And.intro rfl ?_; conv => whnf) | (refine And.intro (by first | assumption | decide | omega) ?_; conv => whnf) | (refine And.intro (by first | assumption | rfl | exact fzL_ints _ | exact fzL_strs _ | exact fz_ints _ | exact fz_strs _) ?_; conv => whnf) | (refine And.intro (And.intro (by first | assumption | decide | omega) (by first | assumption | decide | omega)) ?_; conv => whnf) | (refine And.intro (And.intro (And.intro (by first | assumption | decide | omega) (by first | assumption | decide | omega)) (And.intro (by first | assumption | decide | omega) (by first | assumption | decide | omega))) ?_; conv => whnf) | (refine And.intro (And.intro (by first | assumption | rfl | exact fzL_ints _ | exact fzL_strs _ | exact fz_ints _ | exact fz_strs _) (And.intro (by first | assumption | rfl | exact fzL_ints _ | exact fzL_strs _ | exact fz_ints _ | exact fz_strs _) (by first | assumption | rfl | exact fzL_ints _ | exact fzL_strs _ | exact fz_ints _ | exact fz_strs _))) ?_; conv => whnf) | (refine And.intro (by first | exact Or.inl (by decide) | exact Or.inr (by decide)) ?_; conv => whnf) | (refine Or.inl (And.intro (by first | assumption | rfl | exact fzL_ints _ | exact fzL_strs _ | exact fz_ints _ | exact fz_strs _) ?_); conv => whnf) | (refine ⟨fun _ => ?_, fun z => Bool.noConfusion z⟩; conv => whnf) | (refine ⟨fun z => Bool.noConfusion z, fun _ => ?_⟩; conv => whnf) | (intro p0 z; rw [frz_lstp (by first | assumption | rfl | exact fzL_ints _ | exact fzL_strs _ | exact fz_ints _ | exact fz_strs _)] at z; subst z; conv => whnf) | (intro p0 z; rw [PV.fz_frz _ (by first | assumption | rfl | exact fzL_ints _ | exact fzL_strs _ | exact fz_ints _ | exact fz_strs _)] at z; subst z; conv => whnf))
    refine draw_ok T_draw hc (by decide) (lg (by decide) (by decide)) fun d2 i2 r2 k2 a2 a3 => ?_
    try dsimp only [give, List.map_cons, List.map_nil, List.set_cons_zero, List.set_cons_succ]
    (conv => whnf); repeat (first | (refine ⟨_, rfl, (by first | assumption | rfl | exact fzL_ints _ | exact fzL_strs _ | exact fz_ints _ | exact fz_strs _), ?_⟩; conv => whnf) | (refine ⟨_, rfl, ?_⟩; conv => whnf) | (refine And.intro rfl ?_; conv => whnf) | (refine And.intro (by first | assumption | decide | omega) ?_; conv => whnf) | (refine And.intro (by first | assumption | rfl | exact fzL_ints _ | exact fzL_strs _ | exact fz_ints _ | exact fz_strs _) ?_; conv => whnf) | (refine And.intro (And.intro (by first | assumption | decide | omega) (by first | assumption | decide | omega)) ?_; conv => whnf) | (refine And.intro (And.intro (And.intro (by first | assumption | decide | omega) (by first | assumption | decide | omega)) (And.intro (by first | assumption | decide | omega) (by first | assumption | decide | omega))) ?_; conv => whnf) | (refine And.intro (And.intro (by first | assumption | rfl | exact fzL_ints _ | exact fzL_strs _ | exact fz_ints _ | exact fz_strs _) (And.intro (by first | assumption | rfl | exact fzL_ints _ | exact fzL_strs _ | exact fz_ints _ | exact fz_strs _) (by first | assumption | rfl | exact fzL_ints _ | exact fzL_strs _ | exact fz_ints _ | exact fz_strs _))) ?_; conv => whnf) | (refine And.intro (by first | exact Or.inl (by decide) | exact Or.inr (by decide)) ?_; conv => whnf) | (refine Or.inl (And.intro (by first | assumption | rfl | exact fzL_ints _ | exact fzL_strs _ | exact fz_ints _ | exact fz_strs _) ?_); conv => whnf) | (refine ⟨fun _ => ?_, fun z => Bool.noConfusion z⟩; conv => whnf) | (refine ⟨fun z => Bool.noConfusion z, fun _ => ?_⟩; conv => whnf) | (intro p0 z; rw [frz_lstp (by first | assumption | rfl | exact fzL_ints _ | exact fzL_strs _ | exact fz_ints _ | exact fz_strs _)] at z; subst z; conv => whnf) | (intro p0 z; rw [PV.fz_frz _ (by first | assumption | rfl | exact fzL_ints _ | exact fzL_strs _ | exact fz_ints _ | exact fz_strs _)] at z; subst z; conv => whnf))
    refine draw_ok T_draw hc (by decide) (lg (by decide) (by decide)) fun d3 i2 r2 k2 a4 a5 => ?_
    try dsimp only [give, List.map_cons, List.map_nil, List.set_cons_zero, List.set_cons_succ]
    (conv => whnf); repeat (first | (refine ⟨_, rfl, (by first | assumption | rfl | exact fzL_ints _ | exact fzL_strs _ | exact fz_ints _ | exact fz_strs _), ?_⟩; conv => whnf) | (refine ⟨_, rfl, ?_⟩; conv => whnf) | (refine And.intro rfl ?_; conv => whnf) | (refine And.intro (by first | assumption | decide | omega) ?_; conv => whnf) | (refine And.intro (by first | assumption | rfl | exact fzL_ints _ | exact fzL_strs _ | exact fz_ints _ | exact fz_strs _) ?_; conv => whnf) | (refine And.intro (And.intro (by first | assumption | decide | omega) (by first | assumption | decide | omega)) ?_; conv => whnf) | (refine And.intro (And.intro (And.intro (by first | assumption | decide | omega) (by first | assumption | decide | omega)) (And.intro (by first | assumption | decide | omega) (by first | assumption | decide | omega))) ?_; conv => whnf) | (refine And.intro (And.intro (by first | assumption | rfl | exact fzL_ints _ | exact fzL_strs _ | exact fz_ints _ | exact fz_strs _) (And.intro (by first | assumption | rfl | exact fzL_ints _ | exact fzL_strs _ | exact fz_ints _ | exact fz_strs _) (by first | assumption | rfl | exact fzL_ints _ | exact fzL_strs _ | exact fz_ints _ | exact fz_strs _))) ?_; conv => whnf) | (refine And.intro (by first | exact Or.inl (by decide) | exact Or.inr (by decide)) ?_; conv => whnf) | (refine Or.inl (And.intro (by first | assumption | rfl | exact fzL_ints _ | exact fzL_strs _ | exact fz_ints _ | exact fz_strs _) ?_); conv => whnf) | (refine ⟨fun _ => ?_, fun z => Bool.noConfusion z⟩; conv => whnf) | (refine ⟨fun z => Bool.noConfusion z, fun _ => ?_⟩; conv => whnf) | (intro p0 z; rw [frz_lstp (by first | assumption | rfl | exact fzL_ints _ | exact fzL_strs _ | exact fz_ints _ | exact fz_strs _)] at z; subst z; conv => whnf) | (intro p0 z; rw [PV.fz_frz _ (by first | assumption | rfl | exact fzL_ints _ | exact fzL_strs _ | exact fz_ints _ | exact fz_strs _)] at z; subst z; conv => whnf))
    refine draw_ok T_draw hc (by decide) (lg (by decide) (by decide)) fun j i3 r3 k3 b0 b1 => ?_
    try dsimp only [give, List.map_cons, List.map_nil, List.set_cons_zero, List.set_cons_succ]
    (conv => whnf); repeat (first | (refine ⟨_, rfl, (by first | assumption | rfl | exact fzL_ints _ | exact fzL_strs _ | exact fz_ints _ | exact fz_strs _), ?_⟩; conv => whnf) | (refine ⟨_, rfl, ?_⟩; conv => whnf) | (refine And.intro rfl ?_; conv => whnf) | (refine And.intro (by first | assumption | decide | omega) ?_; conv => whnf) | (refine And.intro (by first | assumption | rfl | exact fzL_ints _ | exact fzL_strs _ | exact fz_ints _ | exact fz_strs _) ?_; conv => whnf) | (refine And.intro (And.intro (by first | assumption | decide | omega) (by first | assumption | decide | omega)) ?_; conv => whnf) | (refine And.intro (And.intro (And.intro (by first | assumption | decide | omega) (by first | assumption | decide | omega)) (And.intro (by first | assumption | decide | omega) (by first | assumption | decide | omega))) ?_; conv => whnf) | (refine And.intro (And.intro (by first | assumption | rfl | exact fzL_ints _ | exact fzL_strs _ | exact fz_ints _ | exact fz_strs _) (And.intro (by first | assumption | rfl | exact fzL_ints _ | exact fzL_strs _ | exact fz_ints _ | exact fz_strs _) (by first | assumption | rfl | exact fzL_ints _ | exact fzL_strs _ | exact fz_ints _ | exact fz_strs _))) ?_; conv => whnf) | (refine And.intro (by first | exact Or.inl (by decide) | exact Or.inr (by decide)) ?_; conv => whnf) | (refine Or.inl (And.intro (by first | assumption | rfl | exact fzL_ints _ | exact fzL_strs _ | exact fz_ints _ | exact fz_strs _) ?_); conv => whnf) | (refine ⟨fun _ => ?_, fun z => Bool.noConfusion z⟩; conv => whnf) | (refine ⟨fun z => Bool.noConfusion z, fun _ => ?_⟩; conv => whnf) | (intro p0 z; rw [frz_lstp (by first | assumption | rfl | exact fzL_ints _ | exact fzL_strs _ | exact fz_ints _ | exact fz_strs _)] at z; subst z; conv => whnf) | (intro p0 z; rw [PV.fz_frz _ (by first | assumption | rfl | exact fzL_ints _ | exact fzL_strs _ | exact fz_ints _ | exact fz_strs _)] at z; subst z; conv => whnf))
    obtain ⟨z, hz, z0, z1⟩ : ∃ z : Int, L2.atI [PV.int d1, PV.int (78 + d2), PV.int d3] j = some (.int z) ∧ 0 ≤ z ∧ z ≤ 83 := by
      have hj : j = 0 ∨ j = 1 ∨ j = 2 := by omega
      rcases hj with rfl | rfl | rfl
      · exact ⟨d1, rfl, by omega, by omega⟩
      · exact ⟨78 + d2, rfl, by omega, by omega⟩
      · exact ⟨d3, rfl, by omega, by omega⟩
    refine ⟨_, hz, rfl, ?_⟩
    have hMT : okS MT.length = true := sok_okS MT_ok
    conv => whnf
    refine ⟨_, n_mt, ?_⟩
    conv => whnf
    refine And.intro hMT ?_
    have hy := cut_ok MT_ok none (some z)
    generalize L2.cutS MT none (some z) = y at hy ⊢
    exact tail4 hc hy h
end K01
end
section
set_option Elab.async false
set_option linter.all false
set_option maxRecDepth 100001
set_option maxHeartbeats 2000001
set_option autoImplicit false
namespace K01
open PySem Y
theorem T_law : lw.T ("law" : Str) = some fd_law := tblOf_mem (e := en_law) nd (by simp [lw])
abbrev endQ : Fl → Fr → Prop := fun f ρ => match f with
    | .rt p => (fun p (_ : Fr) => p = PV.bl true) p (maskF fd_law.lend (ρ.take fd_law.ps))
    | .nx => (fun p (_ : Fr) => p = PV.bl true) .non (maskF fd_law.lend (ρ.take fd_law.ps))
    | _ => False
abbrev endE : PX → Fr → Prop := fun x ρ => NE x (maskF fd_law.lend (ρ.take fd_law.ps))
/-- from the list of good things on -/
theorem last_ok {n : Nat} {cs : List Int} {i r k : Int} {xs : List Th} {z0 : PV} {z3 z4 z5 z6 z7 z9 z10 : Option PV} (hx : ∀ x ∈ xs, x.ok) (hxl : xs.length = 7) : wB ⟨callN lw.T 100 (n + 4), lendOf lw.T, 100, none⟩ (b_law.drop 10) [some z0, some (potP cs i r k), some (.lst false (xs.map Th.p)), z3, z4, z5, z6, z7, none, z9, z10] endQ endE := by
  rcases z3 with _ | p3
  all_goals
    have hfx : PV.fzL (xs.map Th.p) = true := fzL_p xs
    (conv => whnf); repeat (first | (refine ⟨_, rfl, (by first | assumption | rfl | exact fzL_ints _ | exact fzL_strs _ | exact fz_ints _ | exact fz_strs _), ?_⟩; conv => whnf) | (refine ⟨_, rfl, ?_⟩; conv => whnf) | (refine And.intro rfl ?_; conv => whnf) | (refine And.intro (by first | assumption | decide | omega) ?_; conv => whnf) | (refine And.intro (by first | assumption | rfl | exact fzL_ints _ | exact fzL_strs _ | exact fz_ints _ | exact fz_strs _) ?_; conv => whnf) | (refine And.intro (And.intro (by first | assumption | decide | omega) (by first | assumption | decide | omega)) ?_; conv => whnf) | (refine And.intro (And.intro (And.intro (by first | assumption | decide | omega) (by first | assumption | decide | omega)) (And.intro (by first | assumption | decide | omega) (by first | assumption | decide | omega))) ?_; conv => whnf) | (refine And.intro (And.intro (by first | assumption | rfl | exact fzL_ints _ | exact fzL_strs _ | exact fz_ints _ | exact fz_strs _) (And.intro (by first | assumption | rfl | exact fzL_ints _ | exact fzL_strs _ | exact fz_ints _ | exact fz_strs _) (by first | assumption | rfl | exact fzL_ints _ | exact fzL_strs _ | exact fz_ints _ | exact fz_strs _))) ?_; conv => whnf) | (refine And.intro (by first | exact Or.inl (by decide) | exact Or.inr (by decide)) ?_; conv => whnf) | (refine Or.inl (And.intro (by first | assumption | rfl | exact fzL_ints _ | exact fzL_strs _ | exact fz_ints _ | exact fz_strs _) ?_); conv => whnf) | (refine ⟨fun _ => ?_, fun z => Bool.noConfusion z⟩; conv => whnf) | (refine ⟨fun z => Bool.noConfusion z, fun _ => ?_⟩; conv => whnf) | (intro p0 z; rw [frz_lstp (by first | assumption | rfl | exact fzL_ints _ | exact fzL_strs _ | exact fz_ints _ | exact fz_strs _)] at z; subst z; conv => whnf) | (intro p0 z; rw [PV.fz_frz _ (by first | assumption | rfl | exact fzL_ints _ | exact fzL_strs _ | exact fz_ints _ | exact fz_strs _)] at z; subst z; conv => whnf))
    refine zK_in (fun rest acc ρ => ∃ ys gs : List Th, rest = ys.map Th.p ∧ acc = gs.map Th.p ∧ (∀ y ∈ ys, y.ok) ∧ gs.length + ys.length ≤ 7 ∧ ρ = [some z0, some (potP cs i r k), some (.lst false (xs.map Th.p)), none, z4, z5, z6, z7, none, z9, z10]) ?_ ?_ ?_
    · exact ⟨xs, [], rfl, rfl, hx, by simp [hxl], rfl⟩
    · rintro _ _ ⟨ys, gs, e1, rfl, h1, h2, rfl⟩
      have hg : PV.fzL (gs.map Th.p) = true := fzL_p gs
      have hg2 : (PV.tup (gs.map Th.p)).fz = true := by simp only [PV.fz, hg]
      conv => whnf
      refine ⟨_, n_tuple, ?_⟩
      (conv => whnf); repeat (first | (refine ⟨_, rfl, (by first | assumption | rfl | exact fzL_ints _ | exact fzL_strs _ | exact fz_ints _ | exact fz_strs _), ?_⟩; conv => whnf) | (refine ⟨_, rfl, ?_⟩; conv => whnf) | (refine And.intro rfl ?_; conv => whnf) | (refine And.intro (by first | assumption | decide | omega) ?_; conv => whnf) | (refine And.intro (by first | assumption | rfl | exact fzL_ints _ | exact fzL_strs _ | exact fz_ints _ | exact fz_strs _) ?_; conv => whnf) | (refine And.intro (And.intro (by first | assumption | decide | omega) (by first | assumption | decide | omega)) ?_; conv => whnf) | (refine And.intro (And.intro (And.intro (by first | assumption | decide | omega) (by first | assumption | decide | omega)) (And.intro (by first | assumption | decide | omega) (by first | assumption | decide | omega))) ?_; conv => whnf) | (refine And.intro (And.intro (by first | assumption | rfl | exact fzL_ints _ | exact fzL_strs _ | exact fz_ints _ | exact fz_strs _) (And.intro (by first | assumption | rfl | exact fzL_ints _ | exact fzL_strs _ | exact fz_ints _ | exact fz_strs _) (by first | assumption | rfl | exact fzL_ints _ | exact fzL_strs _ | exact fz_ints _ | exact fz_strs _))) ?_; conv => whnf) | (refine And.intro (by first | exact Or.inl (by decide) | exact Or.inr (by decide)) ?_; conv => whnf) | (refine Or.inl (And.intro (by first | assumption | rfl | exact fzL_ints _ | exact fzL_strs _ | exact fz_ints _ | exact fz_strs _) ?_); conv => whnf) | (refine ⟨fun _ => ?_, fun z => Bool.noConfusion z⟩; conv => whnf) | (refine ⟨fun z => Bool.noConfusion z, fun _ => ?_⟩; conv => whnf) | (intro p0 z; rw [frz_lstp (by first | assumption | rfl | exact fzL_ints _ | exact fzL_strs _ | exact fz_ints _ | exact fz_strs _)] at z; subst z; conv => whnf) | (intro p0 z; rw [PV.fz_frz _ (by first | assumption | rfl | exact fzL_ints _ | exact fzL_strs _ | exact fz_ints _ | exact fz_strs _)] at z; subst z; conv => whnf))
      refine idx_no hg2 (.inr (.inr ⟨_, rfl, rfl⟩)) ?_
      (conv => whnf); repeat (first | (refine ⟨_, rfl, (by first | assumption | rfl | exact fzL_ints _ | exact fzL_strs _ | exact fz_ints _ | exact fz_strs _), ?_⟩; conv => whnf) | (refine ⟨_, rfl, ?_⟩; conv => whnf) | (refine And.intro rfl ?_; conv => whnf) | (refine And.intro (by first | assumption | decide | omega) ?_; conv => whnf) | (refine And.intro (by first | assumption | rfl | exact fzL_ints _ | exact fzL_strs _ | exact fz_ints _ | exact fz_strs _) ?_; conv => whnf) | (refine And.intro (And.intro (by first | assumption | decide | omega) (by first | assumption | decide | omega)) ?_; conv => whnf) | (refine And.intro (And.intro (And.intro (by first | assumption | decide | omega) (by first | assumption | decide | omega)) (And.intro (by first | assumption | decide | omega) (by first | assumption | decide | omega))) ?_; conv => whnf) | (refine And.intro (And.intro (by first | assumption | rfl | exact fzL_ints _ | exact fzL_strs _ | exact fz_ints _ | exact fz_strs _) (And.intro (by first | assumption | rfl | exact fzL_ints _ | exact fzL_strs _ | exact fz_ints _ | exact fz_strs _) (by first | assumption | rfl | exact fzL_ints _ | exact fzL_strs _ | exact fz_ints _ | exact fz_strs _))) ?_; conv => whnf) | (refine And.intro (by first | exact Or.inl (by decide) | exact Or.inr (by decide)) ?_; conv => whnf) | (refine Or.inl (And.intro (by first | assumption | rfl | exact fzL_ints _ | exact fzL_strs _ | exact fz_ints _ | exact fz_strs _) ?_); conv => whnf) | (refine ⟨fun _ => ?_, fun z => Bool.noConfusion z⟩; conv => whnf) | (refine ⟨fun z => Bool.noConfusion z, fun _ => ?_⟩; conv => whnf) | (intro p0 z; rw [frz_lstp (by first | assumption | rfl | exact fzL_ints _ | exact fzL_strs _ | exact fz_ints _ | exact fz_strs _)] at z; subst z; conv => whnf) | (intro p0 z; rw [PV.fz_frz _ (by first | assumption | rfl | exact fzL_ints _ | exact fzL_strs _ | exact fz_ints _ | exact fz_strs _)] at z; subst z; conv => whnf))
      refine idx_no rfl (.inr (.inl ⟨_, rfl, rfl⟩)) ?_
      (conv => whnf); repeat (first | (refine ⟨_, rfl, (by first | assumption | rfl | exact fzL_ints _ | exact fzL_strs _ | exact fz_ints _ | exact fz_strs _), ?_⟩; conv => whnf) | (refine ⟨_, rfl, ?_⟩; conv => whnf) | (refine And.intro rfl ?_; conv => whnf) | (refine And.intro (by first | assumption | decide | omega) ?_; conv => whnf) | (refine And.intro (by first | assumption | rfl | exact fzL_ints _ | exact fzL_strs _ | exact fz_ints _ | exact fz_strs _) ?_; conv => whnf) | (refine And.intro (And.intro (by first | assumption | decide | omega) (by first | assumption | decide | omega)) ?_; conv => whnf) | (refine And.intro (And.intro (And.intro (by first | assumption | decide | omega) (by first | assumption | decide | omega)) (And.intro (by first | assumption | decide | omega) (by first | assumption | decide | omega))) ?_; conv => whnf) | (refine And.intro (And.intro (by first | assumption | rfl | exact fzL_ints _ | exact fzL_strs _ | exact fz_ints _ | exact fz_strs _) (And.intro (by first | assumption | rfl | exact fzL_ints _ | exact fzL_strs _ | exact fz_ints _ | exact fz_strs _) (by first | assumption | rfl | exact fzL_ints _ | exact fzL_strs _ | exact fz_ints _ | exact fz_strs _))) ?_; conv => whnf) | (refine And.intro (by first | exact Or.inl (by decide) | exact Or.inr (by decide)) ?_; conv => whnf) | (refine Or.inl (And.intro (by first | assumption | rfl | exact fzL_ints _ | exact fzL_strs _ | exact fz_ints _ | exact fz_strs _) ?_); conv => whnf) | (refine ⟨fun _ => ?_, fun z => Bool.noConfusion z⟩; conv => whnf) | (refine ⟨fun z => Bool.noConfusion z, fun _ => ?_⟩; conv => whnf) | (intro p0 z; rw [frz_lstp (by first | assumption | rfl | exact fzL_ints _ | exact fzL_strs _ | exact fz_ints _ | exact fz_strs _)] at z; subst z; conv => whnf) | (intro p0 z; rw [PV.fz_frz _ (by first | assumption | rfl | exact fzL_ints _ | exact fzL_strs _ | exact fz_ints _ | exact fz_strs _)] at z; subst z; conv => whnf))
      refine idx_no rfl (.inl ⟨rfl, rfl⟩) ?_
      (conv => whnf); repeat (first | (refine ⟨_, rfl, (by first | assumption | rfl | exact fzL_ints _ | exact fzL_strs _ | exact fz_ints _ | exact fz_strs _), ?_⟩; conv => whnf) | (refine ⟨_, rfl, ?_⟩; conv => whnf) | (refine And.intro rfl ?_; conv => whnf) | (refine And.intro (by first | assumption | decide | omega) ?_; conv => whnf) | (refine And.intro (by first | assumption | rfl | exact fzL_ints _ | exact fzL_strs _ | exact fz_ints _ | exact fz_strs _) ?_; conv => whnf) | (refine And.intro (And.intro (by first | assumption | decide | omega) (by first | assumption | decide | omega)) ?_; conv => whnf) | (refine And.intro (And.intro (And.intro (by first | assumption | decide | omega) (by first | assumption | decide | omega)) (And.intro (by first | assumption | decide | omega) (by first | assumption | decide | omega))) ?_; conv => whnf) | (refine And.intro (And.intro (by first | assumption | rfl | exact fzL_ints _ | exact fzL_strs _ | exact fz_ints _ | exact fz_strs _) (And.intro (by first | assumption | rfl | exact fzL_ints _ | exact fzL_strs _ | exact fz_ints _ | exact fz_strs _) (by first | assumption | rfl | exact fzL_ints _ | exact fzL_strs _ | exact fz_ints _ | exact fz_strs _))) ?_; conv => whnf) | (refine And.intro (by first | exact Or.inl (by decide) | exact Or.inr (by decide)) ?_; conv => whnf) | (refine Or.inl (And.intro (by first | assumption | rfl | exact fzL_ints _ | exact fzL_strs _ | exact fz_ints _ | exact fz_strs _) ?_); conv => whnf) | (refine ⟨fun _ => ?_, fun z => Bool.noConfusion z⟩; conv => whnf) | (refine ⟨fun z => Bool.noConfusion z, fun _ => ?_⟩; conv => whnf) | (intro p0 z; rw [frz_lstp (by first | assumption | rfl | exact fzL_ints _ | exact fzL_strs _ | exact fz_ints _ | exact fz_strs _)] at z; subst z; conv => whnf) | (intro p0 z; rw [PV.fz_frz _ (by first | assumption | rfl | exact fzL_ints _ | exact fzL_strs _ | exact fz_ints _ | exact fz_strs _)] at z; subst z; conv => whnf))
      exact congrArg PV.bl (decide_eq_true rfl)
    · rintro x rest acc _ ⟨ys, gs, e1, rfl, h1, h2, rfl⟩
      cases ys with
      | nil => cases e1
      | cons t ys =>
        obtain ⟨rfl, rfl⟩ := List.cons.inj e1
        have ht := h1 t List.mem_cons_self
        have hb : ∀ y ∈ ys, y.ok := fun y hy => h1 y (List.mem_cons_of_mem _ hy)
        simp only [List.length_cons] at h2
        have hlt : (gs.map Th.p).length < sizeLine := by rw [List.length_map]; exact small_lt (show _ ≤ 10 by omega)
        refine ⟨[some z0, some (potP cs i r k), some (.lst false (xs.map Th.p)), some t.p, z4, z5, z6, z7, none, z9, z10], rfl, ?_⟩
        have step : ∀ g : List Th, g = gs ++ [t] → (gs.map Th.p ++ [t.p]) = g.map Th.p := fun g hg => by rw [hg]; simp
        cases t
        case sS s =>
          (conv => whnf); repeat (first | (refine ⟨_, rfl, (by first | assumption | rfl | exact fzL_ints _ | exact fzL_strs _ | exact fz_ints _ | exact fz_strs _), ?_⟩; conv => whnf) | (refine ⟨_, rfl, ?_⟩; conv => whnf) | (refine And.intro rfl ?_; conv => whnf) | (refine And.intro (by first | assumption | decide | omega) ?_; conv => whnf) | (refine And.intro (by first | assumption | rfl | exact fzL_ints _ | exact fzL_strs _ | exact fz_ints _ | exact fz_strs _) ?_; conv => whnf) | (refine And.intro (And.intro (by first | assumption | decide | omega) (by first | assumption | decide | omega)) ?_; conv => whnf) | (refine And.intro (And.intro (And.intro (by first | assumption | decide | omega) (by first | assumption | decide | omega)) (And.intro (by first | assumption | decide | omega) (by first | assumption | decide | omega))) ?_; conv => whnf) | (refine And.intro (And.intro (by first | assumption | rfl | exact fzL_ints _ | exact fzL_strs _ | exact fz_ints _ | exact fz_strs _) (And.intro (by first | assumption | rfl | exact fzL_ints _ | exact fzL_strs _ | exact fz_ints _ | exact fz_strs _) (by first | assumption | rfl | exact fzL_ints _ | exact fzL_strs _ | exact fz_ints _ | exact fz_strs _))) ?_; conv => whnf) | (refine And.intro (by first | exact Or.inl (by decide) | exact Or.inr (by decide)) ?_; conv => whnf) | (refine Or.inl (And.intro (by first | assumption | rfl | exact fzL_ints _ | exact fzL_strs _ | exact fz_ints _ | exact fz_strs _) ?_); conv => whnf) | (refine ⟨fun _ => ?_, fun z => Bool.noConfusion z⟩; conv => whnf) | (refine ⟨fun z => Bool.noConfusion z, fun _ => ?_⟩; conv => whnf) | (intro p0 z; rw [frz_lstp (by first | assumption | rfl | exact fzL_ints _ | exact fzL_strs _ | exact fz_ints _ | exact fz_strs _)] at z; subst z; conv => whnf) | (intro p0 z; rw [PV.fz_frz _ (by first | assumption | rfl | exact fzL_ints _ | exact fzL_strs _ | exact fz_ints _ | exact fz_strs _)] at z; subst z; conv => whnf))
          (first | refine lil_ok (x := .sS _) (by assumption) ?_ | refine lil_ok (x := .iI _) (by assumption) ?_ | refine lil_ok (x := .nN) (by assumption) ?_ | refine lil_ok (x := .tT) (by assumption) ?_ | refine lil_ok (x := .eE) (by assumption) ?_ | refine lil_ok (x := .uU) (by assumption) ?_ | refine lil_ok (x := .lL) (by assumption) ?_)
          (conv => whnf); repeat (first | (refine ⟨_, rfl, (by first | assumption | rfl | exact fzL_ints _ | exact fzL_strs _ | exact fz_ints _ | exact fz_strs _), ?_⟩; conv => whnf) | (refine ⟨_, rfl, ?_⟩; conv => whnf) | (refine And.intro rfl ?_; conv => whnf) | (refine And.intro (by first | assumption | decide | omega) ?_; conv => whnf) | (refine And.intro (by first | assumption | rfl | exact fzL_ints _ | exact fzL_strs _ | exact fz_ints _ | exact fz_strs _) ?_; conv => whnf) | (refine And.intro (And.intro (by first | assumption | decide | omega) (by first | assumption | decide | omega)) ?_; conv => whnf) | (refine And.intro (And.intro (And.intro (by first | assumption | decide | omega) (by first | assumption | decide | omega)) (And.intro (by first | assumption | decide | omega) (by first | assumption | decide | omega))) ?_; conv => whnf) | (refine And.intro (And.intro (by first | assumption | rfl | exact fzL_ints _ | exact fzL_strs _ | exact fz_ints _ | exact fz_strs _) (And.intro (by first | assumption | rfl | exact fzL_ints _ | exact fzL_strs _ | exact fz_ints _ | exact fz_strs _) (by first | assumption | rfl | exact fzL_ints _ | exact fzL_strs _ | exact fz_ints _ | exact fz_strs _))) ?_; conv => whnf) | (refine And.intro (by first | exact Or.inl (by decide) | exact Or.inr (by decide)) ?_; conv => whnf) | (refine Or.inl (And.intro (by first | assumption | rfl | exact fzL_ints _ | exact fzL_strs _ | exact fz_ints _ | exact fz_strs _) ?_); conv => whnf) | (refine ⟨fun _ => ?_, fun z => Bool.noConfusion z⟩; conv => whnf) | (refine ⟨fun z => Bool.noConfusion z, fun _ => ?_⟩; conv => whnf) | (intro p0 z; rw [frz_lstp (by first | assumption | rfl | exact fzL_ints _ | exact fzL_strs _ | exact fz_ints _ | exact fz_strs _)] at z; subst z; conv => whnf) | (intro p0 z; rw [PV.fz_frz _ (by first | assumption | rfl | exact fzL_ints _ | exact fzL_strs _ | exact fz_ints _ | exact fz_strs _)] at z; subst z; conv => whnf))
          refine ⟨fun hk => ?_, fun hk => ?_⟩
          · (conv => whnf); repeat (first | (refine ⟨_, rfl, (by first | assumption | rfl | exact fzL_ints _ | exact fzL_strs _ | exact fz_ints _ | exact fz_strs _), ?_⟩; conv => whnf) | (refine ⟨_, rfl, ?_⟩; conv => whnf) | (refine And.intro rfl ?_; conv => whnf) | (refine And.intro (by first | assumption | decide | omega) ?_; conv => whnf) | (refine And.intro (by first | assumption | rfl | exact fzL_ints _ | exact fzL_strs _ | exact fz_ints _ | exact fz_strs _) ?_; conv => whnf) | (refine And.intro (And.intro (by first | assumption | decide | omega) (by first | assumption | decide | omega)) ?_; conv => whnf) | (refine And.intro (And.intro (And.intro (by first | assumption | decide | omega) (by first | assumption | decide | omega)) (And.intro (by first | assumption | decide | omega) (by first | assumption | decide | omega))) ?_; conv => whnf) | (refine And.intro (And.intro (by first | assumption | rfl | exact fzL_ints _ | exact fzL_strs _ | exact fz_ints _ | exact fz_strs _) (And.intro (by first | assumption | rfl | exact fzL_ints _ | exact fzL_strs _ | exact fz_ints _ | exact fz_strs _) (by first | assumption | rfl | exact fzL_ints _ | exact fzL_strs _ | exact fz_ints _ | exact fz_strs _))) ?_; conv => whnf) | (refine And.intro (by first | exact Or.inl (by decide) | exact Or.inr (by decide)) ?_; conv => whnf) | (refine Or.inl (And.intro (by first | assumption | rfl | exact fzL_ints _ | exact fzL_strs _ | exact fz_ints _ | exact fz_strs _) ?_); conv => whnf) | (refine ⟨fun _ => ?_, fun z => Bool.noConfusion z⟩; conv => whnf) | (refine ⟨fun z => Bool.noConfusion z, fun _ => ?_⟩; conv => whnf) | (intro p0 z; rw [frz_lstp (by first | assumption | rfl | exact fzL_ints _ | exact fzL_strs _ | exact fz_ints _ | exact fz_strs _)] at z; subst z; conv => whnf) | (intro p0 z; rw [PV.fz_frz _ (by first | assumption | rfl | exact fzL_ints _ | exact fzL_strs _ | exact fz_ints _ | exact fz_strs _)] at z; subst z; conv => whnf))
            refine ⟨ys, gs ++ [.sS s], rfl, step _ rfl, hb, by simp; omega, rfl⟩
          · (conv => whnf); repeat (first | (refine ⟨_, rfl, (by first | assumption | rfl | exact fzL_ints _ | exact fzL_strs _ | exact fz_ints _ | exact fz_strs _), ?_⟩; conv => whnf) | (refine ⟨_, rfl, ?_⟩; conv => whnf) | (refine And.intro rfl ?_; conv => whnf) | (refine And.intro (by first | assumption | decide | omega) ?_; conv => whnf) | (refine And.intro (by first | assumption | rfl | exact fzL_ints _ | exact fzL_strs _ | exact fz_ints _ | exact fz_strs _) ?_; conv => whnf) | (refine And.intro (And.intro (by first | assumption | decide | omega) (by first | assumption | decide | omega)) ?_; conv => whnf) | (refine And.intro (And.intro (And.intro (by first | assumption | decide | omega) (by first | assumption | decide | omega)) (And.intro (by first | assumption | decide | omega) (by first | assumption | decide | omega))) ?_; conv => whnf) | (refine And.intro (And.intro (by first | assumption | rfl | exact fzL_ints _ | exact fzL_strs _ | exact fz_ints _ | exact fz_strs _) (And.intro (by first | assumption | rfl | exact fzL_ints _ | exact fzL_strs _ | exact fz_ints _ | exact fz_strs _) (by first | assumption | rfl | exact fzL_ints _ | exact fzL_strs _ | exact fz_ints _ | exact fz_strs _))) ?_; conv => whnf) | (refine And.intro (by first | exact Or.inl (by decide) | exact Or.inr (by decide)) ?_; conv => whnf) | (refine Or.inl (And.intro (by first | assumption | rfl | exact fzL_ints _ | exact fzL_strs _ | exact fz_ints _ | exact fz_strs _) ?_); conv => whnf) | (refine ⟨fun _ => ?_, fun z => Bool.noConfusion z⟩; conv => whnf) | (refine ⟨fun z => Bool.noConfusion z, fun _ => ?_⟩; conv => whnf) | (intro p0 z; rw [frz_lstp (by first | assumption | rfl | exact fzL_ints _ | exact fzL_strs _ | exact fz_ints _ | exact fz_strs _)] at z; subst z; conv => whnf) | (intro p0 z; rw [PV.fz_frz _ (by first | assumption | rfl | exact fzL_ints _ | exact fzL_strs _ | exact fz_ints _ | exact fz_strs _)] at z; subst z; conv => whnf))
            exact ⟨ys, gs, rfl, rfl, hb, by omega, rfl⟩
        all_goals
          (conv => whnf); repeat (first | (refine ⟨_, rfl, (by first | assumption | rfl | exact fzL_ints _ | exact fzL_strs _ | exact fz_ints _ | exact fz_strs _), ?_⟩; conv => whnf) | (refine ⟨_, rfl, ?_⟩; conv => whnf) | (refine And.intro rfl ?_; conv => whnf) | (refine And.intro (by first | assumption | decide | omega) ?_; conv => whnf) | (refine And.intro (by first | assumption | rfl | exact fzL_ints _ | exact fzL_strs _ | exact fz_ints _ | exact fz_strs _) ?_; conv => whnf) | (refine And.intro (And.intro (by first | assumption | decide | omega) (by first | assumption | decide | omega)) ?_; conv => whnf) | (refine And.intro (And.intro (And.intro (by first | assumption | decide | omega) (by first | assumption | decide | omega)) (And.intro (by first | assumption | decide | omega) (by first | assumption | decide | omega))) ?_; conv => whnf) | (refine And.intro (And.intro (by first | assumption | rfl | exact fzL_ints _ | exact fzL_strs _ | exact fz_ints _ | exact fz_strs _) (And.intro (by first | assumption | rfl | exact fzL_ints _ | exact fzL_strs _ | exact fz_ints _ | exact fz_strs _) (by first | assumption | rfl | exact fzL_ints _ | exact fzL_strs _ | exact fz_ints _ | exact fz_strs _))) ?_; conv => whnf) | (refine And.intro (by first | exact Or.inl (by decide) | exact Or.inr (by decide)) ?_; conv => whnf) | (refine Or.inl (And.intro (by first | assumption | rfl | exact fzL_ints _ | exact fzL_strs _ | exact fz_ints _ | exact fz_strs _) ?_); conv => whnf) | (refine ⟨fun _ => ?_, fun z => Bool.noConfusion z⟩; conv => whnf) | (refine ⟨fun z => Bool.noConfusion z, fun _ => ?_⟩; conv => whnf) | (intro p0 z; rw [frz_lstp (by first | assumption | rfl | exact fzL_ints _ | exact fzL_strs _ | exact fz_ints _ | exact fz_strs _)] at z; subst z; conv => whnf) | (intro p0 z; rw [PV.fz_frz _ (by first | assumption | rfl | exact fzL_ints _ | exact fzL_strs _ | exact fz_ints _ | exact fz_strs _)] at z; subst z; conv => whnf))
          (first | refine lil_ok (x := .sS _) (by assumption) ?_ | refine lil_ok (x := .iI _) (by assumption) ?_ | refine lil_ok (x := .nN) (by assumption) ?_ | refine lil_ok (x := .tT) (by assumption) ?_ | refine lil_ok (x := .eE) (by assumption) ?_ | refine lil_ok (x := .uU) (by assumption) ?_ | refine lil_ok (x := .lL) (by assumption) ?_)
          (conv => whnf); repeat (first | (refine ⟨_, rfl, (by first | assumption | rfl | exact fzL_ints _ | exact fzL_strs _ | exact fz_ints _ | exact fz_strs _), ?_⟩; conv => whnf) | (refine ⟨_, rfl, ?_⟩; conv => whnf) | (refine And.intro rfl ?_; conv => whnf) | (refine And.intro (by first | assumption | decide | omega) ?_; conv => whnf) | (refine And.intro (by first | assumption | rfl | exact fzL_ints _ | exact fzL_strs _ | exact fz_ints _ | exact fz_strs _) ?_; conv => whnf) | (refine And.intro (And.intro (by first | assumption | decide | omega) (by first | assumption | decide | omega)) ?_; conv => whnf) | (refine And.intro (And.intro (And.intro (by first | assumption | decide | omega) (by first | assumption | decide | omega)) (And.intro (by first | assumption | decide | omega) (by first | assumption | decide | omega))) ?_; conv => whnf) | (refine And.intro (And.intro (by first | assumption | rfl | exact fzL_ints _ | exact fzL_strs _ | exact fz_ints _ | exact fz_strs _) (And.intro (by first | assumption | rfl | exact fzL_ints _ | exact fzL_strs _ | exact fz_ints _ | exact fz_strs _) (by first | assumption | rfl | exact fzL_ints _ | exact fzL_strs _ | exact fz_ints _ | exact fz_strs _))) ?_; conv => whnf) | (refine And.intro (by first | exact Or.inl (by decide) | exact Or.inr (by decide)) ?_; conv => whnf) | (refine Or.inl (And.intro (by first | assumption | rfl | exact fzL_ints _ | exact fzL_strs _ | exact fz_ints _ | exact fz_strs _) ?_); conv => whnf) | (refine ⟨fun _ => ?_, fun z => Bool.noConfusion z⟩; conv => whnf) | (refine ⟨fun z => Bool.noConfusion z, fun _ => ?_⟩; conv => whnf) | (intro p0 z; rw [frz_lstp (by first | assumption | rfl | exact fzL_ints _ | exact fzL_strs _ | exact fz_ints _ | exact fz_strs _)] at z; subst z; conv => whnf) | (intro p0 z; rw [PV.fz_frz _ (by first | assumption | rfl | exact fzL_ints _ | exact fzL_strs _ | exact fz_ints _ | exact fz_strs _)] at z; subst z; conv => whnf))
          exact ⟨ys, gs, rfl, rfl, hb, by omega, rfl⟩
/-- from the indexes of no lines on -/
theorem mid_ok {n : Nat} {cs : List Int} {i r k : Int} {xs ls : List Th} {z0 : PV} {z3 z9 z10 : Option PV} (hx : ∀ x ∈ xs, x.ok) (hxl : xs.length = 7) (hl : ∀ x ∈ ls, x.ok) (hll : ls.length ≤ 40) : wB ⟨callN lw.T 100 (n + 4), lendOf lw.T, 100, none⟩ (b_law.drop 5) [some z0, some (potP cs i r k), some (.lst false (xs.map Th.p)), z3, some (.lst true (ls.map Th.p)), none, none, none, none, z9, z10] endQ endE := by
  have hfl : PV.fzL (ls.map Th.p) = true := fzL_p ls
  have hlen : (ls.map Th.p).length = ls.length := List.length_map ..
  rcases z9 with _ | p9
  all_goals
    (conv => whnf); repeat (first | (refine ⟨_, rfl, (by first | assumption | rfl | exact fzL_ints _ | exact fzL_strs _ | exact fz_ints _ | exact fz_strs _), ?_⟩; conv => whnf) | (refine ⟨_, rfl, ?_⟩; conv => whnf) | (refine And.intro rfl ?_; conv => whnf) | (refine And.intro (by first | assumption | decide | omega) ?_; conv => whnf) | (refine And.intro (by first | assumption | rfl | exact fzL_ints _ | exact fzL_strs _ | exact fz_ints _ | exact fz_strs _) ?_; conv => whnf) | (refine And.intro (And.intro (by first | assumption | decide | omega) (by first | assumption | decide | omega)) ?_; conv => whnf) | (refine And.intro (And.intro (And.intro (by first | assumption | decide | omega) (by first | assumption | decide | omega)) (And.intro (by first | assumption | decide | omega) (by first | assumption | decide | omega))) ?_; conv => whnf) | (refine And.intro (And.intro (by first | assumption | rfl | exact fzL_ints _ | exact fzL_strs _ | exact fz_ints _ | exact fz_strs _) (And.intro (by first | assumption | rfl | exact fzL_ints _ | exact fzL_strs _ | exact fz_ints _ | exact fz_strs _) (by first | assumption | rfl | exact fzL_ints _ | exact fzL_strs _ | exact fz_ints _ | exact fz_strs _))) ?_; conv => whnf) | (refine And.intro (by first | exact Or.inl (by decide) | exact Or.inr (by decide)) ?_; conv => whnf) | (refine Or.inl (And.intro (by first | assumption | rfl | exact fzL_ints _ | exact fzL_strs _ | exact fz_ints _ | exact fz_strs _) ?_); conv => whnf) | (refine ⟨fun _ => ?_, fun z => Bool.noConfusion z⟩; conv => whnf) | (refine ⟨fun z => Bool.noConfusion z, fun _ => ?_⟩; conv => whnf) | (intro p0 z; rw [frz_lstp (by first | assumption | rfl | exact fzL_ints _ | exact fzL_strs _ | exact fz_ints _ | exact fz_strs _)] at z; subst z; conv => whnf) | (intro p0 z; rw [PV.fz_frz _ (by first | assumption | rfl | exact fzL_ints _ | exact fzL_strs _ | exact fz_ints _ | exact fz_strs _)] at z; subst z; conv => whnf))
    refine zK_in (fun rest acc ρ => ∃ (j : Nat) (bs : List Int), rest = rngI (j : Int) (ls.length - j) ∧ j ≤ ls.length ∧ acc = bs.map .int ∧ bs.length ≤ j ∧ Bd ls j bs ∧ ρ = [some z0, some (potP cs i r k), some (.lst false (xs.map Th.p)), z3, some (.lst true (ls.map Th.p)), none, none, none, none, none, z10]) ?_ ?_ ?_
    · exact ⟨0, [], by rw [hlen]; rfl, Nat.zero_le _, rfl, Nat.le_refl _, .inl ⟨rfl, fun k _ hk => absurd hk (Nat.not_lt_zero _)⟩, rfl⟩
    · rintro _ _ ⟨j, bs, e1, e2, rfl, e3, e4, rfl⟩
      have hj : j = ls.length := by
        rcases Nat.lt_or_ge j ls.length with z | z
        · obtain ⟨c, hc⟩ : ∃ c, ls.length - j = c + 1 := ⟨ls.length - j - 1, by omega⟩
          rw [hc] at e1
          cases e1
        · omega
      subst hj
      have hfb : PV.fzL (bs.map .int) = true := fzL_ints bs
      (conv => whnf); repeat (first | (refine ⟨_, rfl, (by first | assumption | rfl | exact fzL_ints _ | exact fzL_strs _ | exact fz_ints _ | exact fz_strs _), ?_⟩; conv => whnf) | (refine ⟨_, rfl, ?_⟩; conv => whnf) | (refine And.intro rfl ?_; conv => whnf) | (refine And.intro (by first | assumption | decide | omega) ?_; conv => whnf) | (refine And.intro (by first | assumption | rfl | exact fzL_ints _ | exact fzL_strs _ | exact fz_ints _ | exact fz_strs _) ?_; conv => whnf) | (refine And.intro (And.intro (by first | assumption | decide | omega) (by first | assumption | decide | omega)) ?_; conv => whnf) | (refine And.intro (And.intro (And.intro (by first | assumption | decide | omega) (by first | assumption | decide | omega)) (And.intro (by first | assumption | decide | omega) (by first | assumption | decide | omega))) ?_; conv => whnf) | (refine And.intro (And.intro (by first | assumption | rfl | exact fzL_ints _ | exact fzL_strs _ | exact fz_ints _ | exact fz_strs _) (And.intro (by first | assumption | rfl | exact fzL_ints _ | exact fzL_strs _ | exact fz_ints _ | exact fz_strs _) (by first | assumption | rfl | exact fzL_ints _ | exact fzL_strs _ | exact fz_ints _ | exact fz_strs _))) ?_; conv => whnf) | (refine And.intro (by first | exact Or.inl (by decide) | exact Or.inr (by decide)) ?_; conv => whnf) | (refine Or.inl (And.intro (by first | assumption | rfl | exact fzL_ints _ | exact fzL_strs _ | exact fz_ints _ | exact fz_strs _) ?_); conv => whnf) | (refine ⟨fun _ => ?_, fun z => Bool.noConfusion z⟩; conv => whnf) | (refine ⟨fun z => Bool.noConfusion z, fun _ => ?_⟩; conv => whnf) | (intro p0 z; rw [frz_lstp (by first | assumption | rfl | exact fzL_ints _ | exact fzL_strs _ | exact fz_ints _ | exact fz_strs _)] at z; subst z; conv => whnf) | (intro p0 z; rw [PV.fz_frz _ (by first | assumption | rfl | exact fzL_ints _ | exact fzL_strs _ | exact fz_ints _ | exact fz_strs _)] at z; subst z; conv => whnf))
      refine idx_list hl (fun hall => ?_) fun j hj hb hbad => ?_
      · have hbs := e4.none hall
        subst hbs
        conv => whnf
        refine ⟨_, n_neT, ?_⟩
        (conv => whnf); repeat (first | (refine ⟨_, rfl, (by first | assumption | rfl | exact fzL_ints _ | exact fzL_strs _ | exact fz_ints _ | exact fz_strs _), ?_⟩; conv => whnf) | (refine ⟨_, rfl, ?_⟩; conv => whnf) | (refine And.intro rfl ?_; conv => whnf) | (refine And.intro (by first | assumption | decide | omega) ?_; conv => whnf) | (refine And.intro (by first | assumption | rfl | exact fzL_ints _ | exact fzL_strs _ | exact fz_ints _ | exact fz_strs _) ?_; conv => whnf) | (refine And.intro (And.intro (by first | assumption | decide | omega) (by first | assumption | decide | omega)) ?_; conv => whnf) | (refine And.intro (And.intro (And.intro (by first | assumption | decide | omega) (by first | assumption | decide | omega)) (And.intro (by first | assumption | decide | omega) (by first | assumption | decide | omega))) ?_; conv => whnf) | (refine And.intro (And.intro (by first | assumption | rfl | exact fzL_ints _ | exact fzL_strs _ | exact fz_ints _ | exact fz_strs _) (And.intro (by first | assumption | rfl | exact fzL_ints _ | exact fzL_strs _ | exact fz_ints _ | exact fz_strs _) (by first | assumption | rfl | exact fzL_ints _ | exact fzL_strs _ | exact fz_ints _ | exact fz_strs _))) ?_; conv => whnf) | (refine And.intro (by first | exact Or.inl (by decide) | exact Or.inr (by decide)) ?_; conv => whnf) | (refine Or.inl (And.intro (by first | assumption | rfl | exact fzL_ints _ | exact fzL_strs _ | exact fz_ints _ | exact fz_strs _) ?_); conv => whnf) | (refine ⟨fun _ => ?_, fun z => Bool.noConfusion z⟩; conv => whnf) | (refine ⟨fun z => Bool.noConfusion z, fun _ => ?_⟩; conv => whnf) | (intro p0 z; rw [frz_lstp (by first | assumption | rfl | exact fzL_ints _ | exact fzL_strs _ | exact fz_ints _ | exact fz_strs _)] at z; subst z; conv => whnf) | (intro p0 z; rw [PV.fz_frz _ (by first | assumption | rfl | exact fzL_ints _ | exact fzL_strs _ | exact fz_ints _ | exact fz_strs _)] at z; subst z; conv => whnf))
        refine ⟨_, n_neTup, ?_⟩
        (conv => whnf); repeat (first | (refine ⟨_, rfl, (by first | assumption | rfl | exact fzL_ints _ | exact fzL_strs _ | exact fz_ints _ | exact fz_strs _), ?_⟩; conv => whnf) | (refine ⟨_, rfl, ?_⟩; conv => whnf) | (refine And.intro rfl ?_; conv => whnf) | (refine And.intro (by first | assumption | decide | omega) ?_; conv => whnf) | (refine And.intro (by first | assumption | rfl | exact fzL_ints _ | exact fzL_strs _ | exact fz_ints _ | exact fz_strs _) ?_; conv => whnf) | (refine And.intro (And.intro (by first | assumption | decide | omega) (by first | assumption | decide | omega)) ?_; conv => whnf) | (refine And.intro (And.intro (And.intro (by first | assumption | decide | omega) (by first | assumption | decide | omega)) (And.intro (by first | assumption | decide | omega) (by first | assumption | decide | omega))) ?_; conv => whnf) | (refine And.intro (And.intro (by first | assumption | rfl | exact fzL_ints _ | exact fzL_strs _ | exact fz_ints _ | exact fz_strs _) (And.intro (by first | assumption | rfl | exact fzL_ints _ | exact fzL_strs _ | exact fz_ints _ | exact fz_strs _) (by first | assumption | rfl | exact fzL_ints _ | exact fzL_strs _ | exact fz_ints _ | exact fz_strs _))) ?_; conv => whnf) | (refine And.intro (by first | exact Or.inl (by decide) | exact Or.inr (by decide)) ?_; conv => whnf) | (refine Or.inl (And.intro (by first | assumption | rfl | exact fzL_ints _ | exact fzL_strs _ | exact fz_ints _ | exact fz_strs _) ?_); conv => whnf) | (refine ⟨fun _ => ?_, fun z => Bool.noConfusion z⟩; conv => whnf) | (refine ⟨fun z => Bool.noConfusion z, fun _ => ?_⟩; conv => whnf) | (intro p0 z; rw [frz_lstp (by first | assumption | rfl | exact fzL_ints _ | exact fzL_strs _ | exact fz_ints _ | exact fz_strs _)] at z; subst z; conv => whnf) | (intro p0 z; rw [PV.fz_frz _ (by first | assumption | rfl | exact fzL_ints _ | exact fzL_strs _ | exact fz_ints _ | exact fz_strs _)] at z; subst z; conv => whnf))
        have hlt : (ls.map Th.p).length < sizeLine := by rw [hlen]; exact small_lt (show _ ≤ 100 by omega)
        refine ⟨hlt, ?_⟩
        conv => whnf
        refine ⟨_, n_neT, ?_⟩
        conv => whnf
        refine ⟨fun z => Bool.noConfusion z, fun _ => ?_⟩
        exact last_ok hx hxl
      · obtain ⟨bs', rfl⟩ := e4.first hj hb hbad
        conv => whnf
        refine ⟨_, n_neT, ?_⟩
        conv => whnf
        refine ⟨fun z => Bool.noConfusion z, fun _ => ?_⟩
        conv => whnf
        refine And.intro rfl ?_
        conv => whnf
        intro p0 z
        rw [frz_lstp rfl] at z
        subst z
        conv => whnf
        refine ⟨_, n_ne0, ?_⟩
        (conv => whnf); repeat (first | (refine ⟨_, rfl, (by first | assumption | rfl | exact fzL_ints _ | exact fzL_strs _ | exact fz_ints _ | exact fz_strs _), ?_⟩; conv => whnf) | (refine ⟨_, rfl, ?_⟩; conv => whnf) | (refine And.intro rfl ?_; conv => whnf) | (refine And.intro (by first | assumption | decide | omega) ?_; conv => whnf) | (refine And.intro (by first | assumption | rfl | exact fzL_ints _ | exact fzL_strs _ | exact fz_ints _ | exact fz_strs _) ?_; conv => whnf) | (refine And.intro (And.intro (by first | assumption | decide | omega) (by first | assumption | decide | omega)) ?_; conv => whnf) | (refine And.intro (And.intro (And.intro (by first | assumption | decide | omega) (by first | assumption | decide | omega)) (And.intro (by first | assumption | decide | omega) (by first | assumption | decide | omega))) ?_; conv => whnf) | (refine And.intro (And.intro (by first | assumption | rfl | exact fzL_ints _ | exact fzL_strs _ | exact fz_ints _ | exact fz_strs _) (And.intro (by first | assumption | rfl | exact fzL_ints _ | exact fzL_strs _ | exact fz_ints _ | exact fz_strs _) (by first | assumption | rfl | exact fzL_ints _ | exact fzL_strs _ | exact fz_ints _ | exact fz_strs _))) ?_; conv => whnf) | (refine And.intro (by first | exact Or.inl (by decide) | exact Or.inr (by decide)) ?_; conv => whnf) | (refine Or.inl (And.intro (by first | assumption | rfl | exact fzL_ints _ | exact fzL_strs _ | exact fz_ints _ | exact fz_strs _) ?_); conv => whnf) | (refine ⟨fun _ => ?_, fun z => Bool.noConfusion z⟩; conv => whnf) | (refine ⟨fun z => Bool.noConfusion z, fun _ => ?_⟩; conv => whnf) | (intro p0 z; rw [frz_lstp (by first | assumption | rfl | exact fzL_ints _ | exact fzL_strs _ | exact fz_ints _ | exact fz_strs _)] at z; subst z; conv => whnf) | (intro p0 z; rw [PV.fz_frz _ (by first | assumption | rfl | exact fzL_ints _ | exact fzL_strs _ | exact fz_ints _ | exact fz_strs _)] at z; subst z; conv => whnf))
        have hi0 : L2.atI (((j : Int) :: bs').map PV.int) 0 = some (.int j) := by
          have e := L2.atI_nat (xs := ((j : Int) :: bs').map PV.int) (j := 0) (v := .int j) rfl
          exact e
        refine ⟨_, hi0, rfl, ?_⟩
        (conv => whnf); repeat (first | (refine ⟨_, rfl, (by first | assumption | rfl | exact fzL_ints _ | exact fzL_strs _ | exact fz_ints _ | exact fz_strs _), ?_⟩; conv => whnf) | (refine ⟨_, rfl, ?_⟩; conv => whnf) | (refine And.intro rfl ?_; conv => whnf) | (refine And.intro (by first | assumption | decide | omega) ?_; conv => whnf) | (refine And.intro (by first | assumption | rfl | exact fzL_ints _ | exact fzL_strs _ | exact fz_ints _ | exact fz_strs _) ?_; conv => whnf) | (refine And.intro (And.intro (by first | assumption | decide | omega) (by first | assumption | decide | omega)) ?_; conv => whnf) | (refine And.intro (And.intro (And.intro (by first | assumption | decide | omega) (by first | assumption | decide | omega)) (And.intro (by first | assumption | decide | omega) (by first | assumption | decide | omega))) ?_; conv => whnf) | (refine And.intro (And.intro (by first | assumption | rfl | exact fzL_ints _ | exact fzL_strs _ | exact fz_ints _ | exact fz_strs _) (And.intro (by first | assumption | rfl | exact fzL_ints _ | exact fzL_strs _ | exact fz_ints _ | exact fz_strs _) (by first | assumption | rfl | exact fzL_ints _ | exact fzL_strs _ | exact fz_ints _ | exact fz_strs _))) ?_; conv => whnf) | (refine And.intro (by first | exact Or.inl (by decide) | exact Or.inr (by decide)) ?_; conv => whnf) | (refine Or.inl (And.intro (by first | assumption | rfl | exact fzL_ints _ | exact fzL_strs _ | exact fz_ints _ | exact fz_strs _) ?_); conv => whnf) | (refine ⟨fun _ => ?_, fun z => Bool.noConfusion z⟩; conv => whnf) | (refine ⟨fun z => Bool.noConfusion z, fun _ => ?_⟩; conv => whnf) | (intro p0 z; rw [frz_lstp (by first | assumption | rfl | exact fzL_ints _ | exact fzL_strs _ | exact fz_ints _ | exact fz_strs _)] at z; subst z; conv => whnf) | (intro p0 z; rw [PV.fz_frz _ (by first | assumption | rfl | exact fzL_ints _ | exact fzL_strs _ | exact fz_ints _ | exact fz_strs _)] at z; subst z; conv => whnf))
        refine ⟨fun hk => by simp at hk, fun _ => ?_⟩
        exact last_ok hx hxl
    · rintro x rest acc _ ⟨j, bs, e1, e2, rfl, e3, e4, rfl⟩
      obtain ⟨c', hc, rfl, rfl⟩ := rng_cons e1
      have hj : j < ls.length := by omega
      have hok := hl ls[j] (List.getElem_mem hj)
      have hix : L2.atI (ls.map Th.p) (j : Int) = some (ls[j]).p := atI_map hj
      have hy : L ls[j] = true → Bd ls (j + 1) bs := e4.yes hj
      have hn : L ls[j] = false → Bd ls (j + 1) (bs ++ [(j : Int)]) := e4.no hj
      have hlt : (bs.map PV.int).length < sizeLine := by rw [List.length_map]; exact small_lt (show _ ≤ 40 by omega)
      generalize ls[j] = t at hok hix hy hn
      have hc2 : c' = ls.length - (j + 1) := by omega
      refine ⟨[some z0, some (potP cs i r k), some (.lst false (xs.map Th.p)), z3, some (.lst true (ls.map Th.p)), none, none, none, none, some (.int j), z10], rfl, ?_⟩
      cases t
      case sS s =>
        conv => whnf
        refine ⟨_, hix, rfl, ?_⟩
        (conv => whnf); repeat (first | (refine ⟨_, rfl, (by first | assumption | rfl | exact fzL_ints _ | exact fzL_strs _ | exact fz_ints _ | exact fz_strs _), ?_⟩; conv => whnf) | (refine ⟨_, rfl, ?_⟩; conv => whnf) | (refine And.intro rfl ?_; conv => whnf) | (refine And.intro (by first | assumption | decide | omega) ?_; conv => whnf) | (refine And.intro (by first | assumption | rfl | exact fzL_ints _ | exact fzL_strs _ | exact fz_ints _ | exact fz_strs _) ?_; conv => whnf) | (refine And.intro (And.intro (by first | assumption | decide | omega) (by first | assumption | decide | omega)) ?_; conv => whnf) | (refine And.intro (And.intro (And.intro (by first | assumption | decide | omega) (by first | assumption | decide | omega)) (And.intro (by first | assumption | decide | omega) (by first | assumption | decide | omega))) ?_; conv => whnf) | (refine And.intro (And.intro (by first | assumption | rfl | exact fzL_ints _ | exact fzL_strs _ | exact fz_ints _ | exact fz_strs _) (And.intro (by first | assumption | rfl | exact fzL_ints _ | exact fzL_strs _ | exact fz_ints _ | exact fz_strs _) (by first | assumption | rfl | exact fzL_ints _ | exact fzL_strs _ | exact fz_ints _ | exact fz_strs _))) ?_; conv => whnf) | (refine And.intro (by first | exact Or.inl (by decide) | exact Or.inr (by decide)) ?_; conv => whnf) | (refine Or.inl (And.intro (by first | assumption | rfl | exact fzL_ints _ | exact fzL_strs _ | exact fz_ints _ | exact fz_strs _) ?_); conv => whnf) | (refine ⟨fun _ => ?_, fun z => Bool.noConfusion z⟩; conv => whnf) | (refine ⟨fun z => Bool.noConfusion z, fun _ => ?_⟩; conv => whnf) | (intro p0 z; rw [frz_lstp (by first | assumption | rfl | exact fzL_ints _ | exact fzL_strs _ | exact fz_ints _ | exact fz_strs _)] at z; subst z; conv => whnf) | (intro p0 z; rw [PV.fz_frz _ (by first | assumption | rfl | exact fzL_ints _ | exact fzL_strs _ | exact fz_ints _ | exact fz_strs _)] at z; subst z; conv => whnf))
        (first | refine lil_ok (x := .sS _) (by assumption) ?_ | refine lil_ok (x := .iI _) (by assumption) ?_ | refine lil_ok (x := .nN) (by assumption) ?_ | refine lil_ok (x := .tT) (by assumption) ?_ | refine lil_ok (x := .eE) (by assumption) ?_ | refine lil_ok (x := .uU) (by assumption) ?_ | refine lil_ok (x := .lL) (by assumption) ?_)
        (conv => whnf); repeat (first | (refine ⟨_, rfl, (by first | assumption | rfl | exact fzL_ints _ | exact fzL_strs _ | exact fz_ints _ | exact fz_strs _), ?_⟩; conv => whnf) | (refine ⟨_, rfl, ?_⟩; conv => whnf) | (refine And.intro rfl ?_; conv => whnf) | (refine And.intro (by first | assumption | decide | omega) ?_; conv => whnf) | (refine And.intro (by first | assumption | rfl | exact fzL_ints _ | exact fzL_strs _ | exact fz_ints _ | exact fz_strs _) ?_; conv => whnf) | (refine And.intro (And.intro (by first | assumption | decide | omega) (by first | assumption | decide | omega)) ?_; conv => whnf) | (refine And.intro (And.intro (And.intro (by first | assumption | decide | omega) (by first | assumption | decide | omega)) (And.intro (by first | assumption | decide | omega) (by first | assumption | decide | omega))) ?_; conv => whnf) | (refine And.intro (And.intro (by first | assumption | rfl | exact fzL_ints _ | exact fzL_strs _ | exact fz_ints _ | exact fz_strs _) (And.intro (by first | assumption | rfl | exact fzL_ints _ | exact fzL_strs _ | exact fz_ints _ | exact fz_strs _) (by first | assumption | rfl | exact fzL_ints _ | exact fzL_strs _ | exact fz_ints _ | exact fz_strs _))) ?_; conv => whnf) | (refine And.intro (by first | exact Or.inl (by decide) | exact Or.inr (by decide)) ?_; conv => whnf) | (refine Or.inl (And.intro (by first | assumption | rfl | exact fzL_ints _ | exact fzL_strs _ | exact fz_ints _ | exact fz_strs _) ?_); conv => whnf) | (refine ⟨fun _ => ?_, fun z => Bool.noConfusion z⟩; conv => whnf) | (refine ⟨fun z => Bool.noConfusion z, fun _ => ?_⟩; conv => whnf) | (intro p0 z; rw [frz_lstp (by first | assumption | rfl | exact fzL_ints _ | exact fzL_strs _ | exact fz_ints _ | exact fz_strs _)] at z; subst z; conv => whnf) | (intro p0 z; rw [PV.fz_frz _ (by first | assumption | rfl | exact fzL_ints _ | exact fzL_strs _ | exact fz_ints _ | exact fz_strs _)] at z; subst z; conv => whnf))
        refine ⟨fun hk => ?_, fun hk => ?_⟩
        · (conv => whnf); repeat (first | (refine ⟨_, rfl, (by first | assumption | rfl | exact fzL_ints _ | exact fzL_strs _ | exact fz_ints _ | exact fz_strs _), ?_⟩; conv => whnf) | (refine ⟨_, rfl, ?_⟩; conv => whnf) | (refine And.intro rfl ?_; conv => whnf) | (refine And.intro (by first | assumption | decide | omega) ?_; conv => whnf) | (refine And.intro (by first | assumption | rfl | exact fzL_ints _ | exact fzL_strs _ | exact fz_ints _ | exact fz_strs _) ?_; conv => whnf) | (refine And.intro (And.intro (by first | assumption | decide | omega) (by first | assumption | decide | omega)) ?_; conv => whnf) | (refine And.intro (And.intro (And.intro (by first | assumption | decide | omega) (by first | assumption | decide | omega)) (And.intro (by first | assumption | decide | omega) (by first | assumption | decide | omega))) ?_; conv => whnf) | (refine And.intro (And.intro (by first | assumption | rfl | exact fzL_ints _ | exact fzL_strs _ | exact fz_ints _ | exact fz_strs _) (And.intro (by first | assumption | rfl | exact fzL_ints _ | exact fzL_strs _ | exact fz_ints _ | exact fz_strs _) (by first | assumption | rfl | exact fzL_ints _ | exact fzL_strs _ | exact fz_ints _ | exact fz_strs _))) ?_; conv => whnf) | (refine And.intro (by first | exact Or.inl (by decide) | exact Or.inr (by decide)) ?_; conv => whnf) | (refine Or.inl (And.intro (by first | assumption | rfl | exact fzL_ints _ | exact fzL_strs _ | exact fz_ints _ | exact fz_strs _) ?_); conv => whnf) | (refine ⟨fun _ => ?_, fun z => Bool.noConfusion z⟩; conv => whnf) | (refine ⟨fun z => Bool.noConfusion z, fun _ => ?_⟩; conv => whnf) | (intro p0 z; rw [frz_lstp (by first | assumption | rfl | exact fzL_ints _ | exact fzL_strs _ | exact fz_ints _ | exact fz_strs _)] at z; subst z; conv => whnf) | (intro p0 z; rw [PV.fz_frz _ (by first | assumption | rfl | exact fzL_ints _ | exact fzL_strs _ | exact fz_ints _ | exact fz_strs _)] at z; subst z; conv => whnf))
          exact ⟨j + 1, bs ++ [(j : Int)], by rw [hc2]; rfl, hj, by simp [PV.frz], by simp; omega, hn (by simpa using hk), rfl⟩
        · (conv => whnf); repeat (first | (refine ⟨_, rfl, (by first | assumption | rfl | exact fzL_ints _ | exact fzL_strs _ | exact fz_ints _ | exact fz_strs _), ?_⟩; conv => whnf) | (refine ⟨_, rfl, ?_⟩; conv => whnf) | (refine And.intro rfl ?_; conv => whnf) | (refine And.intro (by first | assumption | decide | omega) ?_; conv => whnf) | (refine And.intro (by first | assumption | rfl | exact fzL_ints _ | exact fzL_strs _ | exact fz_ints _ | exact fz_strs _) ?_; conv => whnf) | (refine And.intro (And.intro (by first | assumption | decide | omega) (by first | assumption | decide | omega)) ?_; conv => whnf) | (refine And.intro (And.intro (And.intro (by first | assumption | decide | omega) (by first | assumption | decide | omega)) (And.intro (by first | assumption | decide | omega) (by first | assumption | decide | omega))) ?_; conv => whnf) | (refine And.intro (And.intro (by first | assumption | rfl | exact fzL_ints _ | exact fzL_strs _ | exact fz_ints _ | exact fz_strs _) (And.intro (by first | assumption | rfl | exact fzL_ints _ | exact fzL_strs _ | exact fz_ints _ | exact fz_strs _) (by first | assumption | rfl | exact fzL_ints _ | exact fzL_strs _ | exact fz_ints _ | exact fz_strs _))) ?_; conv => whnf) | (refine And.intro (by first | exact Or.inl (by decide) | exact Or.inr (by decide)) ?_; conv => whnf) | (refine Or.inl (And.intro (by first | assumption | rfl | exact fzL_ints _ | exact fzL_strs _ | exact fz_ints _ | exact fz_strs _) ?_); conv => whnf) | (refine ⟨fun _ => ?_, fun z => Bool.noConfusion z⟩; conv => whnf) | (refine ⟨fun z => Bool.noConfusion z, fun _ => ?_⟩; conv => whnf) | (intro p0 z; rw [frz_lstp (by first | assumption | rfl | exact fzL_ints _ | exact fzL_strs _ | exact fz_ints _ | exact fz_strs _)] at z; subst z; conv => whnf) | (intro p0 z; rw [PV.fz_frz _ (by first | assumption | rfl | exact fzL_ints _ | exact fzL_strs _ | exact fz_ints _ | exact fz_strs _)] at z; subst z; conv => whnf))
          exact ⟨j + 1, bs, by rw [hc2]; rfl, hj, rfl, by omega, hy (by simpa using hk), rfl⟩
      all_goals
        conv => whnf
        refine ⟨_, hix, rfl, ?_⟩
        (conv => whnf); repeat (first | (refine ⟨_, rfl, (by first | assumption | rfl | exact fzL_ints _ | exact fzL_strs _ | exact fz_ints _ | exact fz_strs _), ?_⟩; conv => whnf) | (refine ⟨_, rfl, ?_⟩; conv => whnf) | (refine And.intro rfl ?_; conv => whnf) | (refine And.intro (by first | assumption | decide | omega) ?_; conv => whnf) | (refine And.intro (by first | assumption | rfl | exact fzL_ints _ | exact fzL_strs _ | exact fz_ints _ | exact fz_strs _) ?_; conv => whnf) | (refine And.intro (And.intro (by first | assumption | decide | omega) (by first | assumption | decide | omega)) ?_; conv => whnf) | (refine And.intro (And.intro (And.intro (by first | assumption | decide | omega) (by first | assumption | decide | omega)) (And.intro (by first | assumption | decide | omega) (by first | assumption | decide | omega))) ?_; conv => whnf) | (refine And.intro (And.intro (by first | assumption | rfl | exact fzL_ints _ | exact fzL_strs _ | exact fz_ints _ | exact fz_strs _) (And.intro (by first | assumption | rfl | exact fzL_ints _ | exact fzL_strs _ | exact fz_ints _ | exact fz_strs _) (by first | assumption | rfl | exact fzL_ints _ | exact fzL_strs _ | exact fz_ints _ | exact fz_strs _))) ?_; conv => whnf) | (refine And.intro (by first | exact Or.inl (by decide) | exact Or.inr (by decide)) ?_; conv => whnf) | (refine Or.inl (And.intro (by first | assumption | rfl | exact fzL_ints _ | exact fzL_strs _ | exact fz_ints _ | exact fz_strs _) ?_); conv => whnf) | (refine ⟨fun _ => ?_, fun z => Bool.noConfusion z⟩; conv => whnf) | (refine ⟨fun z => Bool.noConfusion z, fun _ => ?_⟩; conv => whnf) | (intro p0 z; rw [frz_lstp (by first | assumption | rfl | exact fzL_ints _ | exact fzL_strs _ | exact fz_ints _ | exact fz_strs _)] at z; subst z; conv => whnf) | (intro p0 z; rw [PV.fz_frz _ (by first | assumption | rfl | exact fzL_ints _ | exact fzL_strs _ | exact fz_ints _ | exact fz_strs _)] at z; subst z; conv => whnf))
        (first | refine lil_ok (x := .sS _) (by assumption) ?_ | refine lil_ok (x := .iI _) (by assumption) ?_ | refine lil_ok (x := .nN) (by assumption) ?_ | refine lil_ok (x := .tT) (by assumption) ?_ | refine lil_ok (x := .eE) (by assumption) ?_ | refine lil_ok (x := .uU) (by assumption) ?_ | refine lil_ok (x := .lL) (by assumption) ?_)
        (conv => whnf); repeat (first | (refine ⟨_, rfl, (by first | assumption | rfl | exact fzL_ints _ | exact fzL_strs _ | exact fz_ints _ | exact fz_strs _), ?_⟩; conv => whnf) | (refine ⟨_, rfl, ?_⟩; conv => whnf) | (refine And.intro rfl ?_; conv => whnf) | (refine And.intro (by first | assumption | decide | omega) ?_; conv => whnf) | (refine And.intro (by first | assumption | rfl | exact fzL_ints _ | exact fzL_strs _ | exact fz_ints _ | exact fz_strs _) ?_; conv => whnf) | (refine And.intro (And.intro (by first | assumption | decide | omega) (by first | assumption | decide | omega)) ?_; conv => whnf) | (refine And.intro (And.intro (And.intro (by first | assumption | decide | omega) (by first | assumption | decide | omega)) (And.intro (by first | assumption | decide | omega) (by first | assumption | decide | omega))) ?_; conv => whnf) | (refine And.intro (And.intro (by first | assumption | rfl | exact fzL_ints _ | exact fzL_strs _ | exact fz_ints _ | exact fz_strs _) (And.intro (by first | assumption | rfl | exact fzL_ints _ | exact fzL_strs _ | exact fz_ints _ | exact fz_strs _) (by first | assumption | rfl | exact fzL_ints _ | exact fzL_strs _ | exact fz_ints _ | exact fz_strs _))) ?_; conv => whnf) | (refine And.intro (by first | exact Or.inl (by decide) | exact Or.inr (by decide)) ?_; conv => whnf) | (refine Or.inl (And.intro (by first | assumption | rfl | exact fzL_ints _ | exact fzL_strs _ | exact fz_ints _ | exact fz_strs _) ?_); conv => whnf) | (refine ⟨fun _ => ?_, fun z => Bool.noConfusion z⟩; conv => whnf) | (refine ⟨fun z => Bool.noConfusion z, fun _ => ?_⟩; conv => whnf) | (intro p0 z; rw [frz_lstp (by first | assumption | rfl | exact fzL_ints _ | exact fzL_strs _ | exact fz_ints _ | exact fz_strs _)] at z; subst z; conv => whnf) | (intro p0 z; rw [PV.fz_frz _ (by first | assumption | rfl | exact fzL_ints _ | exact fzL_strs _ | exact fz_ints _ | exact fz_strs _)] at z; subst z; conv => whnf))
        exact ⟨j + 1, bs ++ [(j : Int)], by rw [hc2]; rfl, hj, by simp [PV.frz], by simp; omega, hn rfl, rfl⟩
end K01
end
section
set_option Elab.async false
set_option linter.all false
set_option maxRecDepth 100001
set_option maxHeartbeats 2000001
set_option autoImplicit false
namespace K01
open PySem Y
theorem cut_two {α : Type} {xs : List α} {a : Int} (h : 0 ≤ a) : (cutP xs none (some a)).length + (cutP xs (some a) none).length ≤ xs.length := by
  unfold cutP
  simp only [List.length_take, List.length_drop]
  have e0 : HT.sIx xs.length 0 none = 0 := rfl
  have e1 : HT.sIx xs.length xs.length none = xs.length := rfl
  have e2 : HT.sIx xs.length xs.length (some a) = HT.sIx xs.length 0 (some a) := rfl
  rw [e0, e1, e2]
  omega
theorem law_ok {n : Nat} {ns : List Int} (hl : ns.length ≤ 63) : zC (callN lw.T 100 (n + 5)) ("law" : Str) [.lck (ns.map .int)] (fun p _ => p = .bl true) NE := by
  refine run_ok T_law rfl ?_
  (conv => whnf); repeat (first | (refine ⟨_, rfl, (by first | assumption | rfl | exact fzL_ints _ | exact fzL_strs _ | exact fz_ints _ | exact fz_strs _), ?_⟩; conv => whnf) | (refine ⟨_, rfl, ?_⟩; conv => whnf) | (refine And.intro rfl ?_; conv => whnf) | (refine And.intro (by first | assumption | decide | omega) ?_; conv => whnf) | (refine And.intro (by first | assumption | rfl | exact fzL_ints _ | exact fzL_strs _ | exact fz_ints _ | exact fz_strs _) ?_; conv => whnf) | (refine And.intro (And.intro (by first | assumption | decide | omega) (by first | assumption | decide | omega)) ?_; conv => whnf) | (refine And.intro (And.intro (And.intro (by first | assumption | decide | omega) (by first | assumption | decide | omega)) (And.intro (by first | assumption | decide | omega) (by first | assumption | decide | omega))) ?_; conv => whnf) | (refine And.intro (And.intro (by first | assumption | rfl | exact fzL_ints _ | exact fzL_strs _ | exact fz_ints _ | exact fz_strs _) (And.intro (by first | assumption | rfl | exact fzL_ints _ | exact fzL_strs _ | exact fz_ints _ | exact fz_strs _) (by first | assumption | rfl | exact fzL_ints _ | exact fzL_strs _ | exact fz_ints _ | exact fz_strs _))) ?_; conv => whnf) | (refine And.intro (by first | exact Or.inl (by decide) | exact Or.inr (by decide)) ?_; conv => whnf) | (refine Or.inl (And.intro (by first | assumption | rfl | exact fzL_ints _ | exact fzL_strs _ | exact fz_ints _ | exact fz_strs _) ?_); conv => whnf) | (refine ⟨fun _ => ?_, fun z => Bool.noConfusion z⟩; conv => whnf) | (refine ⟨fun z => Bool.noConfusion z, fun _ => ?_⟩; conv => whnf) | (intro p0 z; rw [frz_lstp (by first | assumption | rfl | exact fzL_ints _ | exact fzL_strs _ | exact fz_ints _ | exact fz_strs _)] at z; subst z; conv => whnf) | (intro p0 z; rw [PV.fz_frz _ (by first | assumption | rfl | exact fzL_ints _ | exact fzL_strs _ | exact fz_ints _ | exact fz_strs _)] at z; subst z; conv => whnf))
  refine pot_ok T_pot hl fun cs hc => ?_
  (conv => whnf); repeat (first | (refine ⟨_, rfl, (by first | assumption | rfl | exact fzL_ints _ | exact fzL_strs _ | exact fz_ints _ | exact fz_strs _), ?_⟩; conv => whnf) | (refine ⟨_, rfl, ?_⟩; conv => whnf) | (refine And.intro rfl ?_; conv => whnf) | (refine And.intro (by first | assumption | decide | omega) ?_; conv => whnf) | (refine And.intro (by first | assumption | rfl | exact fzL_ints _ | exact fzL_strs _ | exact fz_ints _ | exact fz_strs _) ?_; conv => whnf) | (refine And.intro (And.intro (by first | assumption | decide | omega) (by first | assumption | decide | omega)) ?_; conv => whnf) | (refine And.intro (And.intro (And.intro (by first | assumption | decide | omega) (by first | assumption | decide | omega)) (And.intro (by first | assumption | decide | omega) (by first | assumption | decide | omega))) ?_; conv => whnf) | (refine And.intro (And.intro (by first | assumption | rfl | exact fzL_ints _ | exact fzL_strs _ | exact fz_ints _ | exact fz_strs _) (And.intro (by first | assumption | rfl | exact fzL_ints _ | exact fzL_strs _ | exact fz_ints _ | exact fz_strs _) (by first | assumption | rfl | exact fzL_ints _ | exact fzL_strs _ | exact fz_ints _ | exact fz_strs _))) ?_; conv => whnf) | (refine And.intro (by first | exact Or.inl (by decide) | exact Or.inr (by decide)) ?_; conv => whnf) | (refine Or.inl (And.intro (by first | assumption | rfl | exact fzL_ints _ | exact fzL_strs _ | exact fz_ints _ | exact fz_strs _) ?_); conv => whnf) | (refine ⟨fun _ => ?_, fun z => Bool.noConfusion z⟩; conv => whnf) | (refine ⟨fun z => Bool.noConfusion z, fun _ => ?_⟩; conv => whnf) | (intro p0 z; rw [frz_lstp (by first | assumption | rfl | exact fzL_ints _ | exact fzL_strs _ | exact fz_ints _ | exact fz_strs _)] at z; subst z; conv => whnf) | (intro p0 z; rw [PV.fz_frz _ (by first | assumption | rfl | exact fzL_ints _ | exact fzL_strs _ | exact fz_ints _ | exact fz_strs _)] at z; subst z; conv => whnf))
  refine zK_in (fun rest acc ρ => ∃ (i r k : Int) (xs : List Th), acc = xs.map Th.p ∧ xs.length + rest.length = 7 ∧ (∀ x ∈ xs, x.ok) ∧ ρ = [some (.lck (ns.map .int)), some (potP cs i r k), none, none, none, none, none, none, none, none, none]) ?_ ?_ ?_
  · exact ⟨_, _, _, [], rfl, rfl, by simp, rfl⟩
  rotate_left
  · rintro x rest acc _ ⟨i, r, k, xs, rfl, a1, a2, rfl⟩
    refine ⟨_, rfl, ?_⟩
    (conv => whnf); repeat (first | (refine ⟨_, rfl, (by first | assumption | rfl | exact fzL_ints _ | exact fzL_strs _ | exact fz_ints _ | exact fz_strs _), ?_⟩; conv => whnf) | (refine ⟨_, rfl, ?_⟩; conv => whnf) | (refine And.intro rfl ?_; conv => whnf) | (refine And.intro (by first | assumption | decide | omega) ?_; conv => whnf) | (refine And.intro (by first | assumption | rfl | exact fzL_ints _ | exact fzL_strs _ | exact fz_ints _ | exact fz_strs _) ?_; conv => whnf) | (refine And.intro (And.intro (by first | assumption | decide | omega) (by first | assumption | decide | omega)) ?_; conv => whnf) | (refine And.intro (And.intro (And.intro (by first | assumption | decide | omega) (by first | assumption | decide | omega)) (And.intro (by first | assumption | decide | omega) (by first | assumption | decide | omega))) ?_; conv => whnf) | (refine And.intro (And.intro (by first | assumption | rfl | exact fzL_ints _ | exact fzL_strs _ | exact fz_ints _ | exact fz_strs _) (And.intro (by first | assumption | rfl | exact fzL_ints _ | exact fzL_strs _ | exact fz_ints _ | exact fz_strs _) (by first | assumption | rfl | exact fzL_ints _ | exact fzL_strs _ | exact fz_ints _ | exact fz_strs _))) ?_; conv => whnf) | (refine And.intro (by first | exact Or.inl (by decide) | exact Or.inr (by decide)) ?_; conv => whnf) | (refine Or.inl (And.intro (by first | assumption | rfl | exact fzL_ints _ | exact fzL_strs _ | exact fz_ints _ | exact fz_strs _) ?_); conv => whnf) | (refine ⟨fun _ => ?_, fun z => Bool.noConfusion z⟩; conv => whnf) | (refine ⟨fun z => Bool.noConfusion z, fun _ => ?_⟩; conv => whnf) | (intro p0 z; rw [frz_lstp (by first | assumption | rfl | exact fzL_ints _ | exact fzL_strs _ | exact fz_ints _ | exact fz_strs _)] at z; subst z; conv => whnf) | (intro p0 z; rw [PV.fz_frz _ (by first | assumption | rfl | exact fzL_ints _ | exact fzL_strs _ | exact fz_ints _ | exact fz_strs _)] at z; subst z; conv => whnf))
    refine thing_ok hc fun x i3 r3 k3 hx => ?_
    refine ⟨_, PV.fz_frz _ (fz_p x), by rw [List.length_map]; exact small_lt (show _ ≤ 10 by simp at a1; omega), _, _, _, xs ++ [x], by simp, by simp at a1 ⊢; omega, fun y hy => ?_, rfl⟩
    rcases mem_app_one hy with h | rfl
    · exact a2 y h
    · exact hx
  rintro _ _ ⟨i, r, k, xs, rfl, a1, a2, rfl⟩
  have a1 : xs.length = 7 := by simpa using a1
  have hfx : PV.fzL (xs.map Th.p) = true := fzL_p xs
  (conv => whnf); repeat (first | (refine ⟨_, rfl, (by first | assumption | rfl | exact fzL_ints _ | exact fzL_strs _ | exact fz_ints _ | exact fz_strs _), ?_⟩; conv => whnf) | (refine ⟨_, rfl, ?_⟩; conv => whnf) | (refine And.intro rfl ?_; conv => whnf) | (refine And.intro (by first | assumption | decide | omega) ?_; conv => whnf) | (refine And.intro (by first | assumption | rfl | exact fzL_ints _ | exact fzL_strs _ | exact fz_ints _ | exact fz_strs _) ?_; conv => whnf) | (refine And.intro (And.intro (by first | assumption | decide | omega) (by first | assumption | decide | omega)) ?_; conv => whnf) | (refine And.intro (And.intro (And.intro (by first | assumption | decide | omega) (by first | assumption | decide | omega)) (And.intro (by first | assumption | decide | omega) (by first | assumption | decide | omega))) ?_; conv => whnf) | (refine And.intro (And.intro (by first | assumption | rfl | exact fzL_ints _ | exact fzL_strs _ | exact fz_ints _ | exact fz_strs _) (And.intro (by first | assumption | rfl | exact fzL_ints _ | exact fzL_strs _ | exact fz_ints _ | exact fz_strs _) (by first | assumption | rfl | exact fzL_ints _ | exact fzL_strs _ | exact fz_ints _ | exact fz_strs _))) ?_; conv => whnf) | (refine And.intro (by first | exact Or.inl (by decide) | exact Or.inr (by decide)) ?_; conv => whnf) | (refine Or.inl (And.intro (by first | assumption | rfl | exact fzL_ints _ | exact fzL_strs _ | exact fz_ints _ | exact fz_strs _) ?_); conv => whnf) | (refine ⟨fun _ => ?_, fun z => Bool.noConfusion z⟩; conv => whnf) | (refine ⟨fun z => Bool.noConfusion z, fun _ => ?_⟩; conv => whnf) | (intro p0 z; rw [frz_lstp (by first | assumption | rfl | exact fzL_ints _ | exact fzL_strs _ | exact fz_ints _ | exact fz_strs _)] at z; subst z; conv => whnf) | (intro p0 z; rw [PV.fz_frz _ (by first | assumption | rfl | exact fzL_ints _ | exact fzL_strs _ | exact fz_ints _ | exact fz_strs _)] at z; subst z; conv => whnf))
  refine zF_in (fun rest ρ => ∃ (ys : List Th) (z : Option PV), rest = ys.map Th.p ∧ (∀ y ∈ ys, y.ok) ∧ ρ = [some (.lck (ns.map .int)), some (potP cs i r k), some (.lst false (xs.map Th.p)), z, none, none, none, none, none, none, none]) ?_ ?_ ?_
  · exact ⟨xs, none, rfl, a2, rfl⟩
  rotate_left
  · rintro x rest _ ⟨ys, z, e1, h1, rfl⟩
    cases ys with
    | nil => cases e1
    | cons t ys =>
      obtain ⟨rfl, rfl⟩ := List.cons.inj e1
      have ht := h1 t List.mem_cons_self
      have hb : ∀ y ∈ ys, y.ok := fun y hy => h1 y (List.mem_cons_of_mem _ hy)
      refine ⟨[some (.lck (ns.map .int)), some (potP cs i r k), some (.lst false (xs.map Th.p)), some t.p, none, none, none, none, none, none, none], rfl, ?_⟩
      cases t
      case sS s =>
        (conv => whnf); repeat (first | (refine ⟨_, rfl, (by first | assumption | rfl | exact fzL_ints _ | exact fzL_strs _ | exact fz_ints _ | exact fz_strs _), ?_⟩; conv => whnf) | (refine ⟨_, rfl, ?_⟩; conv => whnf) | (refine And.intro rfl ?_; conv => whnf) | (refine And.intro (by first | assumption | decide | omega) ?_; conv => whnf) | (refine And.intro (by first | assumption | rfl | exact fzL_ints _ | exact fzL_strs _ | exact fz_ints _ | exact fz_strs _) ?_; conv => whnf) | (refine And.intro (And.intro (by first | assumption | decide | omega) (by first | assumption | decide | omega)) ?_; conv => whnf) | (refine And.intro (And.intro (And.intro (by first | assumption | decide | omega) (by first | assumption | decide | omega)) (And.intro (by first | assumption | decide | omega) (by first | assumption | decide | omega))) ?_; conv => whnf) | (refine And.intro (And.intro (by first | assumption | rfl | exact fzL_ints _ | exact fzL_strs _ | exact fz_ints _ | exact fz_strs _) (And.intro (by first | assumption | rfl | exact fzL_ints _ | exact fzL_strs _ | exact fz_ints _ | exact fz_strs _) (by first | assumption | rfl | exact fzL_ints _ | exact fzL_strs _ | exact fz_ints _ | exact fz_strs _))) ?_; conv => whnf) | (refine And.intro (by first | exact Or.inl (by decide) | exact Or.inr (by decide)) ?_; conv => whnf) | (refine Or.inl (And.intro (by first | assumption | rfl | exact fzL_ints _ | exact fzL_strs _ | exact fz_ints _ | exact fz_strs _) ?_); conv => whnf) | (refine ⟨fun _ => ?_, fun z => Bool.noConfusion z⟩; conv => whnf) | (refine ⟨fun z => Bool.noConfusion z, fun _ => ?_⟩; conv => whnf) | (intro p0 z; rw [frz_lstp (by first | assumption | rfl | exact fzL_ints _ | exact fzL_strs _ | exact fz_ints _ | exact fz_strs _)] at z; subst z; conv => whnf) | (intro p0 z; rw [PV.fz_frz _ (by first | assumption | rfl | exact fzL_ints _ | exact fzL_strs _ | exact fz_ints _ | exact fz_strs _)] at z; subst z; conv => whnf))
        (first | refine isl_ok (x := .sS _) (by assumption) ?_ | refine isl_ok (x := .iI _) (by assumption) ?_ | refine isl_ok (x := .nN) (by assumption) ?_ | refine isl_ok (x := .tT) (by assumption) ?_ | refine isl_ok (x := .eE) (by assumption) ?_ | refine isl_ok (x := .uU) (by assumption) ?_ | refine isl_ok (x := .lL) (by assumption) ?_)
        (conv => whnf); repeat (first | (refine ⟨_, rfl, (by first | assumption | rfl | exact fzL_ints _ | exact fzL_strs _ | exact fz_ints _ | exact fz_strs _), ?_⟩; conv => whnf) | (refine ⟨_, rfl, ?_⟩; conv => whnf) | (refine And.intro rfl ?_; conv => whnf) | (refine And.intro (by first | assumption | decide | omega) ?_; conv => whnf) | (refine And.intro (by first | assumption | rfl | exact fzL_ints _ | exact fzL_strs _ | exact fz_ints _ | exact fz_strs _) ?_; conv => whnf) | (refine And.intro (And.intro (by first | assumption | decide | omega) (by first | assumption | decide | omega)) ?_; conv => whnf) | (refine And.intro (And.intro (And.intro (by first | assumption | decide | omega) (by first | assumption | decide | omega)) (And.intro (by first | assumption | decide | omega) (by first | assumption | decide | omega))) ?_; conv => whnf) | (refine And.intro (And.intro (by first | assumption | rfl | exact fzL_ints _ | exact fzL_strs _ | exact fz_ints _ | exact fz_strs _) (And.intro (by first | assumption | rfl | exact fzL_ints _ | exact fzL_strs _ | exact fz_ints _ | exact fz_strs _) (by first | assumption | rfl | exact fzL_ints _ | exact fzL_strs _ | exact fz_ints _ | exact fz_strs _))) ?_; conv => whnf) | (refine And.intro (by first | exact Or.inl (by decide) | exact Or.inr (by decide)) ?_; conv => whnf) | (refine Or.inl (And.intro (by first | assumption | rfl | exact fzL_ints _ | exact fzL_strs _ | exact fz_ints _ | exact fz_strs _) ?_); conv => whnf) | (refine ⟨fun _ => ?_, fun z => Bool.noConfusion z⟩; conv => whnf) | (refine ⟨fun z => Bool.noConfusion z, fun _ => ?_⟩; conv => whnf) | (intro p0 z; rw [frz_lstp (by first | assumption | rfl | exact fzL_ints _ | exact fzL_strs _ | exact fz_ints _ | exact fz_strs _)] at z; subst z; conv => whnf) | (intro p0 z; rw [PV.fz_frz _ (by first | assumption | rfl | exact fzL_ints _ | exact fzL_strs _ | exact fz_ints _ | exact fz_strs _)] at z; subst z; conv => whnf))
        (first | refine lil_ok (x := .sS _) (by assumption) ?_ | refine lil_ok (x := .iI _) (by assumption) ?_ | refine lil_ok (x := .nN) (by assumption) ?_ | refine lil_ok (x := .tT) (by assumption) ?_ | refine lil_ok (x := .eE) (by assumption) ?_ | refine lil_ok (x := .uU) (by assumption) ?_ | refine lil_ok (x := .lL) (by assumption) ?_)
        (conv => whnf); repeat (first | (refine ⟨_, rfl, (by first | assumption | rfl | exact fzL_ints _ | exact fzL_strs _ | exact fz_ints _ | exact fz_strs _), ?_⟩; conv => whnf) | (refine ⟨_, rfl, ?_⟩; conv => whnf) | (refine And.intro rfl ?_; conv => whnf) | (refine And.intro (by first | assumption | decide | omega) ?_; conv => whnf) | (refine And.intro (by first | assumption | rfl | exact fzL_ints _ | exact fzL_strs _ | exact fz_ints _ | exact fz_strs _) ?_; conv => whnf) | (refine And.intro (And.intro (by first | assumption | decide | omega) (by first | assumption | decide | omega)) ?_; conv => whnf) | (refine And.intro (And.intro (And.intro (by first | assumption | decide | omega) (by first | assumption | decide | omega)) (And.intro (by first | assumption | decide | omega) (by first | assumption | decide | omega))) ?_; conv => whnf) | (refine And.intro (And.intro (by first | assumption | rfl | exact fzL_ints _ | exact fzL_strs _ | exact fz_ints _ | exact fz_strs _) (And.intro (by first | assumption | rfl | exact fzL_ints _ | exact fzL_strs _ | exact fz_ints _ | exact fz_strs _) (by first | assumption | rfl | exact fzL_ints _ | exact fzL_strs _ | exact fz_ints _ | exact fz_strs _))) ?_; conv => whnf) | (refine And.intro (by first | exact Or.inl (by decide) | exact Or.inr (by decide)) ?_; conv => whnf) | (refine Or.inl (And.intro (by first | assumption | rfl | exact fzL_ints _ | exact fzL_strs _ | exact fz_ints _ | exact fz_strs _) ?_); conv => whnf) | (refine ⟨fun _ => ?_, fun z => Bool.noConfusion z⟩; conv => whnf) | (refine ⟨fun z => Bool.noConfusion z, fun _ => ?_⟩; conv => whnf) | (intro p0 z; rw [frz_lstp (by first | assumption | rfl | exact fzL_ints _ | exact fzL_strs _ | exact fz_ints _ | exact fz_strs _)] at z; subst z; conv => whnf) | (intro p0 z; rw [PV.fz_frz _ (by first | assumption | rfl | exact fzL_ints _ | exact fzL_strs _ | exact fz_ints _ | exact fz_strs _)] at z; subst z; conv => whnf))
        refine is_ok ?_
        (conv => whnf); repeat (first | (refine ⟨_, rfl, (by first | assumption | rfl | exact fzL_ints _ | exact fzL_strs _ | exact fz_ints _ | exact fz_strs _), ?_⟩; conv => whnf) | (refine ⟨_, rfl, ?_⟩; conv => whnf) | (refine And.intro rfl ?_; conv => whnf) | (refine And.intro (by first | assumption | decide | omega) ?_; conv => whnf) | (refine And.intro (by first | assumption | rfl | exact fzL_ints _ | exact fzL_strs _ | exact fz_ints _ | exact fz_strs _) ?_; conv => whnf) | (refine And.intro (And.intro (by first | assumption | decide | omega) (by first | assumption | decide | omega)) ?_; conv => whnf) | (refine And.intro (And.intro (And.intro (by first | assumption | decide | omega) (by first | assumption | decide | omega)) (And.intro (by first | assumption | decide | omega) (by first | assumption | decide | omega))) ?_; conv => whnf) | (refine And.intro (And.intro (by first | assumption | rfl | exact fzL_ints _ | exact fzL_strs _ | exact fz_ints _ | exact fz_strs _) (And.intro (by first | assumption | rfl | exact fzL_ints _ | exact fzL_strs _ | exact fz_ints _ | exact fz_strs _) (by first | assumption | rfl | exact fzL_ints _ | exact fzL_strs _ | exact fz_ints _ | exact fz_strs _))) ?_; conv => whnf) | (refine And.intro (by first | exact Or.inl (by decide) | exact Or.inr (by decide)) ?_; conv => whnf) | (refine Or.inl (And.intro (by first | assumption | rfl | exact fzL_ints _ | exact fzL_strs _ | exact fz_ints _ | exact fz_strs _) ?_); conv => whnf) | (refine ⟨fun _ => ?_, fun z => Bool.noConfusion z⟩; conv => whnf) | (refine ⟨fun z => Bool.noConfusion z, fun _ => ?_⟩; conv => whnf) | (intro p0 z; rw [frz_lstp (by first | assumption | rfl | exact fzL_ints _ | exact fzL_strs _ | exact fz_ints _ | exact fz_strs _)] at z; subst z; conv => whnf) | (intro p0 z; rw [PV.fz_frz _ (by first | assumption | rfl | exact fzL_ints _ | exact fzL_strs _ | exact fz_ints _ | exact fz_strs _)] at z; subst z; conv => whnf))
        refine ⟨fun hk => by simp at hk, fun _ => ?_⟩
        (conv => whnf); repeat (first | (refine ⟨_, rfl, (by first | assumption | rfl | exact fzL_ints _ | exact fzL_strs _ | exact fz_ints _ | exact fz_strs _), ?_⟩; conv => whnf) | (refine ⟨_, rfl, ?_⟩; conv => whnf) | (refine And.intro rfl ?_; conv => whnf) | (refine And.intro (by first | assumption | decide | omega) ?_; conv => whnf) | (refine And.intro (by first | assumption | rfl | exact fzL_ints _ | exact fzL_strs _ | exact fz_ints _ | exact fz_strs _) ?_; conv => whnf) | (refine And.intro (And.intro (by first | assumption | decide | omega) (by first | assumption | decide | omega)) ?_; conv => whnf) | (refine And.intro (And.intro (And.intro (by first | assumption | decide | omega) (by first | assumption | decide | omega)) (And.intro (by first | assumption | decide | omega) (by first | assumption | decide | omega))) ?_; conv => whnf) | (refine And.intro (And.intro (by first | assumption | rfl | exact fzL_ints _ | exact fzL_strs _ | exact fz_ints _ | exact fz_strs _) (And.intro (by first | assumption | rfl | exact fzL_ints _ | exact fzL_strs _ | exact fz_ints _ | exact fz_strs _) (by first | assumption | rfl | exact fzL_ints _ | exact fzL_strs _ | exact fz_ints _ | exact fz_strs _))) ?_; conv => whnf) | (refine And.intro (by first | exact Or.inl (by decide) | exact Or.inr (by decide)) ?_; conv => whnf) | (refine Or.inl (And.intro (by first | assumption | rfl | exact fzL_ints _ | exact fzL_strs _ | exact fz_ints _ | exact fz_strs _) ?_); conv => whnf) | (refine ⟨fun _ => ?_, fun z => Bool.noConfusion z⟩; conv => whnf) | (refine ⟨fun z => Bool.noConfusion z, fun _ => ?_⟩; conv => whnf) | (intro p0 z; rw [frz_lstp (by first | assumption | rfl | exact fzL_ints _ | exact fzL_strs _ | exact fz_ints _ | exact fz_strs _)] at z; subst z; conv => whnf) | (intro p0 z; rw [PV.fz_frz _ (by first | assumption | rfl | exact fzL_ints _ | exact fzL_strs _ | exact fz_ints _ | exact fz_strs _)] at z; subst z; conv => whnf))
        exact ⟨ys, _, rfl, hb, rfl⟩
      all_goals
        (conv => whnf); repeat (first | (refine ⟨_, rfl, (by first | assumption | rfl | exact fzL_ints _ | exact fzL_strs _ | exact fz_ints _ | exact fz_strs _), ?_⟩; conv => whnf) | (refine ⟨_, rfl, ?_⟩; conv => whnf) | (refine And.intro rfl ?_; conv => whnf) | (refine And.intro (by first | assumption | decide | omega) ?_; conv => whnf) | (refine And.intro (by first | assumption | rfl | exact fzL_ints _ | exact fzL_strs _ | exact fz_ints _ | exact fz_strs _) ?_; conv => whnf) | (refine And.intro (And.intro (by first | assumption | decide | omega) (by first | assumption | decide | omega)) ?_; conv => whnf) | (refine And.intro (And.intro (And.intro (by first | assumption | decide | omega) (by first | assumption | decide | omega)) (And.intro (by first | assumption | decide | omega) (by first | assumption | decide | omega))) ?_; conv => whnf) | (refine And.intro (And.intro (by first | assumption | rfl | exact fzL_ints _ | exact fzL_strs _ | exact fz_ints _ | exact fz_strs _) (And.intro (by first | assumption | rfl | exact fzL_ints _ | exact fzL_strs _ | exact fz_ints _ | exact fz_strs _) (by first | assumption | rfl | exact fzL_ints _ | exact fzL_strs _ | exact fz_ints _ | exact fz_strs _))) ?_; conv => whnf) | (refine And.intro (by first | exact Or.inl (by decide) | exact Or.inr (by decide)) ?_; conv => whnf) | (refine Or.inl (And.intro (by first | assumption | rfl | exact fzL_ints _ | exact fzL_strs _ | exact fz_ints _ | exact fz_strs _) ?_); conv => whnf) | (refine ⟨fun _ => ?_, fun z => Bool.noConfusion z⟩; conv => whnf) | (refine ⟨fun z => Bool.noConfusion z, fun _ => ?_⟩; conv => whnf) | (intro p0 z; rw [frz_lstp (by first | assumption | rfl | exact fzL_ints _ | exact fzL_strs _ | exact fz_ints _ | exact fz_strs _)] at z; subst z; conv => whnf) | (intro p0 z; rw [PV.fz_frz _ (by first | assumption | rfl | exact fzL_ints _ | exact fzL_strs _ | exact fz_ints _ | exact fz_strs _)] at z; subst z; conv => whnf))
        (first | refine isl_ok (x := .sS _) (by assumption) ?_ | refine isl_ok (x := .iI _) (by assumption) ?_ | refine isl_ok (x := .nN) (by assumption) ?_ | refine isl_ok (x := .tT) (by assumption) ?_ | refine isl_ok (x := .eE) (by assumption) ?_ | refine isl_ok (x := .uU) (by assumption) ?_ | refine isl_ok (x := .lL) (by assumption) ?_)
        (conv => whnf); repeat (first | (refine ⟨_, rfl, (by first | assumption | rfl | exact fzL_ints _ | exact fzL_strs _ | exact fz_ints _ | exact fz_strs _), ?_⟩; conv => whnf) | (refine ⟨_, rfl, ?_⟩; conv => whnf) | (refine And.intro rfl ?_; conv => whnf) | (refine And.intro (by first | assumption | decide | omega) ?_; conv => whnf) | (refine And.intro (by first | assumption | rfl | exact fzL_ints _ | exact fzL_strs _ | exact fz_ints _ | exact fz_strs _) ?_; conv => whnf) | (refine And.intro (And.intro (by first | assumption | decide | omega) (by first | assumption | decide | omega)) ?_; conv => whnf) | (refine And.intro (And.intro (And.intro (by first | assumption | decide | omega) (by first | assumption | decide | omega)) (And.intro (by first | assumption | decide | omega) (by first | assumption | decide | omega))) ?_; conv => whnf) | (refine And.intro (And.intro (by first | assumption | rfl | exact fzL_ints _ | exact fzL_strs _ | exact fz_ints _ | exact fz_strs _) (And.intro (by first | assumption | rfl | exact fzL_ints _ | exact fzL_strs _ | exact fz_ints _ | exact fz_strs _) (by first | assumption | rfl | exact fzL_ints _ | exact fzL_strs _ | exact fz_ints _ | exact fz_strs _))) ?_; conv => whnf) | (refine And.intro (by first | exact Or.inl (by decide) | exact Or.inr (by decide)) ?_; conv => whnf) | (refine Or.inl (And.intro (by first | assumption | rfl | exact fzL_ints _ | exact fzL_strs _ | exact fz_ints _ | exact fz_strs _) ?_); conv => whnf) | (refine ⟨fun _ => ?_, fun z => Bool.noConfusion z⟩; conv => whnf) | (refine ⟨fun z => Bool.noConfusion z, fun _ => ?_⟩; conv => whnf) | (intro p0 z; rw [frz_lstp (by first | assumption | rfl | exact fzL_ints _ | exact fzL_strs _ | exact fz_ints _ | exact fz_strs _)] at z; subst z; conv => whnf) | (intro p0 z; rw [PV.fz_frz _ (by first | assumption | rfl | exact fzL_ints _ | exact fzL_strs _ | exact fz_ints _ | exact fz_strs _)] at z; subst z; conv => whnf))
        (first | refine lil_ok (x := .sS _) (by assumption) ?_ | refine lil_ok (x := .iI _) (by assumption) ?_ | refine lil_ok (x := .nN) (by assumption) ?_ | refine lil_ok (x := .tT) (by assumption) ?_ | refine lil_ok (x := .eE) (by assumption) ?_ | refine lil_ok (x := .uU) (by assumption) ?_ | refine lil_ok (x := .lL) (by assumption) ?_)
        (conv => whnf); repeat (first | (refine ⟨_, rfl, (by first | assumption | rfl | exact fzL_ints _ | exact fzL_strs _ | exact fz_ints _ | exact fz_strs _), ?_⟩; conv => whnf) | (refine ⟨_, rfl, ?_⟩; conv => whnf) | (refine And.intro rfl ?_; conv => whnf) | (refine And.intro (by first | assumption | decide | omega) ?_; conv => whnf) | (refine And.intro (by first | assumption | rfl | exact fzL_ints _ | exact fzL_strs _ | exact fz_ints _ | exact fz_strs _) ?_; conv => whnf) | (refine And.intro (And.intro (by first | assumption | decide | omega) (by first | assumption | decide | omega)) ?_; conv => whnf) | (refine And.intro (And.intro (And.intro (by first | assumption | decide | omega) (by first | assumption | decide | omega)) (And.intro (by first | assumption | decide | omega) (by first | assumption | decide | omega))) ?_; conv => whnf) | (refine And.intro (And.intro (by first | assumption | rfl | exact fzL_ints _ | exact fzL_strs _ | exact fz_ints _ | exact fz_strs _) (And.intro (by first | assumption | rfl | exact fzL_ints _ | exact fzL_strs _ | exact fz_ints _ | exact fz_strs _) (by first | assumption | rfl | exact fzL_ints _ | exact fzL_strs _ | exact fz_ints _ | exact fz_strs _))) ?_; conv => whnf) | (refine And.intro (by first | exact Or.inl (by decide) | exact Or.inr (by decide)) ?_; conv => whnf) | (refine Or.inl (And.intro (by first | assumption | rfl | exact fzL_ints _ | exact fzL_strs _ | exact fz_ints _ | exact fz_strs _) ?_); conv => whnf) | (refine ⟨fun _ => ?_, fun z => Bool.noConfusion z⟩; conv => whnf) | (refine ⟨fun z => Bool.noConfusion z, fun _ => ?_⟩; conv => whnf) | (intro p0 z; rw [frz_lstp (by first | assumption | rfl | exact fzL_ints _ | exact fzL_strs _ | exact fz_ints _ | exact fz_strs _)] at z; subst z; conv => whnf) | (intro p0 z; rw [PV.fz_frz _ (by first | assumption | rfl | exact fzL_ints _ | exact fzL_strs _ | exact fz_ints _ | exact fz_strs _)] at z; subst z; conv => whnf))
        refine is_ok ?_
        (conv => whnf); repeat (first | (refine ⟨_, rfl, (by first | assumption | rfl | exact fzL_ints _ | exact fzL_strs _ | exact fz_ints _ | exact fz_strs _), ?_⟩; conv => whnf) | (refine ⟨_, rfl, ?_⟩; conv => whnf) | (refine And.intro rfl ?_; conv => whnf) | (refine And.intro (by first | assumption | decide | omega) ?_; conv => whnf) | (refine And.intro (by first | assumption | rfl | exact fzL_ints _ | exact fzL_strs _ | exact fz_ints _ | exact fz_strs _) ?_; conv => whnf) | (refine And.intro (And.intro (by first | assumption | decide | omega) (by first | assumption | decide | omega)) ?_; conv => whnf) | (refine And.intro (And.intro (And.intro (by first | assumption | decide | omega) (by first | assumption | decide | omega)) (And.intro (by first | assumption | decide | omega) (by first | assumption | decide | omega))) ?_; conv => whnf) | (refine And.intro (And.intro (by first | assumption | rfl | exact fzL_ints _ | exact fzL_strs _ | exact fz_ints _ | exact fz_strs _) (And.intro (by first | assumption | rfl | exact fzL_ints _ | exact fzL_strs _ | exact fz_ints _ | exact fz_strs _) (by first | assumption | rfl | exact fzL_ints _ | exact fzL_strs _ | exact fz_ints _ | exact fz_strs _))) ?_; conv => whnf) | (refine And.intro (by first | exact Or.inl (by decide) | exact Or.inr (by decide)) ?_; conv => whnf) | (refine Or.inl (And.intro (by first | assumption | rfl | exact fzL_ints _ | exact fzL_strs _ | exact fz_ints _ | exact fz_strs _) ?_); conv => whnf) | (refine ⟨fun _ => ?_, fun z => Bool.noConfusion z⟩; conv => whnf) | (refine ⟨fun z => Bool.noConfusion z, fun _ => ?_⟩; conv => whnf) | (intro p0 z; rw [frz_lstp (by first | assumption | rfl | exact fzL_ints _ | exact fzL_strs _ | exact fz_ints _ | exact fz_strs _)] at z; subst z; conv => whnf) | (intro p0 z; rw [PV.fz_frz _ (by first | assumption | rfl | exact fzL_ints _ | exact fzL_strs _ | exact fz_ints _ | exact fz_strs _)] at z; subst z; conv => whnf))
        exact ⟨ys, _, rfl, hb, rfl⟩
  rintro _ ⟨ys, z3, e1, h1, rfl⟩
  clear e1 h1 ys
  (conv => whnf); repeat (first | (refine ⟨_, rfl, (by first | assumption | rfl | exact fzL_ints _ | exact fzL_strs _ | exact fz_ints _ | exact fz_strs _), ?_⟩; conv => whnf) | (refine ⟨_, rfl, ?_⟩; conv => whnf) | (refine And.intro rfl ?_; conv => whnf) | (refine And.intro (by first | assumption | decide | omega) ?_; conv => whnf) | (refine And.intro (by first | assumption | rfl | exact fzL_ints _ | exact fzL_strs _ | exact fz_ints _ | exact fz_strs _) ?_; conv => whnf) | (refine And.intro (And.intro (by first | assumption | decide | omega) (by first | assumption | decide | omega)) ?_; conv => whnf) | (refine And.intro (And.intro (And.intro (by first | assumption | decide | omega) (by first | assumption | decide | omega)) (And.intro (by first | assumption | decide | omega) (by first | assumption | decide | omega))) ?_; conv => whnf) | (refine And.intro (And.intro (by first | assumption | rfl | exact fzL_ints _ | exact fzL_strs _ | exact fz_ints _ | exact fz_strs _) (And.intro (by first | assumption | rfl | exact fzL_ints _ | exact fzL_strs _ | exact fz_ints _ | exact fz_strs _) (by first | assumption | rfl | exact fzL_ints _ | exact fzL_strs _ | exact fz_ints _ | exact fz_strs _))) ?_; conv => whnf) | (refine And.intro (by first | exact Or.inl (by decide) | exact Or.inr (by decide)) ?_; conv => whnf) | (refine Or.inl (And.intro (by first | assumption | rfl | exact fzL_ints _ | exact fzL_strs _ | exact fz_ints _ | exact fz_strs _) ?_); conv => whnf) | (refine ⟨fun _ => ?_, fun z => Bool.noConfusion z⟩; conv => whnf) | (refine ⟨fun z => Bool.noConfusion z, fun _ => ?_⟩; conv => whnf) | (intro p0 z; rw [frz_lstp (by first | assumption | rfl | exact fzL_ints _ | exact fzL_strs _ | exact fz_ints _ | exact fz_strs _)] at z; subst z; conv => whnf) | (intro p0 z; rw [PV.fz_frz _ (by first | assumption | rfl | exact fzL_ints _ | exact fzL_strs _ | exact fz_ints _ | exact fz_strs _)] at z; subst z; conv => whnf))
  refine draw_ok T_draw hc (by decide) (lg (by decide) (by decide)) fun d i1 r1 k1 d0 d1 => ?_
  (conv => whnf); repeat (first | (refine ⟨_, rfl, (by first | assumption | rfl | exact fzL_ints _ | exact fzL_strs _ | exact fz_ints _ | exact fz_strs _), ?_⟩; conv => whnf) | (refine ⟨_, rfl, ?_⟩; conv => whnf) | (refine And.intro rfl ?_; conv => whnf) | (refine And.intro (by first | assumption | decide | omega) ?_; conv => whnf) | (refine And.intro (by first | assumption | rfl | exact fzL_ints _ | exact fzL_strs _ | exact fz_ints _ | exact fz_strs _) ?_; conv => whnf) | (refine And.intro (And.intro (by first | assumption | decide | omega) (by first | assumption | decide | omega)) ?_; conv => whnf) | (refine And.intro (And.intro (And.intro (by first | assumption | decide | omega) (by first | assumption | decide | omega)) (And.intro (by first | assumption | decide | omega) (by first | assumption | decide | omega))) ?_; conv => whnf) | (refine And.intro (And.intro (by first | assumption | rfl | exact fzL_ints _ | exact fzL_strs _ | exact fz_ints _ | exact fz_strs _) (And.intro (by first | assumption | rfl | exact fzL_ints _ | exact fzL_strs _ | exact fz_ints _ | exact fz_strs _) (by first | assumption | rfl | exact fzL_ints _ | exact fzL_strs _ | exact fz_ints _ | exact fz_strs _))) ?_; conv => whnf) | (refine And.intro (by first | exact Or.inl (by decide) | exact Or.inr (by decide)) ?_; conv => whnf) | (refine Or.inl (And.intro (by first | assumption | rfl | exact fzL_ints _ | exact fzL_strs _ | exact fz_ints _ | exact fz_strs _) ?_); conv => whnf) | (refine ⟨fun _ => ?_, fun z => Bool.noConfusion z⟩; conv => whnf) | (refine ⟨fun z => Bool.noConfusion z, fun _ => ?_⟩; conv => whnf) | (intro p0 z; rw [frz_lstp (by first | assumption | rfl | exact fzL_ints _ | exact fzL_strs _ | exact fz_ints _ | exact fz_strs _)] at z; subst z; conv => whnf) | (intro p0 z; rw [PV.fz_frz _ (by first | assumption | rfl | exact fzL_ints _ | exact fzL_strs _ | exact fz_ints _ | exact fz_strs _)] at z; subst z; conv => whnf))
  refine zK_in (fun rest acc ρ => ∃ (i r k : Int) (ls : List Th), acc = ls.map Th.p ∧ ls.length + rest.length = d.toNat ∧ (∀ x ∈ ls, x.ok) ∧ ρ = [some (.lck (ns.map .int)), some (potP cs i r k), some (.lst false (xs.map Th.p)), z3, none, none, none, none, none, none, none]) ?_ ?_ ?_
  · exact ⟨_, _, _, [], rfl, by simp [rng_len], by simp, rfl⟩
  rotate_left
  · rintro x rest acc _ ⟨i, r, k, ls, rfl, b1, b2, rfl⟩
    refine ⟨_, rfl, ?_⟩
    (conv => whnf); repeat (first | (refine ⟨_, rfl, (by first | assumption | rfl | exact fzL_ints _ | exact fzL_strs _ | exact fz_ints _ | exact fz_strs _), ?_⟩; conv => whnf) | (refine ⟨_, rfl, ?_⟩; conv => whnf) | (refine And.intro rfl ?_; conv => whnf) | (refine And.intro (by first | assumption | decide | omega) ?_; conv => whnf) | (refine And.intro (by first | assumption | rfl | exact fzL_ints _ | exact fzL_strs _ | exact fz_ints _ | exact fz_strs _) ?_; conv => whnf) | (refine And.intro (And.intro (by first | assumption | decide | omega) (by first | assumption | decide | omega)) ?_; conv => whnf) | (refine And.intro (And.intro (And.intro (by first | assumption | decide | omega) (by first | assumption | decide | omega)) (And.intro (by first | assumption | decide | omega) (by first | assumption | decide | omega))) ?_; conv => whnf) | (refine And.intro (And.intro (by first | assumption | rfl | exact fzL_ints _ | exact fzL_strs _ | exact fz_ints _ | exact fz_strs _) (And.intro (by first | assumption | rfl | exact fzL_ints _ | exact fzL_strs _ | exact fz_ints _ | exact fz_strs _) (by first | assumption | rfl | exact fzL_ints _ | exact fzL_strs _ | exact fz_ints _ | exact fz_strs _))) ?_; conv => whnf) | (refine And.intro (by first | exact Or.inl (by decide) | exact Or.inr (by decide)) ?_; conv => whnf) | (refine Or.inl (And.intro (by first | assumption | rfl | exact fzL_ints _ | exact fzL_strs _ | exact fz_ints _ | exact fz_strs _) ?_); conv => whnf) | (refine ⟨fun _ => ?_, fun z => Bool.noConfusion z⟩; conv => whnf) | (refine ⟨fun z => Bool.noConfusion z, fun _ => ?_⟩; conv => whnf) | (intro p0 z; rw [frz_lstp (by first | assumption | rfl | exact fzL_ints _ | exact fzL_strs _ | exact fz_ints _ | exact fz_strs _)] at z; subst z; conv => whnf) | (intro p0 z; rw [PV.fz_frz _ (by first | assumption | rfl | exact fzL_ints _ | exact fzL_strs _ | exact fz_ints _ | exact fz_strs _)] at z; subst z; conv => whnf))
    refine text_ok T_draw T_text hc (by decide) (by decide) fun t i3 r3 k3 ht => ?_
    refine ⟨_, rfl, by rw [List.length_map]; exact small_lt (show _ ≤ 40 by simp at b1; omega), _, _, _, ls ++ [.sS t], by simp [PV.frz, Th.p], by simp at b1 ⊢; omega, fun y hy => ?_, rfl⟩
    rcases mem_app_one hy with h | rfl
    · exact b2 y h
    · exact (plain_ok (m := 80) ht).mono (by decide)
  rintro _ _ ⟨i, r, k, ls, rfl, b1, b2, rfl⟩
  have b1 : ls.length = d.toNat := by simpa using b1
  (conv => whnf); repeat (first | (refine ⟨_, rfl, (by first | assumption | rfl | exact fzL_ints _ | exact fzL_strs _ | exact fz_ints _ | exact fz_strs _), ?_⟩; conv => whnf) | (refine ⟨_, rfl, ?_⟩; conv => whnf) | (refine And.intro rfl ?_; conv => whnf) | (refine And.intro (by first | assumption | decide | omega) ?_; conv => whnf) | (refine And.intro (by first | assumption | rfl | exact fzL_ints _ | exact fzL_strs _ | exact fz_ints _ | exact fz_strs _) ?_; conv => whnf) | (refine And.intro (And.intro (by first | assumption | decide | omega) (by first | assumption | decide | omega)) ?_; conv => whnf) | (refine And.intro (And.intro (And.intro (by first | assumption | decide | omega) (by first | assumption | decide | omega)) (And.intro (by first | assumption | decide | omega) (by first | assumption | decide | omega))) ?_; conv => whnf) | (refine And.intro (And.intro (by first | assumption | rfl | exact fzL_ints _ | exact fzL_strs _ | exact fz_ints _ | exact fz_strs _) (And.intro (by first | assumption | rfl | exact fzL_ints _ | exact fzL_strs _ | exact fz_ints _ | exact fz_strs _) (by first | assumption | rfl | exact fzL_ints _ | exact fzL_strs _ | exact fz_ints _ | exact fz_strs _))) ?_; conv => whnf) | (refine And.intro (by first | exact Or.inl (by decide) | exact Or.inr (by decide)) ?_; conv => whnf) | (refine Or.inl (And.intro (by first | assumption | rfl | exact fzL_ints _ | exact fzL_strs _ | exact fz_ints _ | exact fz_strs _) ?_); conv => whnf) | (refine ⟨fun _ => ?_, fun z => Bool.noConfusion z⟩; conv => whnf) | (refine ⟨fun z => Bool.noConfusion z, fun _ => ?_⟩; conv => whnf) | (intro p0 z; rw [frz_lstp (by first | assumption | rfl | exact fzL_ints _ | exact fzL_strs _ | exact fz_ints _ | exact fz_strs _)] at z; subst z; conv => whnf) | (intro p0 z; rw [PV.fz_frz _ (by first | assumption | rfl | exact fzL_ints _ | exact fzL_strs _ | exact fz_ints _ | exact fz_strs _)] at z; subst z; conv => whnf))
  refine draw_ok T_draw hc (by decide) (lg (by decide) (by decide)) fun d4 i4 r4 k4 e0 e1 => ?_
  (conv => whnf); repeat (first | (refine ⟨_, rfl, (by first | assumption | rfl | exact fzL_ints _ | exact fzL_strs _ | exact fz_ints _ | exact fz_strs _), ?_⟩; conv => whnf) | (refine ⟨_, rfl, ?_⟩; conv => whnf) | (refine And.intro rfl ?_; conv => whnf) | (refine And.intro (by first | assumption | decide | omega) ?_; conv => whnf) | (refine And.intro (by first | assumption | rfl | exact fzL_ints _ | exact fzL_strs _ | exact fz_ints _ | exact fz_strs _) ?_; conv => whnf) | (refine And.intro (And.intro (by first | assumption | decide | omega) (by first | assumption | decide | omega)) ?_; conv => whnf) | (refine And.intro (And.intro (And.intro (by first | assumption | decide | omega) (by first | assumption | decide | omega)) (And.intro (by first | assumption | decide | omega) (by first | assumption | decide | omega))) ?_; conv => whnf) | (refine And.intro (And.intro (by first | assumption | rfl | exact fzL_ints _ | exact fzL_strs _ | exact fz_ints _ | exact fz_strs _) (And.intro (by first | assumption | rfl | exact fzL_ints _ | exact fzL_strs _ | exact fz_ints _ | exact fz_strs _) (by first | assumption | rfl | exact fzL_ints _ | exact fzL_strs _ | exact fz_ints _ | exact fz_strs _))) ?_; conv => whnf) | (refine And.intro (by first | exact Or.inl (by decide) | exact Or.inr (by decide)) ?_; conv => whnf) | (refine Or.inl (And.intro (by first | assumption | rfl | exact fzL_ints _ | exact fzL_strs _ | exact fz_ints _ | exact fz_strs _) ?_); conv => whnf) | (refine ⟨fun _ => ?_, fun z => Bool.noConfusion z⟩; conv => whnf) | (refine ⟨fun z => Bool.noConfusion z, fun _ => ?_⟩; conv => whnf) | (intro p0 z; rw [frz_lstp (by first | assumption | rfl | exact fzL_ints _ | exact fzL_strs _ | exact fz_ints _ | exact fz_strs _)] at z; subst z; conv => whnf) | (intro p0 z; rw [PV.fz_frz _ (by first | assumption | rfl | exact fzL_ints _ | exact fzL_strs _ | exact fz_ints _ | exact fz_strs _)] at z; subst z; conv => whnf))
  refine ⟨fun hk => ?_, fun hk => ?_⟩
  · (conv => whnf); repeat (first | (refine ⟨_, rfl, (by first | assumption | rfl | exact fzL_ints _ | exact fzL_strs _ | exact fz_ints _ | exact fz_strs _), ?_⟩; conv => whnf) | (refine ⟨_, rfl, ?_⟩; conv => whnf) | (refine And.intro rfl ?_; conv => whnf) | (refine And.intro (by first | assumption | decide | omega) ?_; conv => whnf) | (refine And.intro (by first | assumption | rfl | exact fzL_ints _ | exact fzL_strs _ | exact fz_ints _ | exact fz_strs _) ?_; conv => whnf) | (refine And.intro (And.intro (by first | assumption | decide | omega) (by first | assumption | decide | omega)) ?_; conv => whnf) | (refine And.intro (And.intro (And.intro (by first | assumption | decide | omega) (by first | assumption | decide | omega)) (And.intro (by first | assumption | decide | omega) (by first | assumption | decide | omega))) ?_; conv => whnf) | (refine And.intro (And.intro (by first | assumption | rfl | exact fzL_ints _ | exact fzL_strs _ | exact fz_ints _ | exact fz_strs _) (And.intro (by first | assumption | rfl | exact fzL_ints _ | exact fzL_strs _ | exact fz_ints _ | exact fz_strs _) (by first | assumption | rfl | exact fzL_ints _ | exact fzL_strs _ | exact fz_ints _ | exact fz_strs _))) ?_; conv => whnf) | (refine And.intro (by first | exact Or.inl (by decide) | exact Or.inr (by decide)) ?_; conv => whnf) | (refine Or.inl (And.intro (by first | assumption | rfl | exact fzL_ints _ | exact fzL_strs _ | exact fz_ints _ | exact fz_strs _) ?_); conv => whnf) | (refine ⟨fun _ => ?_, fun z => Bool.noConfusion z⟩; conv => whnf) | (refine ⟨fun z => Bool.noConfusion z, fun _ => ?_⟩; conv => whnf) | (intro p0 z; rw [frz_lstp (by first | assumption | rfl | exact fzL_ints _ | exact fzL_strs _ | exact fz_ints _ | exact fz_strs _)] at z; subst z; conv => whnf) | (intro p0 z; rw [PV.fz_frz _ (by first | assumption | rfl | exact fzL_ints _ | exact fzL_strs _ | exact fz_ints _ | exact fz_strs _)] at z; subst z; conv => whnf))
    refine draw_ok T_draw hc (by decide) (lg (by decide) (by decide)) fun c i5 r5 k5 f0 f1 => ?_
    (conv => whnf); repeat (first | (refine ⟨_, rfl, (by first | assumption | rfl | exact fzL_ints _ | exact fzL_strs _ | exact fz_ints _ | exact fz_strs _), ?_⟩; conv => whnf) | (refine ⟨_, rfl, ?_⟩; conv => whnf) | (refine And.intro rfl ?_; conv => whnf) | (refine And.intro (by first | assumption | decide | omega) ?_; conv => whnf) | (refine And.intro (by first | assumption | rfl | exact fzL_ints _ | exact fzL_strs _ | exact fz_ints _ | exact fz_strs _) ?_; conv => whnf) | (refine And.intro (And.intro (by first | assumption | decide | omega) (by first | assumption | decide | omega)) ?_; conv => whnf) | (refine And.intro (And.intro (And.intro (by first | assumption | decide | omega) (by first | assumption | decide | omega)) (And.intro (by first | assumption | decide | omega) (by first | assumption | decide | omega))) ?_; conv => whnf) | (refine And.intro (And.intro (by first | assumption | rfl | exact fzL_ints _ | exact fzL_strs _ | exact fz_ints _ | exact fz_strs _) (And.intro (by first | assumption | rfl | exact fzL_ints _ | exact fzL_strs _ | exact fz_ints _ | exact fz_strs _) (by first | assumption | rfl | exact fzL_ints _ | exact fzL_strs _ | exact fz_ints _ | exact fz_strs _))) ?_; conv => whnf) | (refine And.intro (by first | exact Or.inl (by decide) | exact Or.inr (by decide)) ?_; conv => whnf) | (refine Or.inl (And.intro (by first | assumption | rfl | exact fzL_ints _ | exact fzL_strs _ | exact fz_ints _ | exact fz_strs _) ?_); conv => whnf) | (refine ⟨fun _ => ?_, fun z => Bool.noConfusion z⟩; conv => whnf) | (refine ⟨fun z => Bool.noConfusion z, fun _ => ?_⟩; conv => whnf) | (intro p0 z; rw [frz_lstp (by first | assumption | rfl | exact fzL_ints _ | exact fzL_strs _ | exact fz_ints _ | exact fz_strs _)] at z; subst z; conv => whnf) | (intro p0 z; rw [PV.fz_frz _ (by first | assumption | rfl | exact fzL_ints _ | exact fzL_strs _ | exact fz_ints _ | exact fz_strs _)] at z; subst z; conv => whnf))
    refine zF_in (fun rest ρ => ∃ (i r k : Int) (ls : List Th) (j : Int) (m : Nat) (z9 z10 : Option PV), rest = rngI j m ∧ 0 ≤ j ∧ j + m ≤ 2 ∧ ls.length + m ≤ 33 ∧ (∀ x ∈ ls, x.ok) ∧ ρ = [some (.lck (ns.map .int)), some (potP cs i r k), some (.lst false (xs.map Th.p)), z3, some (.lst true (ls.map Th.p)), none, none, none, none, z9, z10]) ?_ ?_ ?_
    · exact ⟨_, _, _, ls, 0, (1 + c).toNat, none, none, rfl, by omega, by omega, by omega, b2, rfl⟩
    rotate_left
    · rintro x rest _ ⟨i, r, k, ls, j, m, z9, z10, e1, g0, g1, g2, g3, rfl⟩
      obtain ⟨m', rfl, rfl, rfl⟩ := rng_cons e1
      have hfl : PV.fzL (ls.map Th.p) = true := fzL_p ls
      have hlen : (ls.map Th.p).length = ls.length := List.length_map ..
      refine ⟨[some (.lck (ns.map .int)), some (potP cs i r k), some (.lst false (xs.map Th.p)), z3, some (.lst true (ls.map Th.p)), none, none, none, none, some (.int j), z10], rfl, ?_⟩
      (conv => whnf); repeat (first | (refine ⟨_, rfl, (by first | assumption | rfl | exact fzL_ints _ | exact fzL_strs _ | exact fz_ints _ | exact fz_strs _), ?_⟩; conv => whnf) | (refine ⟨_, rfl, ?_⟩; conv => whnf) | (refine And.intro rfl ?_; conv => whnf) | (refine And.intro (by first | assumption | decide | omega) ?_; conv => whnf) | (refine And.intro (by first | assumption | rfl | exact fzL_ints _ | exact fzL_strs _ | exact fz_ints _ | exact fz_strs _) ?_; conv => whnf) | (refine And.intro (And.intro (by first | assumption | decide | omega) (by first | assumption | decide | omega)) ?_; conv => whnf) | (refine And.intro (And.intro (And.intro (by first | assumption | decide | omega) (by first | assumption | decide | omega)) (And.intro (by first | assumption | decide | omega) (by first | assumption | decide | omega))) ?_; conv => whnf) | (refine And.intro (And.intro (by first | assumption | rfl | exact fzL_ints _ | exact fzL_strs _ | exact fz_ints _ | exact fz_strs _) (And.intro (by first | assumption | rfl | exact fzL_ints _ | exact fzL_strs _ | exact fz_ints _ | exact fz_strs _) (by first | assumption | rfl | exact fzL_ints _ | exact fzL_strs _ | exact fz_ints _ | exact fz_strs _))) ?_; conv => whnf) | (refine And.intro (by first | exact Or.inl (by decide) | exact Or.inr (by decide)) ?_; conv => whnf) | (refine Or.inl (And.intro (by first | assumption | rfl | exact fzL_ints _ | exact fzL_strs _ | exact fz_ints _ | exact fz_strs _) ?_); conv => whnf) | (refine ⟨fun _ => ?_, fun z => Bool.noConfusion z⟩; conv => whnf) | (refine ⟨fun z => Bool.noConfusion z, fun _ => ?_⟩; conv => whnf) | (intro p0 z; rw [frz_lstp (by first | assumption | rfl | exact fzL_ints _ | exact fzL_strs _ | exact fz_ints _ | exact fz_strs _)] at z; subst z; conv => whnf) | (intro p0 z; rw [PV.fz_frz _ (by first | assumption | rfl | exact fzL_ints _ | exact fzL_strs _ | exact fz_ints _ | exact fz_strs _)] at z; subst z; conv => whnf))
      refine draw_ok T_draw hc (by omega) (lg (by omega) (by omega)) fun a i6 r6 k6 q0 q1 => ?_
      have hA : PV.fzL (cutP (ls.map Th.p) none (some a)) = true := by rw [cut_map]; exact fzL_p _
      have hB : PV.fzL (cutP (ls.map Th.p) (some a) none) = true := by rw [cut_map]; exact fzL_p _
      (conv => whnf); repeat (first | (refine ⟨_, rfl, (by first | assumption | rfl | exact fzL_ints _ | exact fzL_strs _ | exact fz_ints _ | exact fz_strs _), ?_⟩; conv => whnf) | (refine ⟨_, rfl, ?_⟩; conv => whnf) | (refine And.intro rfl ?_; conv => whnf) | (refine And.intro (by first | assumption | decide | omega) ?_; conv => whnf) | (refine And.intro (by first | assumption | rfl | exact fzL_ints _ | exact fzL_strs _ | exact fz_ints _ | exact fz_strs _) ?_; conv => whnf) | (refine And.intro (And.intro (by first | assumption | decide | omega) (by first | assumption | decide | omega)) ?_; conv => whnf) | (refine And.intro (And.intro (And.intro (by first | assumption | decide | omega) (by first | assumption | decide | omega)) (And.intro (by first | assumption | decide | omega) (by first | assumption | decide | omega))) ?_; conv => whnf) | (refine And.intro (And.intro (by first | assumption | rfl | exact fzL_ints _ | exact fzL_strs _ | exact fz_ints _ | exact fz_strs _) (And.intro (by first | assumption | rfl | exact fzL_ints _ | exact fzL_strs _ | exact fz_ints _ | exact fz_strs _) (by first | assumption | rfl | exact fzL_ints _ | exact fzL_strs _ | exact fz_ints _ | exact fz_strs _))) ?_; conv => whnf) | (refine And.intro (by first | exact Or.inl (by decide) | exact Or.inr (by decide)) ?_; conv => whnf) | (refine Or.inl (And.intro (by first | assumption | rfl | exact fzL_ints _ | exact fzL_strs _ | exact fz_ints _ | exact fz_strs _) ?_); conv => whnf) | (refine ⟨fun _ => ?_, fun z => Bool.noConfusion z⟩; conv => whnf) | (refine ⟨fun z => Bool.noConfusion z, fun _ => ?_⟩; conv => whnf) | (intro p0 z; rw [frz_lstp (by first | assumption | rfl | exact fzL_ints _ | exact fzL_strs _ | exact fz_ints _ | exact fz_strs _)] at z; subst z; conv => whnf) | (intro p0 z; rw [PV.fz_frz _ (by first | assumption | rfl | exact fzL_ints _ | exact fzL_strs _ | exact fz_ints _ | exact fz_strs _)] at z; subst z; conv => whnf))
      obtain ⟨hj, e⟩ := atI_get (f := Th.p) (xs := xs) g0 (by omega)
      have hok := a2 xs[j.toNat] (List.getElem_mem hj)
      generalize xs[j.toNat] = t at e hok
      have c1 := cut_len ls none (some a)
      have c2 := cut_len ls (some a) none
      have hT : PV.fzL [t.p] = true := by simp [PV.fzL, fz_p t]
      have hAT : PV.fzL (cutP (ls.map Th.p) none (some a) ++ [t.p]) = true := by rw [fzL_app, hA, hT]; rfl
      have s1 : okS ((cutP (ls.map Th.p) none (some a)).length + [t.p].length) = true := okS_of (by rw [cut_map, List.length_map, List.length_singleton]; omega)
      have s2 : okS ((cutP (ls.map Th.p) none (some a) ++ [t.p]).length + (cutP (ls.map Th.p) (some a) none).length) = true := okS_of (by rw [cut_map, cut_map, List.length_append, List.length_map, List.length_map, List.length_singleton]; omega)
      have hnew : cutP (ls.map Th.p) none (some a) ++ [t.p] ++ cutP (ls.map Th.p) (some a) none = (cutP ls none (some a) ++ [t] ++ cutP ls (some a) none).map Th.p := by rw [cut_map, cut_map]; simp
      have hnl : (cutP ls none (some a) ++ [t] ++ cutP ls (some a) none).length + m' ≤ 33 := by
        have : (cutP ls none (some a)).length + (cutP ls (some a) none).length ≤ ls.length := cut_two q0
        simp only [List.length_append, List.length_singleton]
        omega
      have hno : ∀ x ∈ cutP ls none (some a) ++ [t] ++ cutP ls (some a) none, x.ok := fun x hx => by
        rcases List.mem_append.mp hx with h | h
        · rcases mem_app_one h with h | rfl
          · exact g3 x (cut_mem h)
          · exact hok
        · exact g3 x (cut_mem h)
      refine ⟨_, e, fz_p t, ?_⟩
      have fin : ∃ (i r k : Int) (ls' : List Th) (j' : Int) (m'' : Nat) (z9 z10 : Option PV), rngI (j + 1) m' = rngI j' m'' ∧ 0 ≤ j' ∧ j' + m'' ≤ 2 ∧ ls'.length + m'' ≤ 33 ∧ (∀ x ∈ ls', x.ok) ∧ [some (.lck (ns.map .int)), some (potP cs i6 r6 k6), some (.lst false (xs.map Th.p)), z3, some (.lst true (cutP (ls.map Th.p) none (some a) ++ [t.p] ++ cutP (ls.map Th.p) (some a) none)), none, none, none, none, some (.int j), some (.int a)] = [some (.lck (ns.map .int)), some (potP cs i r k), some (.lst false (xs.map Th.p)), z3, some (.lst true (ls'.map Th.p)), none, none, none, none, z9, z10] :=
        ⟨i6, r6, k6, _, j + 1, m', _, _, rfl, by omega, by omega, hnl, hno, by rw [hnew]⟩
      cases t
      all_goals
        conv => whnf
        refine And.intro rfl ?_
        (conv => whnf); repeat (first | (refine ⟨_, rfl, (by first | assumption | rfl | exact fzL_ints _ | exact fzL_strs _ | exact fz_ints _ | exact fz_strs _), ?_⟩; conv => whnf) | (refine ⟨_, rfl, ?_⟩; conv => whnf) | (refine And.intro rfl ?_; conv => whnf) | (refine And.intro (by first | assumption | decide | omega) ?_; conv => whnf) | (refine And.intro (by first | assumption | rfl | exact fzL_ints _ | exact fzL_strs _ | exact fz_ints _ | exact fz_strs _) ?_; conv => whnf) | (refine And.intro (And.intro (by first | assumption | decide | omega) (by first | assumption | decide | omega)) ?_; conv => whnf) | (refine And.intro (And.intro (And.intro (by first | assumption | decide | omega) (by first | assumption | decide | omega)) (And.intro (by first | assumption | decide | omega) (by first | assumption | decide | omega))) ?_; conv => whnf) | (refine And.intro (And.intro (by first | assumption | rfl | exact fzL_ints _ | exact fzL_strs _ | exact fz_ints _ | exact fz_strs _) (And.intro (by first | assumption | rfl | exact fzL_ints _ | exact fzL_strs _ | exact fz_ints _ | exact fz_strs _) (by first | assumption | rfl | exact fzL_ints _ | exact fzL_strs _ | exact fz_ints _ | exact fz_strs _))) ?_; conv => whnf) | (refine And.intro (by first | exact Or.inl (by decide) | exact Or.inr (by decide)) ?_; conv => whnf) | (refine Or.inl (And.intro (by first | assumption | rfl | exact fzL_ints _ | exact fzL_strs _ | exact fz_ints _ | exact fz_strs _) ?_); conv => whnf) | (refine ⟨fun _ => ?_, fun z => Bool.noConfusion z⟩; conv => whnf) | (refine ⟨fun z => Bool.noConfusion z, fun _ => ?_⟩; conv => whnf) | (intro p0 z; rw [frz_lstp (by first | assumption | rfl | exact fzL_ints _ | exact fzL_strs _ | exact fz_ints _ | exact fz_strs _)] at z; subst z; conv => whnf) | (intro p0 z; rw [PV.fz_frz _ (by first | assumption | rfl | exact fzL_ints _ | exact fzL_strs _ | exact fz_ints _ | exact fz_strs _)] at z; subst z; conv => whnf))
        first
          | exact fin
          | (refine And.intro (And.intro s1 (And.intro hA hT)) ?_
             conv => whnf
             refine And.intro hfl ?_
             conv => whnf
             refine And.intro (And.intro s2 (And.intro hAT hB)) ?_
             conv => whnf
             exact fin)
    rintro _ ⟨i, r, k, ls, j, m, z9, z10, e1, g0, g1, g2, g3, rfl⟩
    exact mid_ok a2 a1 g3 (by omega)
  · conv => whnf
    exact mid_ok a2 a1 b2 (by omega)
theorem pure : ∀ ns : List Int, ns.length ≤ 63 → ∃ as, callN lw.T 100 10 "law" [.lck (ns.map .int)] = .ok (.bl true) as := fun ns hl => zC_true (law_ok (n := 5) hl)
end K01
end
set_option Elab.async false
set_option linter.all false
set_option maxRecDepth 100000
set_option maxHeartbeats 8000000
namespace K01
open PySem Y L2
theorem ents_of {K : PySem.W.Frag} {mg : Str → Option Value}
    (F0 : EntF K mg "is_line" (top 4) ["thing"])
    (F1 : EntF K mg "look_file" (top 5) ["lines"])
    (F2 : EntF K mg "_law_draw" (top 7) ["_law_pot_here", "_law_many"])
    (F3 : EntF K mg "_law_pot" (top 8) ["_law_script"])
    (F4 : EntF K mg "_law_text" (top 9) ["_law_pot_here", "_law_most"])
    (F5 : EntF K mg "_law_is" (top 10) ["_law_told", "_law_due"])
    (F6 : EntF K mg "_law_thing" (top 11) ["_law_pot_here"])
    (F7 : EntF K mg "_law_is_line" (top 12) ["_law_thing_here"])
    (F8 : EntF K mg "_law_index" (top 13) ["_law_call"])
    (F9 : EntF K mg "law" (top 14) ["_law_script"])
    : ∀ e ∈ lw.es, EntF K mg e.key e.st e.ps := fun e he => by
  simp only [lw, List.mem_cons, List.not_mem_nil, or_false] at he
  rcases he with rfl | rfl | rfl | rfl | rfl | rfl | rfl | rfl | rfl | rfl
  · exact F0
  · exact F1
  · exact F2
  · exact F3
  · exact F4
  · exact F5
  · exact F6
  · exact F7
  · exact F8
  · exact F9
theorem blts_of {mg : Str → Option Value}
    (z0 : mg "all" = none)
    (z1 : mg "bool" = none)
    (z2 : mg "enumerate" = none)
    (z3 : mg "int" = none)
    (z4 : mg "isinstance" = none)
    (z5 : mg "len" = none)
    (z6 : mg "list" = none)
    (z7 : mg "min" = none)
    (z8 : mg "range" = none)
    (z9 : mg "str" = none)
    (z10 : mg "tuple" = none)
    : ∀ x ∈ lw.bl, mg x = none := fun x hx => by
  simp only [lw, List.mem_cons, List.not_mem_nil, or_false] at hx
  rcases hx with rfl | rfl | rfl | rfl | rfl | rfl | rfl | rfl | rfl | rfl | rfl
  · exact z0
  · exact z1
  · exact z2
  · exact z3
  · exact z4
  · exact z5
  · exact z6
  · exact z7
  · exact z8
  · exact z9
  · exact z10
theorem csts_of {mg : Str → Option Value}
    (y0 : CstOk mg ("LONGEST", (.int 80)))
    : ∀ c ∈ lw.cs, CstOk mg c := fun c hc => by
  simp only [lw, List.mem_cons, List.not_mem_nil, or_false] at hc
  rcases hc with rfl
  · exact y0
theorem xcs_of {P : Program} {K : PySem.W.Frag} {mg : Str → Option Value}
    (x0 : XcFact P (adOf mg) K mg xd_BadFile)
    : ∀ d ∈ lw.xs, XcFact P (adOf mg) K mg d := fun d hd => by
  simp only [lw, List.mem_cons, List.not_mem_nil, or_false] at hd
  rcases hd with rfl
  · exact x0
theorem all_mk {P : Program} {w : World} {K : PySem.W.Frag} {h : Heap} {mg : Str → Option Value} {fa : Addr} (kx : K.In h) (G : h.Ns mainGlobals mg) (hmg : mg "law" = some (.ref fa))
    {f0 : Addr} {o0 n0 : Option Addr} {s0 : Array (Option Value)} {p0 v0 d0 q0 r0 t0 : Value}
    (a0 : PySem.W.nsIn K mainGlobals "is_line" = some (some (.ref f0)))
    (l0 : K.lookup f0 = some ⟨p0, o0, .func (PySem.W.fnOf "is_line" "is_line" (defArgs (top 4)) (defBody (top 4)) (defScope (top 4)) .none v0 d0 q0 n0 r0 t0), s0⟩)
    (c0 : PySem.W.codeIn K r0 "is_line" = true) (k0 : PySem.W.keepIn K (.ref f0) = true)
    {f1 : Addr} {o1 n1 : Option Addr} {s1 : Array (Option Value)} {p1 v1 d1 q1 r1 t1 : Value}
    (a1 : PySem.W.nsIn K mainGlobals "look_file" = some (some (.ref f1)))
    (l1 : K.lookup f1 = some ⟨p1, o1, .func (PySem.W.fnOf "look_file" "look_file" (defArgs (top 5)) (defBody (top 5)) (defScope (top 5)) .none v1 d1 q1 n1 r1 t1), s1⟩)
    (c1 : PySem.W.codeIn K r1 "look_file" = true) (k1 : PySem.W.keepIn K (.ref f1) = true)
    {f2 : Addr} {o2 n2 : Option Addr} {s2 : Array (Option Value)} {p2 v2 d2 q2 r2 t2 : Value}
    (a2 : PySem.W.nsIn K mainGlobals "_law_draw" = some (some (.ref f2)))
    (l2 : K.lookup f2 = some ⟨p2, o2, .func (PySem.W.fnOf "_law_draw" "_law_draw" (defArgs (top 7)) (defBody (top 7)) (defScope (top 7)) .none v2 d2 q2 n2 r2 t2), s2⟩)
    (c2 : PySem.W.codeIn K r2 "_law_draw" = true) (k2 : PySem.W.keepIn K (.ref f2) = true)
    {f3 : Addr} {o3 n3 : Option Addr} {s3 : Array (Option Value)} {p3 v3 d3 q3 r3 t3 : Value}
    (a3 : PySem.W.nsIn K mainGlobals "_law_pot" = some (some (.ref f3)))
    (l3 : K.lookup f3 = some ⟨p3, o3, .func (PySem.W.fnOf "_law_pot" "_law_pot" (defArgs (top 8)) (defBody (top 8)) (defScope (top 8)) .none v3 d3 q3 n3 r3 t3), s3⟩)
    (c3 : PySem.W.codeIn K r3 "_law_pot" = true) (k3 : PySem.W.keepIn K (.ref f3) = true)
    {f4 : Addr} {o4 n4 : Option Addr} {s4 : Array (Option Value)} {p4 v4 d4 q4 r4 t4 : Value}
    (a4 : PySem.W.nsIn K mainGlobals "_law_text" = some (some (.ref f4)))
    (l4 : K.lookup f4 = some ⟨p4, o4, .func (PySem.W.fnOf "_law_text" "_law_text" (defArgs (top 9)) (defBody (top 9)) (defScope (top 9)) .none v4 d4 q4 n4 r4 t4), s4⟩)
    (c4 : PySem.W.codeIn K r4 "_law_text" = true) (k4 : PySem.W.keepIn K (.ref f4) = true)
    {f5 : Addr} {o5 n5 : Option Addr} {s5 : Array (Option Value)} {p5 v5 d5 q5 r5 t5 : Value}
    (a5 : PySem.W.nsIn K mainGlobals "_law_is" = some (some (.ref f5)))
    (l5 : K.lookup f5 = some ⟨p5, o5, .func (PySem.W.fnOf "_law_is" "_law_is" (defArgs (top 10)) (defBody (top 10)) (defScope (top 10)) .none v5 d5 q5 n5 r5 t5), s5⟩)
    (c5 : PySem.W.codeIn K r5 "_law_is" = true) (k5 : PySem.W.keepIn K (.ref f5) = true)
    {f6 : Addr} {o6 n6 : Option Addr} {s6 : Array (Option Value)} {p6 v6 d6 q6 r6 t6 : Value}
    (a6 : PySem.W.nsIn K mainGlobals "_law_thing" = some (some (.ref f6)))
    (l6 : K.lookup f6 = some ⟨p6, o6, .func (PySem.W.fnOf "_law_thing" "_law_thing" (defArgs (top 11)) (defBody (top 11)) (defScope (top 11)) .none v6 d6 q6 n6 r6 t6), s6⟩)
    (c6 : PySem.W.codeIn K r6 "_law_thing" = true) (k6 : PySem.W.keepIn K (.ref f6) = true)
    {f7 : Addr} {o7 n7 : Option Addr} {s7 : Array (Option Value)} {p7 v7 d7 q7 r7 t7 : Value}
    (a7 : PySem.W.nsIn K mainGlobals "_law_is_line" = some (some (.ref f7)))
    (l7 : K.lookup f7 = some ⟨p7, o7, .func (PySem.W.fnOf "_law_is_line" "_law_is_line" (defArgs (top 12)) (defBody (top 12)) (defScope (top 12)) .none v7 d7 q7 n7 r7 t7), s7⟩)
    (c7 : PySem.W.codeIn K r7 "_law_is_line" = true) (k7 : PySem.W.keepIn K (.ref f7) = true)
    {f8 : Addr} {o8 n8 : Option Addr} {s8 : Array (Option Value)} {p8 v8 d8 q8 r8 t8 : Value}
    (a8 : PySem.W.nsIn K mainGlobals "_law_index" = some (some (.ref f8)))
    (l8 : K.lookup f8 = some ⟨p8, o8, .func (PySem.W.fnOf "_law_index" "_law_index" (defArgs (top 13)) (defBody (top 13)) (defScope (top 13)) .none v8 d8 q8 n8 r8 t8), s8⟩)
    (c8 : PySem.W.codeIn K r8 "_law_index" = true) (k8 : PySem.W.keepIn K (.ref f8) = true)
    {f9 : Addr} {o9 n9 : Option Addr} {s9 : Array (Option Value)} {p9 v9 d9 q9 r9 t9 : Value}
    (a9 : PySem.W.nsIn K mainGlobals "law" = some (some (.ref f9)))
    (l9 : K.lookup f9 = some ⟨p9, o9, .func (PySem.W.fnOf "law" "law" (defArgs (top 14)) (defBody (top 14)) (defScope (top 14)) .none v9 d9 q9 n9 r9 t9), s9⟩)
    (c9 : PySem.W.codeIn K r9 "law" = true) (k9 : PySem.W.keepIn K (.ref f9) = true)
    (z0 : PySem.W.nsIn K mainGlobals "all" = some none)
    (z1 : PySem.W.nsIn K mainGlobals "bool" = some none)
    (z2 : PySem.W.nsIn K mainGlobals "enumerate" = some none)
    (z3 : PySem.W.nsIn K mainGlobals "int" = some none)
    (z4 : PySem.W.nsIn K mainGlobals "isinstance" = some none)
    (z5 : PySem.W.nsIn K mainGlobals "len" = some none)
    (z6 : PySem.W.nsIn K mainGlobals "list" = some none)
    (z7 : PySem.W.nsIn K mainGlobals "min" = some none)
    (z8 : PySem.W.nsIn K mainGlobals "range" = some none)
    (z9 : PySem.W.nsIn K mainGlobals "str" = some none)
    (z10 : PySem.W.nsIn K mainGlobals "tuple" = some none)
    {u0 : Nat} (y0 : PySem.W.nsIn K mainGlobals "LONGEST" = some (some (.int 80 u0)))
    {xC0 xI0 xc0 xa0 : Addr} {xo0 xp0 xq0 xr0 xk0 : Value} {xe0 xn0 xm0 xw0 : Option Addr} {xs0 xt0 xu0 : Array (Option Value)} {xy0 xz0 : Value} {xg0 : Array Value} {xh0 xfn0 : Str} {xj0 : Nat}
    {xD0_0 : Addr}
    (aC0 : PySem.W.nsIn K mainGlobals "BadFile" = some (some (.ref xC0)))
    (sa0 : PySem.W.findIn K (.ref xC0) "__setattr__" = some (some (.builtin "object.__setattr__")))
    (hd0 : PySem.W.hasDictIn K xC0 = true)
    (sb0 : PySem.W.subIn K (.ref xC0) (.type "TypeError") = some true)
    (in0 : PySem.W.excInitIn K xC0 [.type "TypeError", .type "Exception", .type "BaseException", .type "object"] "TypeError.__new__" = true)
    (ov0 : PySem.W.excOver K xC0 [.type "TypeError", .type "Exception", .type "BaseException", .type "object"] = true)
    (su0 : PySem.W.ks_superIn K xC0 xC0 "__init__" = some (some (.builtin "TypeError.__init__")))
    (iC0 : PySem.W.findIn K (.ref xC0) "__init__" = some (some (.ref xI0)))
    (lk0 : K.lookup xI0 = some ⟨xo0, xe0, .func (PySem.W.ksFn "__init__" xfn0 (defArgs (iniOf (top 1))) (defBody (iniOf (top 1))) (defScope (iniOf (top 1))) .none xk0 xp0 xq0 xn0 (.ref xa0) xr0 xc0), xs0⟩)
    (cd0 : PySem.W.codeIn K (.ref xa0) xfn0 = true)
    (lc0 : K.lookup xa0 = some ⟨xy0, xm0, .fields xg0, xt0⟩)
    (vt0 : xg0[2]? = some (.str xh0 xj0))
    (hf0 : ((P.main.file : Str) == xh0) = true)
    (ce0 : K.lookup xc0 = some ⟨xz0, xw0, .cell (some (.ref xC0)), xu0⟩)
    (to0 : (P.main.scope.names.lookup ("super" : Str)).isSome = false)
    (tk0 : TakeP K xC0 ["index"])
    (op0 : PySem.W.nsIn K PySem.cStatics "thirdparty.any" = some none)
    (ms0 : PySem.W.nsIn K mainGlobals "super" = some none)
    (mu0 : PySem.W.mroIn K xC0 (.ref xC0) = some true)
    (tI0 : PySem.W.typeIn K (.ref xI0) = some (.type "function"))
    (kC0 : PySem.W.keepIn K (.ref xC0) = true)
    (eC0 : PySem.W.subIn K (.ref xC0) (.type "BaseException") = some true)
    (tC0 : PySem.W.typeIn K (.ref xC0) = some (.type "type"))
    (ga0 : PySem.W.findIn K (.ref xC0) "__getattribute__" = some (some (.builtin "BaseException.__getattribute__")))
    (gg0 : PySem.W.findIn K (.ref xC0) "__getattr__" = some none)
    (ha0 : PySem.W.findIn K (.ref xC0) "__class__" = some (some (.builtin "object.__class__")))
    (hn0 : PySem.W.specialIn K (.builtin "object.__class__") "__get__" = some (some (.builtin "getset_descriptor.__get__")))
    (ht0 : PySem.W.takesIn K (.builtin "object.__class__") = some true)
    (hm0 : PySem.W.mroIn K xC0 (.type "object") = some true)
    (p0_0 : PySem.W.nsIn K mainGlobals "BadFile" = some (some (.ref xD0_0)))
    (q0_0 : PySem.W.subIn K (.ref xD0_0) (.type "BaseException") = some true)
    (r0_0 : PySem.W.hasDictIn K xD0_0 = true)
    (s0_0 : PySem.W.typeIn K (.ref xD0_0) = some (.type "type"))
    (t0_0 : PySem.W.subIn K (.ref xC0) (.ref xD0_0) = some true)
    (ty0 : TysP K xC0 xd_BadFile.ty)
    : ∃ K : PySem.W.Frag, K.In h ∧ ∃ (fd : FuncData) (sp : Sp), (∀ (s : Shared) (u : Value), BindsTo s fd ⟨[u], []⟩ [("_law_script", u)]) ∧
        (∀ (H : Hp) (a : Addr) (ns : List Int), ns.length ≤ 63 → Only H → SqL K H a (ns.map V.int) → sp [.ref a] H (fun v _ => v = .bl true) fun _ _ _ => False) ∧
        ∀ base : Heap, K.In base → base.Ns mainGlobals mg → FnOk P w K mg base (L2.CX P w) 12 fa fd ["_law_script"] sp := by
  have F0 := ent_fact (x := "is_line") (st := top 4) (ps := ["thing"]) kx G a0 l0 c0 k0 (fun us hl => match us, hl with | [_], _ => rfl)
  have F1 := ent_fact (x := "look_file") (st := top 5) (ps := ["lines"]) kx G a1 l1 c1 k1 (fun us hl => match us, hl with | [_], _ => rfl)
  have F2 := ent_fact (x := "_law_draw") (st := top 7) (ps := ["_law_pot_here", "_law_many"]) kx G a2 l2 c2 k2 (fun us hl => match us, hl with | [_, _], _ => rfl)
  have F3 := ent_fact (x := "_law_pot") (st := top 8) (ps := ["_law_script"]) kx G a3 l3 c3 k3 (fun us hl => match us, hl with | [_], _ => rfl)
  have F4 := ent_fact (x := "_law_text") (st := top 9) (ps := ["_law_pot_here", "_law_most"]) kx G a4 l4 c4 k4 (fun us hl => match us, hl with | [_, _], _ => rfl)
  have F5 := ent_fact (x := "_law_is") (st := top 10) (ps := ["_law_told", "_law_due"]) kx G a5 l5 c5 k5 (fun us hl => match us, hl with | [_, _], _ => rfl)
  have F6 := ent_fact (x := "_law_thing") (st := top 11) (ps := ["_law_pot_here"]) kx G a6 l6 c6 k6 (fun us hl => match us, hl with | [_], _ => rfl)
  have F7 := ent_fact (x := "_law_is_line") (st := top 12) (ps := ["_law_thing_here"]) kx G a7 l7 c7 k7 (fun us hl => match us, hl with | [_], _ => rfl)
  have F8 := ent_fact (x := "_law_index") (st := top 13) (ps := ["_law_call"]) kx G a8 l8 c8 k8 (fun us hl => match us, hl with | [_], _ => rfl)
  have F9 := ent_fact (x := "law") (st := top 14) (ps := ["_law_script"]) kx G a9 l9 c9 k9 (fun us hl => match us, hl with | [_], _ => rfl)
  have Z0 := PySem.W.mg_none_of kx G z0
  have Z1 := PySem.W.mg_none_of kx G z1
  have Z2 := PySem.W.mg_none_of kx G z2
  have Z3 := PySem.W.mg_none_of kx G z3
  have Z4 := PySem.W.mg_none_of kx G z4
  have Z5 := PySem.W.mg_none_of kx G z5
  have Z6 := PySem.W.mg_none_of kx G z6
  have Z7 := PySem.W.mg_none_of kx G z7
  have Z8 := PySem.W.mg_none_of kx G z8
  have Z9 := PySem.W.mg_none_of kx G z9
  have Z10 := PySem.W.mg_none_of kx G z10
  have Y0 := cst_int (PySem.W.mg_of kx G y0)
  have X0 : XcFact P (adOf mg) K mg xd_BadFile := xc_mk (d := xd_BadFile) (st := top 1) kx G PySem.F.excBase_TypeError PySem.F.store_TypeError PySem.W.kxs_TypeError aC0 in0 ov0 su0 sa0 hd0 sb0 iC0 lk0 cd0 lc0 vt0 hf0 ce0 to0
    ⟨_, rfl, rfl⟩ (by decide +kernel) (by decide +kernel) (by decide +kernel) tk0 op0 ms0 mu0 tI0 kC0 eC0 tC0
    (fun us hl => match us, hl with | [_, _], _ => rfl) ga0 gg0 ha0 hn0 ht0 hm0 ⟨⟨_, p0_0, q0_0, r0_0, s0_0, t0_0⟩, trivial⟩ ty0
  exact ⟨K, kx, law_end (e := en_law) lwok (by simp [lw]) rfl (ents_of F0 F1 F2 F3 F4 F5 F6 F7 F8 F9) (csts_of Y0) (blts_of Z0 Z1 Z2 Z3 Z4 Z5 Z6 Z7 Z8 Z9 Z10) (xcs_of X0) hmg 100 10 pure⟩
end K01
open PySem PySem.W PyProof.Rows
set_option maxRecDepth 100002 in
set_option maxHeartbeats 0 in
theorem PySem.Challenge.cw_markedblocks_k01_lines_and_files_holds : PySem.Challenge.rw_markedblocks_k01_lines_and_files.Holds := by
  w_on; o_law; k_head; (case hw => w_witness2)
  k_fill
  refine Y.walk_y (l := PySem.Challenge.rw_markedblocks_k01_lines_and_files) (k := 12) (n := 63) (x := "_law_script") rfl (by decide) rfl ⟨rfl, by decide, by decide⟩ ?F
  case F =>
    intro w mg fa h hy G hmg
    refine' K01.all_mk (PySem.W.kIn_of hy) G hmg ?a0 ?l0 ?c0 ?k0 ?a1 ?l1 ?c1 ?k1 ?a2 ?l2 ?c2 ?k2 ?a3 ?l3 ?c3 ?k3 ?a4 ?l4 ?c4 ?k4 ?a5 ?l5 ?c5 ?k5 ?a6 ?l6 ?c6 ?k6 ?a7 ?l7 ?c7 ?k7 ?a8 ?l8 ?c8 ?k8 ?a9 ?l9 ?c9 ?k9 ?z0 ?z1 ?z2 ?z3 ?z4 ?z5 ?z6 ?z7 ?z8 ?z9 ?z10 ?y0 ?aC0 ?sa0 ?hd0 ?sb0 ?in0 ?ov0 ?su0 ?iC0 ?lk0 ?cd0 ?lc0 ?vt0 ?hf0 ?ce0 ?to0 ?tk0 ?op0 ?ms0 ?mu0 ?tI0 ?kC0 ?eC0 ?tC0 ?ga0 ?gg0 ?ha0 ?hn0 ?ht0 ?hm0 ?p0_0 ?q0_0 ?r0_0 ?s0_0 ?t0_0 ?ty0
    (case a0 => k_is)
    (case l0 => k_is)
    (case c0 => k_is)
    (case k0 => k_is)
    (case a1 => k_is)
    (case l1 => k_is)
    (case c1 => k_is)
    (case k1 => k_is)
    (case a2 => k_is)
    (case l2 => k_is)
    (case c2 => k_is)
    (case k2 => k_is)
    (case a3 => k_is)
    (case l3 => k_is)
    (case c3 => k_is)
    (case k3 => k_is)
    (case a4 => k_is)
    (case l4 => k_is)
    (case c4 => k_is)
    (case k4 => k_is)
    (case a5 => k_is)
    (case l5 => k_is)
    (case c5 => k_is)
    (case k5 => k_is)
    (case a6 => k_is)
    (case l6 => k_is)
    (case c6 => k_is)
    (case k6 => k_is)
    (case a7 => k_is)
    (case l7 => k_is)
    (case c7 => k_is)
    (case k7 => k_is)
    (case a8 => k_is)
    (case l8 => k_is)
    (case c8 => k_is)
    (case k8 => k_is)
    (case a9 => k_is)
    (case l9 => k_is)
    (case c9 => k_is)
    (case k9 => k_is)
    (case z0 => k_is)
    (case z1 => k_is)
    (case z2 => k_is)
    (case z3 => k_is)
    (case z4 => k_is)
    (case z5 => k_is)
    (case z6 => k_is)
    (case z7 => k_is)
    (case z8 => k_is)
    (case z9 => k_is)
    (case z10 => k_is)
    (case y0 => k_is)
    (case aC0 => k_is)
    (case sa0 => k_is)
    (case hd0 => k_is)
    (case sb0 => k_is)
    (case in0 => kernel_rfl)
    (case ov0 => kernel_rfl)
    (case su0 => ks_is)
    (case iC0 => k_is)
    (case lk0 => k_is)
    (case cd0 => k_is)
    (case lc0 => k_is)
    (case vt0 => exact rfl)
    (case hf0 => kernel_rfl)
    (case ce0 => k_is)
    (case to0 => kernel_rfl)
    (case tk0 => (refine ⟨?_, ?_, trivial⟩ <;> k_is))
    (case op0 => k_is)
    (case ms0 => k_is)
    (case mu0 => k_is)
    (case tI0 => k_is)
    (case kC0 => k_is)
    (case eC0 => k_is)
    (case tC0 => k_is)
    (case ga0 => k_is)
    (case gg0 => k_is)
    (case ha0 => k_is)
    (case hn0 => k_is)
    (case ht0 => k_is)
    (case hm0 => k_is)
    (case p0_0 => k_is)
    (case q0_0 => k_is)
    (case r0_0 => k_is)
    (case s0_0 => k_is)
    (case t0_0 => k_is)
    (case ty0 => exact trivial)
