import PyProof.Rows.All
import Wide.All
import OpenK.AllK
import Wide.FinOn
import HandS.ForMost
import HandS.Style
import KE.LtData
import KE.DataCmp
import PyProof.StrBlock2
import PyProof.NeData
import HandS.Deep
import HandS.IsInst
import HandS.TupAny
import HandS.Wide
import KE.SortData
import HandS.Exc
import HandS.WordsExc
import HandS.TryOnly
import HandS.TryMany
import HandS.Flow
import HandS.HeadEnd
import HandS.Text
import PySem.Challenge.RW_markedblocks_k02_order_of_files
section
set_option Elab.async false
set_option linter.all false
set_option maxRecDepth 100000
/-! Y1: pure values, a small language with its slots resolved, its evaluator. -/
namespace Y
open PySem

/-- a pure value. A list bears a flag: true where this very place holds it alone (it may be changed there) -/
inductive PV where
  | non | bl (b : Bool) | int (i : Int) | str (x : Str) | ty (n : String)
  /-- a def or class of the text, by its key -/
  | fn (k : Str)
  | lst (o : Bool) (xs : List PV)
  /-- a list that is only read (the script) -/
  | lck (xs : List PV)
  | tup (xs : List PV)

-- nothing in it is held alone
mutual
def PV.fz : PV → Bool
  | .lst o xs => !o && PV.fzL xs
  | .lck xs => PV.fzL xs
  | .tup xs => PV.fzL xs
  | _ => true
def PV.fzL : List PV → Bool
  | [] => true
  | x :: r => x.fz && PV.fzL r
end
-- .. made so
mutual
def PV.frz : PV → PV
  | .lst _ xs => .lst false (PV.frzL xs)
  | .lck xs => .lck (PV.frzL xs)
  | .tup xs => .tup (PV.frzL xs)
  | .non => .non | .bl b => .bl b | .int i => .int i | .str x => .str x | .ty n => .ty n | .fn k => .fn k
def PV.frzL : List PV → List PV
  | [] => []
  | x :: r => x.frz :: PV.frzL r
end
-- as data that == reads
mutual
def PV.dat : PV → Option PyData
  | .non => some .none
  | .bl b => some (.bool b)
  | .int i => some (.int i)
  | .str x => some (.str x)
  | .lst _ xs => (PV.datL xs).map .list
  | .lck xs => (PV.datL xs).map .list
  | .tup xs => (PV.datL xs).map .tuple
  | _ => none
def PV.datL : List PV → Option (List PyData)
  | [] => some []
  | x :: r => match x.dat, PV.datL r with
    | some d, some ds => some (d :: ds)
    | _, _ => none
end

abbrev Fr := List (Option PV)
/-- an exception of the text: its class, its fields -/
structure PX where
  cls : Str
  fs : List (Str × PV)
inductive Res (α : Type) where
  | ok (a : α) (ρ : Fr)
  | ex (x : PX) (ρ : Fr)
  | bad
inductive Fl where
  | nx | bk | ct
  | rt (p : PV)
/-- a call's end: what it gives, its parameters' slots behind it -/
inductive CR where
  | ok (r : PV) (as : Fr)
  | ex (x : PX) (as : Fr)
  | bad
def Res.bind {α β : Type} (r : Res α) (f : α → Fr → Res β) : Res β := match r with
  | .ok a ρ => f a ρ
  | .ex x ρ => .ex x ρ
  | .bad => .bad

/-- operations on values that are read -/
inductive Op where
  | bin (op : Operator) | cmp (op : CmpOp)
  | neg | not
  | ix | slice (lo hi : Bool) | back
  | len | list | tuple | int | str | all | any | sum | max | sorted
  | isi
  | join | split

-- the language. loc i: a name (read where an operation reads, else copied); mov i: a name that is handed out for good
mutual
inductive IE where
  | cst (p : PV)
  | loc (i : Nat) | mov (i : Nat)
  | op (f : Op) (es : List IE)
  | chain (f g : CmpOp) (a b d : IE)
  /-- a comparison whose sides may be displays (false a list's, true a tuple's), which are read and thrown away -/
  | dcmp (f : CmpOp) (t : Option Bool) (es : List IE) (u : Option Bool) (ds : List IE)
  | slc (e a b : IE)
  | and (a b : IE) | or (a b : IE)
  | ite (t a b : IE)
  | lst (es : List IE) | tup (es : List IE)
  | call (k : Str) (ls : List Bool) (es : List IE)
  | comp (elt : IE) (tg : IT) (src : ISrc) (ifs : List IE) (own : List Nat)
  /-- .. over the list that stands in a slot, as it stands at each turn -/
  | compv (elt : IE) (tg : IT) (i : Nat) (ifs : List IE) (own : List Nat)
inductive IT where
  | nm (i : Nat) | tp (ts : List IT)
inductive ISrc where
  | it (e : IE) | rng (es : List IE) | enm (e : IE) | zp (a b : IE)
end

inductive IS where
  | set (i : Nat) (e : IE)
  | asg (tg : IT) (e : IE)
  | par (is : List Nat) (es : List IE)
  | aug (i : Nat) (op : Operator) (e : IE)
  | sub (i : Nat) (ix e : IE)
  | app (i : Nat) (e : IE)
  | ext (i : Nat) (e : IE)
  | exp (e : IE)
  | ret (e : IE) | retN
  | ife (t : IE) (a b : List IS)
  | fors (tg : IT) (src : ISrc) (body : List IS)
  | forv (tg : IT) (i : Nat) (body : List IS)
  | whl (t : IE) (body : List IS)
  | brk | cnt | pas
  | rai (C : Str) (fs : List Str) (es : List IE)

/-! ### operations -/
instance (x : Str) (n : Int) : Decidable (MulOk x n) := inferInstanceAs (Decidable (_ ∧ _ ∧ _))
def okS (n : Nat) : Bool := decide (n ≤ sizeLine)
def cdat (p q : PV) : Option (PyData × PyData) := match p.dat, q.dat with
  | some d, some e => if decide (d.depth ≤ 60) then some (d, e) else none
  | _, _ => none
def intsP : List PV → Option (List Int)
  | [] => some []
  | .int i :: r => (intsP r).map (i :: ·)
  | _ => none
def strsP : List PV → Option (List Str)
  | [] => some []
  | .str i :: r => (strsP r).map (i :: ·)
  | _ => none
def boolsP : List PV → Option (List Bool)
  | [] => some []
  | .bl i :: r => (boolsP r).map (i :: ·)
  | _ => none
def flat : PV → Bool
  | .non => true
  | .bl _ => true
  | .int _ => true
  | .str _ => true
  | _ => false
def flatIn (x : PV) (xs : List PV) : Option Bool := match x.dat, PV.datL xs with
  | some d, some ds => some (ds.any fun z => PyData.eqv z d)
  | _, _ => none
def inSeq (x : PV) (xs : List PV) : Option Bool := match x.dat, PV.datL xs with
  | some d, some ds => if SeqAt.shaped d && SeqAt.shaped (.list ds) then some (ds.any fun z => PyData.eqv z d) else none
  | _, _ => none
/-- a < b, by data -/
def ltD (p q : PV) : Option Bool := match p.dat, q.dat with
  | some d, some e => if PySem.W.alike d e && decide (min d.depth e.depth ≤ 64) then some (PySem.W.dataLt d e) else none
  | _, _ => none
def cmpN : CmpOp → PV → PV → Option Bool
  | .Eq, p, q => (cdat p q).map fun z => PyData.eqv z.1 z.2
  | .NotEq, p, q => (cdat p q).map fun z => !PyData.eqv z.1 z.2
  | .Lt, .int i, .int j => some (decide (i < j))
  | .LtE, .int i, .int j => some (decide (i ≤ j))
  | .Gt, .int i, .int j => some (decide (j < i))
  | .GtE, .int i, .int j => some (decide (j ≤ i))
  | .Lt, .str i, .str j => some (decide (i.cps.toList < j.cps.toList))
  | .Lt, .tup xs, .tup ys => ltD (.tup xs) (.tup ys)
  | .LtE, .str i, .str j => some (decide (i.cps.toList ≤ j.cps.toList))
  | .Is, p, .non => (match p with | .non => some true | _ => some false)
  | .IsNot, p, .non => (match p with | .non => some false | _ => some true)
  | .In, p, .lst _ xs => if flat p && xs.all flat then flatIn p xs else inSeq p xs
  | .In, p, .tup xs => if flat p && xs.all flat then flatIn p xs else none
  | .In, .str i, .str j => some (!(Builtin.Str.occurrences j i 0 j.length 1).isEmpty)
  | .NotIn, p, .lst _ xs => if flat p && xs.all flat then (flatIn p xs).map (!·) else (inSeq p xs).map (!·)
  | .NotIn, p, .tup xs => if flat p && xs.all flat then (flatIn p xs).map (!·) else none
  | .NotIn, .str i, .str j => some (Builtin.Str.occurrences j i 0 j.length 1).isEmpty
  | _, _, _ => none
def binN : Operator → PV → PV → Option PV
  | .Add, .int i, .int j => some (.int (i + j))
  | .Add, .str i, .str j => if okS (i.length + j.length) then some (.str (i ++ j)) else none
  | .Add, .lst _ xs, .lst _ ys => if okS (xs.length + ys.length) && PV.fzL xs && PV.fzL ys then some (.lst true (xs ++ ys)) else none
  | .Add, .tup xs, .tup ys => if okS (xs.length + ys.length) && PV.fzL xs && PV.fzL ys && !xs.isEmpty then some (.tup (xs ++ ys)) else none
  | .Sub, .int i, .int j => some (.int (i - j))
  | .Mult, .int i, .int j => if decide ((-(2 ^ 64) < i ∧ i < 2 ^ 64) ∨ (-(2 ^ 64) < j ∧ j < 2 ^ 64)) then some (.int (i * j)) else none
  | .Mult, .str x, .int n => if decide (MulOk x n) then some (.str (Txt.mul x n)) else none
  | .Mult, .lst _ xs, .int k => if okS (xs.length * k.toNat) && decide (-(2 ^ 63) ≤ k ∧ k < 2 ^ 63) && PV.fzL xs then some (.lst true (List.replicate k.toNat xs).flatten) else none
  | .Mod, .int i, .int j => if decide (0 < j) then some (.int (i % j)) else none
  | .FloorDiv, .int i, .int j => if decide (0 < j ∧ j.natAbs.log2 < 9000) then some (.int (i / j)) else none
  | .Pow, .int i, .int j => if decide (0 ≤ j ∧ j ≤ 1000000 ∧ i.natAbs < 2 ^ 64) then some (.int (i ^ j.toNat)) else none
  | _, _, _ => none
/-- a list's, a tuple's items -/
def seqOf : PV → Option (List PV)
  | .lst _ xs => some xs
  | .lck xs => some xs
  | .tup xs => some xs
  | _ => none
def cutP {α : Type} (xs : List α) (lo hi : Option Int) : List α := (xs.drop (HT.sIx xs.length 0 lo)).take (HT.sIx xs.length xs.length hi - HT.sIx xs.length 0 lo)
def sliceN (p : PV) (lo hi : Option Int) : Option PV := match p with
  | .lst _ xs => if PV.fzL xs then some (.lst true (cutP xs lo hi)) else none
  | .lck xs => if PV.fzL xs then some (.lst true (cutP xs lo hi)) else none
  | _ => none
def partN : PV → Option Int
  | .int i => some i
  | _ => none
def tyN : PV → Option String
  | .non => some "NoneType"
  | .bl _ => some "bool"
  | .int _ => some "int"
  | .str _ => some "str"
  | .lst _ _ => some "list"
  | .tup _ => some "tuple"
  | _ => none
def isiT (t : String) (T : String) : Bool := t == T || (t == "bool" && T == "int")
def maxI : Int → List Int → Int
  | a, [] => a
  | a, b :: r => maxI (if b > a then b else a) r
def strLe (a b : Str) : Bool := decide (a.cps.toList ≤ b.cps.toList)
def ixP : PV → PV → Option PV
  | p, .int i => (match p with
    | .str z => if okS z.length then (L2.atI z.cps.toList i).map fun c => .str ⟨#[c]⟩ else none
    | p => match seqOf p with
      | some xs => (match L2.atI xs i with
        | some x => if x.fz then some x else none
        | none => none)
      | none => none)
  | _, _ => none
def lenP : PV → Option PV
  | .str x => if okS x.length then some (.int x.length) else none
  | p => (seqOf p).map fun xs => .int xs.length
def listP (p : PV) : Option PV := match seqOf p with
  | some xs => if PV.fzL xs then some (.lst true xs) else none
  | none => none
def tupleP : PV → Option PV
  | .lst _ xs => if PV.fzL xs then some (.tup xs) else none
  | .tup xs => if PV.fzL xs then some (.tup xs) else none
  | _ => none
def intP : PV → Option PV
  | .int i => some (.int i)
  | .bl b => some (.int (if b then 1 else 0))
  | _ => none
def strP : PV → Option PV
  | .int i => if decide (i.natAbs.log2 < 1920) then some (.str (toString i)) else none
  | _ => none
def lstOf : PV → Option (List PV)
  | .lst _ xs => some xs
  | _ => none
def maxP (p : PV) : Option PV := match (lstOf p).bind intsP with
  | some (n :: ns) => some (.int (maxI n ns))
  | _ => none
def intLe (a b : Int) : Bool := decide (a ≤ b)
def sortedP (p : PV) : Option PV := (lstOf p).bind fun xs => match intsP xs with
    | some ns => some (.lst true ((ns.mergeSort intLe).map .int))
    | none => (strsP xs).map fun ys => .lst true ((ys.mergeSort strLe).map .str)
def isiOk : List String := ["int", "str", "bool", "list", "tuple"]
def isiP (p q : PV) : Option PV := match tyN p, q with
  | some t, .ty T => if isiOk.contains T then some (.bl (isiT t T)) else none
  | _, _ => none
def joinP (p q : PV) : Option PV := match p, (lstOf q).bind strsP with
  | .str z, some ys => if decide ((ys.map (·.length)).sum + ys.length * z.length ≤ 16777216) then some (.str (Txt.join z ys)) else none
  | _, _ => none
def opN : Op → List PV → Option PV
  | .bin o, [p, q] => binN o p q
  | .cmp o, [p, q] => (cmpN o p q).map .bl
  | .neg, [p] => (match p with
    | .int i => some (.int (-i))
    | _ => none)
  | .not, [p] => (match p with
    | .bl b => some (.bl (!b))
    | _ => none)
  | .ix, [p, q] => ixP p q
  | .slice false false, [p] => sliceN p none none
  | .slice true false, [p, a] => (partN a).bind fun i => sliceN p (some i) none
  | .slice false true, [p, b] => (partN b).bind fun j => sliceN p none (some j)
  | .back, [p] => (lstOf p).bind fun xs => if PV.fzL xs then some (.lst true xs.reverse) else none
  | .len, [p] => lenP p
  | .list, [p] => listP p
  | .tuple, [p] => tupleP p
  | .int, [p] => intP p
  | .str, [p] => strP p
  | .all, [p] => ((lstOf p).bind boolsP).map fun bs => .bl (bs.all id)
  | .any, [p] => ((lstOf p).bind boolsP).map fun bs => .bl (bs.any id)
  | .sum, [p] => ((lstOf p).bind intsP).map fun ns => .int ns.sum
  | .max, [p] => maxP p
  | .sorted, [p] => sortedP p
  | .isi, [p, q] => isiP p q
  | .join, [p, q] => joinP p q
  | _, _ => none

/-! ### the evaluator -/
/-- what it asks: the calls of the text's defs (one level less), which of their parameters may be lent, turns for a while -/
structure Cf where
  call : Str → List PV → CR
  lend : Str → List Bool
  fuel : Nat

/-- an operand: a name that is read, or a value -/
inductive OV where
  | vw (i : Nat) | vl (p : PV)
def Fr.at (ρ : Fr) (i : Nat) : Option PV := ρ.getD i none
def rsv (ρ : Fr) : OV → Option PV
  | .vw i => ρ.at i
  | .vl p => some p
def rsvL (ρ : Fr) : List OV → Option (List PV)
  | [] => some []
  | o :: r => match rsv ρ o, rsvL ρ r with
    | some p, some ps => some (p :: ps)
    | _, _ => none
def opnd (e : IE) (run : Fr → Res PV) (ρ : Fr) : Res OV := match e with
  | .loc i => (match ρ.at i with
    | some _ => .ok (.vw i) ρ
    | none => .bad)
  | _ => (run ρ).bind fun p ρ' => .ok (.vl p.frz) ρ'
def truth : PV → Option Bool
  | .non => some false
  | .bl b => some b
  | .int i => some (i != 0)
  | .str x => if okS x.length then some ((x.length : Int) != 0) else none
  | .lst _ xs => some (!xs.isEmpty)
  | .lck xs => some (!xs.isEmpty)
  | .tup xs => some (!xs.isEmpty)
  | _ => none
/-- a value that is to be a bool -/
def asB (r : Res PV) : Res Bool := r.bind fun p ρ => match p with
  | .bl b => .ok b ρ
  | _ => .bad
mutual
def asg : IT → PV → Fr → Option Fr
  | .nm i, p, ρ => if i < ρ.length then some (ρ.set i (some p)) else none
  | .tp ts, p, ρ => match p with
    | .tup xs => asgL ts xs ρ
    | _ => none
def asgL : List IT → List PV → Fr → Option Fr
  | [], [], ρ => some ρ
  | t :: ts, x :: xs, ρ => (asg t x ρ).bind fun ρ1 => asgL ts xs ρ1
  | _, _, _ => none
end
def putL : List Nat → List PV → Fr → Option Fr
  | [], [], ρ => some ρ
  | i :: is, x :: xs, ρ => if i < ρ.length then putL is xs (ρ.set i (some x)) else none
  | _, _, _ => none
/-- the slots of a comprehension's own names: emptied -/
def wipeF (ρ : Fr) : List Nat → Fr
  | [] => ρ
  | i :: r => (wipeF ρ r).set i none
def frzAt (ρ : Fr) : List Nat → Fr
  | [] => ρ
  | i :: r => (frzAt ρ r).set i (((frzAt ρ r).at i).map PV.frz)
def putAt (ρ0 ρ : Fr) : List Nat → Fr
  | [] => ρ
  | i :: r => match ρ0.at i with
    | some p => (putAt ρ0 ρ r).set i (some p)
    | none => putAt ρ0 ρ r
def backAt (ρ0 ρ : Fr) (own : List Nat) : Fr := putAt ρ0 (wipeF ρ own) own
/-- the comprehension's loop: turn gives the item, or nothing (a test failed) -/
def compL (turn : PV → Fr → Res (Option PV)) (own : List Nat) : List PV → Fr → List PV → Res (List PV)
  | [], ρ, acc => .ok acc ρ
  | x :: r, ρ, acc => match turn x ρ with
    | .ok (some y) ρ1 => if acc.length < sizeLine then compL turn own r (wipeF ρ1 own) (acc ++ [y.frz]) else .bad
    | .ok none ρ1 => compL turn own r (wipeF ρ1 own) acc
    | _ => .bad
def vwLen (ρ : Fr) (i n : Nat) : Bool := match ρ.at i with
  | some (.lst _ xs) => decide (xs.length = n)
  | _ => false
/-- the j-th item of the list in slot i, whose length is n -/
def vwAt (ρ : Fr) (i n j : Nat) : Option PV := match ρ.at i with
  | some (.lst _ xs) => if xs.length = n then (match xs[j]? with
    | some x => if x.fz then some x else none
    | none => none) else none
  | _ => none
def compV (turn : PV → Fr → Res (Option PV)) (own : List Nat) (i n : Nat) : Nat → Fr → List PV → Res (List PV)
  | 0, ρ, acc => if vwLen ρ i n then .ok acc ρ else .bad
  | k + 1, ρ, acc => match vwAt ρ i n (n - (k + 1)) with
    | some x => (match turn x ρ with
      | .ok (some y) ρ1 => if acc.length < sizeLine then compV turn own i n k (wipeF ρ1 own) (acc ++ [y.frz]) else .bad
      | .ok none ρ1 => compV turn own i n k (wipeF ρ1 own) acc
      | _ => .bad)
    | none => .bad
def forV (turn : PV → Fr → Res Fl) (i n : Nat) : Nat → Fr → Res Fl
  | 0, ρ => if vwLen ρ i n then .ok .nx ρ else .bad
  | k + 1, ρ => match vwAt ρ i n (n - (k + 1)) with
    | some x => (match turn x ρ with
      | .ok .nx ρ1 => forV turn i n k ρ1
      | .ok .ct ρ1 => forV turn i n k ρ1
      | .ok .bk ρ1 => .ok .nx ρ1
      | z => z)
    | none => .bad
def lenAt (ρ : Fr) (i : Nat) : Option Nat := match ρ.at i with
  | some (.lst _ xs) => some xs.length
  | _ => none
/-- a for's loop -/
def forL (turn : PV → Fr → Res Fl) : List PV → Fr → Res Fl
  | [], ρ => .ok .nx ρ
  | x :: r, ρ => match turn x ρ with
    | .ok .nx ρ1 => forL turn r ρ1
    | .ok .ct ρ1 => forL turn r ρ1
    | .ok .bk ρ1 => .ok .nx ρ1
    | z => z
def whlL (t : Fr → Res Bool) (body : Fr → Res Fl) : Nat → Fr → Res Fl
  | 0, _ => .bad
  | n + 1, ρ => (t ρ).bind fun b ρ1 => if b then (match body ρ1 with
    | .ok .nx ρ2 => whlL t body n ρ2
    | .ok .ct ρ2 => whlL t body n ρ2
    | .ok .bk ρ2 => .ok .nx ρ2
    | z => z) else .ok .nx ρ1
/-- an argument: lent from its slot (left empty meanwhile), or a value -/
def argd (lend : Bool) (e : IE) (run : Fr → Res PV) (ρ : Fr) : Res (PV × Option Nat) := match lend, e with
  | true, .loc i => (match ρ.at i with
    | some p => if p.fz then .ok (p, none) ρ else .ok (p, some i) (ρ.set i none)
    | none => .bad)
  | _, _ => (run ρ).bind fun p ρ' => .ok (p.frz, none) ρ'
/-- an argument of a call, as it is reckoned: a name that may be lent stays a name -/
def opA (lend : Bool) (e : IE) (run : Fr → Res PV) (ρ : Fr) : Res OV := match lend with
  | true => opnd e run ρ
  | false => (run ρ).bind fun p ρ' => .ok (.vl p.frz) ρ'
/-- all are reckoned: what is lent is taken out of its slot -/
def takeA : List OV → Fr → Option (List (PV × Option Nat) × Fr)
  | [], ρ => some ([], ρ)
  | .vl p :: r, ρ => (takeA r ρ).map fun z => ((p, none) :: z.1, z.2)
  | .vw i :: r, ρ => match ρ.at i with
    | some p => if p.fz then (takeA r ρ).map fun z => ((p, none) :: z.1, z.2) else (takeA r (ρ.set i none)).map fun z => ((p, some i) :: z.1, z.2)
    | none => none
def give : List (Option Nat) → Fr → Fr → Fr
  | some i :: r, a :: as, ρ => give r as (ρ.set i a)
  | none :: r, _ :: as, ρ => give r as ρ
  | _, _, ρ => ρ
def callR (c : Cf) (k : Str) (as : List (PV × Option Nat)) (ρ : Fr) : Res PV := match c.call k (as.map (·.1)) with
  | .ok r as' => .ok r (give (as.map (·.2)) as' ρ)
  | .ex x as' => .ex x (give (as.map (·.2)) as' ρ)
  | .bad => .bad
def rngI (lo : Int) : Nat → List PV
  | 0 => []
  | n + 1 => .int lo :: rngI (lo + 1) n
def small62 (i : Int) : Bool := decide (-(2 ^ 62) ≤ i ∧ i < 2 ^ 62)
def rngN : List PV → Option (List PV)
  | [.int j] => if small62 j then some (rngI 0 j.toNat) else none
  | [.int i, .int j] => if small62 i && small62 j then some (rngI i (j - i).toNat) else none
  | _ => none
def enmN (k : Int) : List PV → List PV
  | [] => []
  | x :: r => .tup [.int k, x] :: enmN (k + 1) r
def zipN : List PV → List PV → List PV
  | x :: r, y :: s => .tup [x, y] :: zipN r s
  | _, _ => []

def srcOf : PV → Option (List PV)
  | .str x => some (x.cps.toList.map fun k => .str ⟨#[k]⟩)
  | p => seqOf p
def enmP : List PV → Option (List PV)
  | [.lst _ xs] => some (enmN 0 xs)
  | [.lck xs] => some (enmN 0 xs)
  | _ => none
def zipP : List PV → Option (List PV)
  | [.lst _ xs, .lst _ ys] => some (zipN xs ys)
  | _ => none
/-- the slots that a target stores -/
def IT.slots : IT → List Nat
  | .nm i => [i]
  | .tp ts => slotsL ts
where slotsL : List IT → List Nat
  | [] => []
  | t :: ts => t.slots ++ slotsL ts

/-- what a display of these is worth (none: it is none) -/
def dspP : Option Bool → List PV → Option PV
  | none, ps => (match ps with
    | [p] => some p
    | _ => none)
  | some true, ps => some (.tup ps)
  | some false, ps => some (.lst false ps)
def fitO (os : List OV) (ρ : Fr) : Res (List OV) := if okS os.length then .ok os ρ else .bad
mutual
def evE (c : Cf) : IE → Fr → Res PV
  | .cst p, ρ => .ok p ρ
  | .loc i, ρ => (match ρ.at i with
    | some p => .ok p.frz (ρ.set i (some p.frz))
    | none => .bad)
  | .mov i, ρ => (match ρ.at i with
    | some p => .ok p (ρ.set i none)
    | none => .bad)
  | .op f es, ρ => (evO c es ρ).bind fun os ρ1 => match rsvL ρ1 os with
    | some ps => (match opN f ps with
      | some r => .ok r ρ1
      | none => .bad)
    | none => .bad
  | .chain f g a b d, ρ => (opnd a (evE c a) ρ).bind fun x ρ1 => (opnd b (evE c b) ρ1).bind fun y ρ2 =>
      match rsv ρ2 x, rsv ρ2 y with
      | some p, some q => (match cmpN f p q with
        | some true => (opnd d (evE c d) ρ2).bind fun z ρ3 => (match rsv ρ3 y, rsv ρ3 z with
          | some q, some r => (match cmpN g q r with
            | some k => .ok (.bl k) ρ3
            | none => .bad)
          | _, _ => .bad)
        | some false => .ok (.bl false) ρ2
        | none => .bad)
      | _, _ => .bad
  | .dcmp f t es u ds, ρ => ((evO c es ρ).bind fitO).bind fun x ρ1 => ((evO c ds ρ1).bind fitO).bind fun y ρ2 => match (rsvL ρ2 x).bind (dspP t), (rsvL ρ2 y).bind (dspP u) with
      | some p, some q => (match cmpN f p q with
        | some k => .ok (.bl k) ρ2
        | none => .bad)
      | _, _ => .bad
  | .slc e a b, ρ => (opnd e (evE c e) ρ).bind fun x ρ1 => (opnd a (evE c a) ρ1).bind fun y ρ2 => (match (rsv ρ2 y).bind partN with
      | some i => (opnd b (evE c b) ρ2).bind fun z ρ3 => (match rsv ρ3 x, (rsv ρ3 z).bind partN with
        | some p, some j => (match sliceN p (some i) (some j) with
          | some r => .ok r ρ3
          | none => .bad)
        | _, _ => .bad)
      | none => .bad)
  | .and a b, ρ => (asB (evE c a ρ)).bind fun k ρ1 => if k then evE c b ρ1 else .ok (.bl false) ρ1
  | .or a b, ρ => (asB (evE c a ρ)).bind fun k ρ1 => if k then .ok (.bl true) ρ1 else evE c b ρ1
  | .ite t a b, ρ => (evT c t (evE c t) ρ).bind fun k ρ1 => if k then evE c a ρ1 else evE c b ρ1
  | .lst es, ρ => (evL c es ρ).bind fun ps ρ1 => if okS ps.length then .ok (.lst true (PV.frzL ps)) ρ1 else .bad
  | .tup es, ρ => (evL c es ρ).bind fun ps ρ1 => if okS ps.length then .ok (.tup (PV.frzL ps)) ρ1 else .bad
  | .call k ls es, ρ => (evA c ls es ρ).bind fun os ρ1 => match takeA os ρ1 with
      | some z => callR c k z.1 z.2
      | none => .bad
  | .comp elt tg src ifs own, ρ => (evSrc c src ρ).bind fun xs ρ1 =>
      match compL (fun x ρ => match asg tg x ρ with
        | some ρ2 => (evIfs c ifs ρ2).bind fun k ρ3 => if k then (evE c elt ρ3).bind fun y ρ4 => .ok (some y) ρ4 else .ok none ρ3
        | none => .bad) own xs (wipeF (frzAt ρ1 own) own) [] with
      | .ok ys ρ2 => .ok (.lst true ys) (backAt (frzAt ρ1 own) ρ2 own)
      | _ => .bad
  | .compv elt tg i ifs own, ρ => (match lenAt ρ i, own.contains i with
    | some n, false => (match compV (fun x ρ => match asg tg x ρ with
        | some ρ2 => (evIfs c ifs ρ2).bind fun k ρ3 => if k then (evE c elt ρ3).bind fun y ρ4 => .ok (some y) ρ4 else .ok none ρ3
        | none => .bad) own i n n (wipeF (frzAt ρ own) own) [] with
      | .ok ys ρ2 => .ok (.lst true ys) (backAt (frzAt ρ own) ρ2 own)
      | _ => .bad)
    | _, _ => .bad)
/-- a test; run: its value -/
def evT (c : Cf) : IE → (Fr → Res PV) → Fr → Res Bool
  | .and a b, _, ρ => (evT c a (evE c a) ρ).bind fun k ρ1 => if k then evT c b (evE c b) ρ1 else .ok false ρ1
  | .or a b, _, ρ => (evT c a (evE c a) ρ).bind fun k ρ1 => if k then .ok true ρ1 else evT c b (evE c b) ρ1
  | .op .not [e], _, ρ => (evT c e (evE c e) ρ).bind fun k ρ1 => .ok (!k) ρ1
  | .op f es, run, ρ => asB (run ρ)
  | .chain _ _ _ _ _, run, ρ => asB (run ρ)
  | .dcmp _ _ _ _ _, run, ρ => asB (run ρ)
  | e, run, ρ => (opnd e run ρ).bind fun o ρ1 => match rsv ρ1 o with
    | some p => (match truth p with
      | some k => .ok k ρ1
      | none => .bad)
    | none => .bad
def evIfs (c : Cf) : List IE → Fr → Res Bool
  | [], ρ => .ok true ρ
  | [e], ρ => evT c e (evE c e) ρ
  | _, _ => .bad
def evO (c : Cf) : List IE → Fr → Res (List OV)
  | [], ρ => .ok [] ρ
  | e :: es, ρ => (opnd e (evE c e) ρ).bind fun o ρ1 => (evO c es ρ1).bind fun os ρ2 => .ok (o :: os) ρ2
def evL (c : Cf) : List IE → Fr → Res (List PV)
  | [], ρ => .ok [] ρ
  | e :: es, ρ => (evE c e ρ).bind fun p ρ1 => (evL c es ρ1).bind fun ps ρ2 => .ok (p :: ps) ρ2
def evA (c : Cf) : List Bool → List IE → Fr → Res (List OV)
  | _, [], ρ => .ok [] ρ
  | ls, e :: es, ρ => (opA (ls.headD false) e (evE c e) ρ).bind fun o ρ1 => (evA c ls.tail es ρ1).bind fun os ρ2 => .ok (o :: os) ρ2
def evSrc (c : Cf) : ISrc → Fr → Res (List PV)
  | .it e, ρ => (evE c e ρ).bind fun p ρ1 => match srcOf p.frz with
    | some xs => .ok xs ρ1
    | none => .bad
  | .rng es, ρ => (evO c es ρ).bind fun os ρ1 => match (rsvL ρ1 os).bind rngN with
    | some xs => .ok xs ρ1
    | none => .bad
  | .enm e, ρ => (argd false e (evE c e) ρ).bind fun a ρ1 => match enmP [a.1] with
    | some xs => .ok xs ρ1
    | none => .bad
  | .zp a b, ρ => (argd false a (evE c a) ρ).bind fun x ρ1 => (argd false b (evE c b) ρ1).bind fun y ρ2 => match zipP [x.1, y.1] with
    | some xs => .ok xs ρ2
    | none => .bad
end
def isLst : Option PV → Bool
  | some (.lst _ _) => true
  | _ => false
mutual
def evS (c : Cf) : IS → Fr → Res Fl
  | .set i e, ρ => (evE c e ρ).bind fun p ρ1 => if i < ρ1.length then .ok .nx (ρ1.set i (some p)) else .bad
  | .par is es, ρ => (evL c es ρ).bind fun ps ρ1 => match putL is ps ρ1 with
    | some ρ2 => .ok .nx ρ2
    | none => .bad
  | .asg tg e, ρ => (evE c e ρ).bind fun p ρ1 => match asg tg p.frz ρ1 with
    | some ρ2 => .ok .nx ρ2
    | none => .bad
  | .aug i o e, ρ => (match ρ.at i with
    | some q => (evE c e ρ).bind fun p ρ1 => (match q, p with
      | .int a, .int b => (match o with
        | .Add => .ok .nx (ρ1.set i (some (.int (a + b))))
        | .Sub => .ok .nx (ρ1.set i (some (.int (a - b))))
        | _ => .bad)
      | _, _ => .bad)
    | none => .bad)
  | .sub i ix e, ρ => (evE c e ρ).bind fun p ρ1 => if isLst (ρ1.at i) then (opnd ix (evE c ix) ρ1).bind fun o ρ2 => (match ρ2.at i, rsv ρ2 o with
    | some (.lst true xs), some (.int k) => (match L2.ixN xs.length k with
      | some j => .ok .nx (ρ2.set i (some (.lst true (xs.set j p.frz))))
      | none => .bad)
    | _, _ => .bad) else .bad
  | .app i e, ρ => if isLst (ρ.at i) then (evE c e ρ).bind fun p ρ1 => (match ρ1.at i with
    | some (.lst true xs) => if xs.length < sizeLine then .ok .nx (ρ1.set i (some (.lst true (xs ++ [p.frz])))) else .bad
    | _ => .bad) else .bad
  | .ext i e, ρ => if isLst (ρ.at i) then (evE c e ρ).bind fun p ρ1 => (match ρ1.at i, p.frz with
    | some (.lst true xs), .lst _ ys => if xs.length + ys.length ≤ sizeLine then .ok .nx (ρ1.set i (some (.lst true (xs ++ ys)))) else .bad
    | _, _ => .bad) else .bad
  | .exp e, ρ => (evE c e ρ).bind fun _ ρ1 => .ok .nx ρ1
  | .ret e, ρ => (evE c e ρ).bind fun p ρ1 => .ok (.rt p) ρ1
  | .retN, ρ => .ok (.rt .non) ρ
  | .ife t a b, ρ => (evT c t (evE c t) ρ).bind fun k ρ1 => if k then evB c a ρ1 else evB c b ρ1
  | .fors tg src body, ρ => (evSrc c src ρ).bind fun xs ρ1 => forL (fun x ρ => match asg tg x ρ with
      | some ρ2 => evB c body ρ2
      | none => .bad) xs ρ1
  | .forv tg i body, ρ => (match lenAt ρ i with
    | some n => forV (fun x ρ => match asg tg x ρ with
      | some ρ2 => evB c body ρ2
      | none => .bad) i n n ρ
    | none => .bad)
  | .whl t body, ρ => whlL (evT c t (evE c t)) (evB c body) c.fuel ρ
  | .brk, ρ => .ok .bk ρ
  | .cnt, ρ => .ok .ct ρ
  | .pas, ρ => .ok .nx ρ
  | .rai C fs es, ρ => (evL c es ρ).bind fun ps ρ1 => .ex ⟨C, fs.zip (PV.frzL ps)⟩ ρ1
def evB (c : Cf) : List IS → Fr → Res Fl
  | [], ρ => .ok .nx ρ
  | s :: r, ρ => match evS c s ρ with
    | .ok .nx ρ1 => evB c r ρ1
    | z => z
end
/-- a def of the text: how many slots, how many parameters, its body -/
structure Fd where
  n : Nat
  ps : Nat
  lend : List Bool
  body : List IS
/-- what a caller sees again: the slots that were lent -/
def maskF : List Bool → Fr → Fr
  | _, [] => []
  | [], _ :: r => none :: maskF [] r
  | b :: bs, x :: r => (if b then x else none) :: maskF bs r
def runF (c : Cf) (d : Fd) (as : List PV) : CR :=
  if as.length = d.ps then (match evB c d.body (as.map some ++ List.replicate (d.n - d.ps) none) with
    | .ok (.rt p) ρ => .ok p (maskF d.lend (ρ.take d.ps))
    | .ok .nx ρ => .ok .non (maskF d.lend (ρ.take d.ps))
    | .ok _ _ => .bad
    | .ex x ρ => .ex x (maskF d.lend (ρ.take d.ps))
    | .bad => .bad) else .bad
/-- the defs of the text by their keys -/
abbrev Tb := Str → Option Fd
def lendOf (T : Tb) (k : Str) : List Bool := match T k with
  | some d => d.lend
  | none => []
def callN (T : Tb) (fuel : Nat) : Nat → Str → List PV → CR
  | 0, _, _ => .bad
  | n + 1, k, as => match T k with
    | some d => runF ⟨callN T fuel n, lendOf T, fuel⟩ d as
    | none => .bad
mutual
theorem PV.frz_fz : ∀ (p : PV), p.frz.fz = true
  | .non => rfl
  | .bl b => rfl
  | .int i => rfl
  | .str x => rfl
  | .ty n => rfl
  | .fn k => rfl
  | .lst o xs => by simp only [PV.frz, PV.fz, PV.frzL_fz xs]; rfl
  | .lck xs => by simp only [PV.frz, PV.fz, PV.frzL_fz xs]
  | .tup xs => by simp only [PV.frz, PV.fz, PV.frzL_fz xs]
theorem PV.frzL_fz : ∀ (p : List PV), PV.fzL (PV.frzL p) = true
  | [] => rfl
  | x :: r => by simp only [PV.frzL, PV.fzL, PV.frz_fz x, PV.frzL_fz r]; rfl
end
mutual
theorem PV.fz_frz : ∀ (p : PV), p.fz = true → p.frz = p
  | .non, _ => rfl
  | .bl b, _ => rfl
  | .int i, _ => rfl
  | .str x, _ => rfl
  | .ty n, _ => rfl
  | .fn k, _ => rfl
  | .lst o xs, h => by
    simp only [PV.fz, Bool.and_eq_true, Bool.not_eq_true'] at h
    simp only [PV.frz, PV.fzL_frzL xs h.2, h.1]
  | .lck xs, h => by simp only [PV.fz] at h; simp only [PV.frz, PV.fzL_frzL xs h]
  | .tup xs, h => by simp only [PV.fz] at h; simp only [PV.frz, PV.fzL_frzL xs h]
theorem PV.fzL_frzL : ∀ (p : List PV), PV.fzL p = true → PV.frzL p = p
  | [], _ => rfl
  | x :: r, h => by
    simp only [PV.fzL, Bool.and_eq_true] at h
    simp only [PV.frzL, PV.fz_frz x h.1, PV.fzL_frzL r h.2]
end
end Y
end
section
set_option Elab.async false
set_option linter.all false
set_option maxRecDepth 100000
set_option maxHeartbeats 1000000
/-! Y2: pure values in the abstract heap: a frozen part G, cells that are held alone. -/
namespace Y
open PySem L2

abbrev Cell := Addr × HO
mutual
/-- p stands as v: what is frozen lies in G, what is held alone in the cells -/
inductive Rep (ad : Str → Addr) (K : PySem.W.Frag) (G : Hp) : PV → V → List Cell → Prop
  | non : Rep ad K G .non .non []
  | bl (b : Bool) : Rep ad K G (.bl b) (.bl b) []
  | int (i : Int) : Rep ad K G (.int i) (.int i) []
  | str (x : Str) : Rep ad K G (.str x) (.str x) []
  | ty (n : String) : Rep ad K G (.ty n) (.ty n) []
  | fn (k : Str) : Rep ad K G (.fn k) (.ref (ad k)) []
  | lstF {a : Addr} {xs : List PV} {vs : List V} {cs : List Cell} : G a = some (.lst vs) → RepL ad K G xs vs cs → Rep ad K G (.lst false xs) (.ref a) cs
  | lstO {a : Addr} {xs : List PV} {vs : List V} {cs : List Cell} : RepL ad K G xs vs cs → Rep ad K G (.lst true xs) (.ref a) ((a, .lst vs) :: cs)
  | lck {a : Addr} {xs : List PV} {vs : List V} : SqL K G a vs → RepL ad K G xs vs [] → Rep ad K G (.lck xs) (.ref a) []
  | tup {a : Addr} {xs : List PV} {vs : List V} {cs : List Cell} : G a = some (.tup vs) → RepL ad K G xs vs cs → Rep ad K G (.tup xs) (.ref a) cs
inductive RepL (ad : Str → Addr) (K : PySem.W.Frag) (G : Hp) : List PV → List V → List Cell → Prop
  | nil : RepL ad K G [] [] []
  | cons {x : PV} {xs : List PV} {v : V} {vs : List V} {c cs : List Cell} : Rep ad K G x v c → RepL ad K G xs vs cs → RepL ad K G (x :: xs) (v :: vs) (c ++ cs)
end
def Sub (G G' : Hp) : Prop := ∀ p o, G p = some o → G' p = some o
theorem Sub.refl (G : Hp) : Sub G G := fun _ _ h => h
theorem Sub.trans {G G1 G2 : Hp} (a : Sub G G1) (b : Sub G1 G2) : Sub G G2 := fun p o h => b p o (a p o h)
theorem Sub.rd {G G' : Hp} (s : Sub G G') {a : Addr} {u : HO} (h : Rd G a u) : Rd G' a u := h.elim (fun z => .inl (s _ _ z)) fun ⟨o, z⟩ => .inr ⟨o, s _ _ z⟩
theorem Sub.sql {K : PySem.W.Frag} {G G' : Hp} (s : Sub G G') {a : Addr} {vs : List V} (h : SqL K G a vs) : SqL K G' a vs := h.elim (fun z => .inl (s.rd z)) .inr

variable {ad : Str → Addr} {K : PySem.W.Frag} {G G' G1 G2 H H' H1 H2 : Hp}
mutual
theorem Rep.mono (s : Sub G G') : ∀ {p : PV} {v : V} {c : List Cell}, Rep ad K G p v c → Rep ad K G' p v c
  | _, _, _, .non => .non
  | _, _, _, .bl b => .bl b
  | _, _, _, .int i => .int i
  | _, _, _, .str x => .str x
  | _, _, _, .ty n => .ty n
  | _, _, _, .fn k => .fn k
  | _, _, _, .lstF h r => .lstF (s _ _ h) (RepL.mono s r)
  | _, _, _, .lstO r => .lstO (RepL.mono s r)
  | _, _, _, .lck h r => .lck (s.sql h) (RepL.mono s r)
  | _, _, _, .tup h r => .tup (s _ _ h) (RepL.mono s r)
theorem RepL.mono (s : Sub G G') : ∀ {p : List PV} {v : List V} {c : List Cell}, RepL ad K G p v c → RepL ad K G' p v c
  | _, _, _, .nil => .nil
  | _, _, _, .cons r t => .cons (Rep.mono s r) (RepL.mono s t)
end
mutual
/-- frozen: the cells have come into the frozen part -/
theorem Rep.frz (s : Sub G G') : ∀ {p : PV} {v : V} {c : List Cell}, Rep ad K G p v c → (∀ z ∈ c, G' z.1 = some z.2) → Rep ad K G' p.frz v []
  | _, _, _, .non, _ => .non
  | _, _, _, .bl b, _ => .bl b
  | _, _, _, .int i, _ => .int i
  | _, _, _, .str x, _ => .str x
  | _, _, _, .ty n, _ => .ty n
  | _, _, _, .fn k, _ => .fn k
  | _, _, _, .lstF h r, hc => .lstF (s _ _ h) (RepL.frz s r hc)
  | _, _, _, .lstO r, hc => .lstF (hc _ List.mem_cons_self) (RepL.frz s r fun z hz => hc z (List.mem_cons_of_mem _ hz))
  | _, _, _, .lck h r, _ => .lck (s.sql h) (RepL.frz s r fun _ z => nomatch z)
  | _, _, _, .tup h r, hc => .tup (s _ _ h) (RepL.frz s r hc)
theorem RepL.frz (s : Sub G G') : ∀ {p : List PV} {v : List V} {c : List Cell}, RepL ad K G p v c → (∀ z ∈ c, G' z.1 = some z.2) → RepL ad K G' (PV.frzL p) v []
  | _, _, _, .nil, _ => .nil
  | _, _, _, .cons r t, hc => .cons (c := []) (cs := []) (Rep.frz s r fun z hz => hc z (List.mem_append_left _ hz)) (RepL.frz s t fun z hz => hc z (List.mem_append_right _ hz))
end
mutual
theorem Rep.nocell : ∀ {p : PV} {v : V} {c : List Cell}, Rep ad K G p v c → p.fz = true → c = []
  | _, _, _, .non, _ => rfl
  | _, _, _, .bl b, _ => rfl
  | _, _, _, .int i, _ => rfl
  | _, _, _, .str x, _ => rfl
  | _, _, _, .ty n, _ => rfl
  | _, _, _, .fn k, _ => rfl
  | _, _, _, .lstF h r, e => RepL.nocell r (by simpa [PV.fz] using e)
  | _, _, _, .lstO r, h => absurd h (by simp [PV.fz])
  | _, _, _, .lck h r, _ => rfl
  | _, _, _, .tup (xs := xs) _ r, h => RepL.nocell r h
theorem RepL.nocell : ∀ {p : List PV} {v : List V} {c : List Cell}, RepL ad K G p v c → PV.fzL p = true → c = []
  | _, _, _, .nil, _ => rfl
  | _, _, _, .cons r t, h => by
    simp only [PV.fzL, Bool.and_eq_true] at h
    rw [Rep.nocell r h.1, RepL.nocell t h.2]
    rfl
end
theorem RepL.length : ∀ {p : List PV} {v : List V} {c : List Cell}, RepL ad K G p v c → p.length = v.length
  | _, _, _, .nil => rfl
  | _, _, _, .cons _ t => by simp [RepL.length t]
theorem RepL.get : ∀ {p : List PV} {v : List V} {c : List Cell}, RepL ad K G p v c → ∀ {i : Nat} {x : PV}, p[i]? = some x → ∃ w d, v[i]? = some w ∧ Rep ad K G x w d ∧ ∀ z ∈ d, z ∈ c
  | _, _, _, .nil, i, x, h => by simp at h
  | _, _, _, .cons r t, 0, x, h => by
    simp at h
    subst h
    exact ⟨_, _, rfl, r, fun z hz => List.mem_append_left _ hz⟩
  | _, _, _, .cons r t, i + 1, x, h => by
    obtain ⟨w, d, e1, e2, e3⟩ := RepL.get t (i := i) (x := x) (by simpa using h)
    exact ⟨w, d, by simpa using e1, e2, fun z hz => List.mem_append_right _ (e3 z hz)⟩
theorem RepL.append : ∀ {p q : List PV} {v w : List V} {c d : List Cell}, RepL ad K G p v c → RepL ad K G q w d → RepL ad K G (p ++ q) (v ++ w) (c ++ d)
  | _, _, _, _, _, _, .nil, s => s
  | _, _, _, _, _, _, .cons r t, s => by
    rw [List.append_assoc]
    exact .cons r (RepL.append t s)
theorem RepL.app0 {p q : List PV} {v w : List V} (a : RepL ad K G p v []) (b : RepL ad K G q w []) : RepL ad K G (p ++ q) (v ++ w) [] := RepL.append a b
theorem RepL.cons0 {x : PV} {xs : List PV} {v : V} {vs : List V} (a : Rep ad K G x v []) (b : RepL ad K G xs vs []) : RepL ad K G (x :: xs) (v :: vs) [] := .cons (c := []) (cs := []) a b
theorem RepL.inv0 {x : PV} {xs : List PV} {v : V} {vs : List V} (a : RepL ad K G (x :: xs) (v :: vs) []) : Rep ad K G x v [] ∧ RepL ad K G xs vs [] := by
  generalize e : ([] : List Cell) = c at a
  cases a with
  | cons r t =>
    obtain ⟨rfl, rfl⟩ := List.append_eq_nil_iff.mp e.symm
    exact ⟨r, t⟩
theorem RepL.inv0' {x : PV} {xs : List PV} {vs : List V} (a : RepL ad K G (x :: xs) vs []) : ∃ v ws, vs = v :: ws ∧ Rep ad K G x v [] ∧ RepL ad K G xs ws [] := by
  cases vs with
  | nil => nomatch a
  | cons v ws => exact ⟨v, ws, rfl, a.inv0⟩
theorem RepL.nil' {vs : List V} {c : List Cell} (a : RepL ad K G [] vs c) : vs = [] ∧ c = [] := by
  cases a
  exact ⟨rfl, rfl⟩
theorem RepL.take0 : ∀ (n : Nat) {p : List PV} {v : List V}, RepL ad K G p v [] → RepL ad K G (p.take n) (v.take n) []
  | 0, _, _, _ => .nil
  | n + 1, [], _, h => by obtain ⟨rfl, _⟩ := h.nil'; exact .nil
  | n + 1, x :: p, _, h => by
    obtain ⟨v, ws, rfl, h1, h2⟩ := h.inv0'
    exact .cons0 h1 (RepL.take0 n h2)
theorem RepL.drop0 : ∀ (n : Nat) {p : List PV} {v : List V}, RepL ad K G p v [] → RepL ad K G (p.drop n) (v.drop n) []
  | 0, _, _, h => h
  | n + 1, [], _, h => by obtain ⟨rfl, _⟩ := h.nil'; exact .nil
  | n + 1, x :: p, _, h => by
    obtain ⟨v, ws, rfl, h1, h2⟩ := h.inv0'
    exact RepL.drop0 n h2
theorem RepL.rev0 : ∀ {p : List PV} {v : List V}, RepL ad K G p v [] → RepL ad K G p.reverse v.reverse []
  | [], _, h => by obtain ⟨rfl, _⟩ := h.nil'; exact .nil
  | x :: p, _, h => by
    obtain ⟨v, ws, rfl, h1, h2⟩ := h.inv0'
    rw [List.reverse_cons, List.reverse_cons]
    exact (RepL.rev0 h2).app0 (.cons0 h1 .nil)
theorem RepL.rep0 {p : List PV} {v : List V} (h : RepL ad K G p v []) : ∀ n : Nat, RepL ad K G (List.replicate n p).flatten (List.replicate n v).flatten []
  | 0 => .nil
  | n + 1 => by
    rw [List.replicate_succ, List.replicate_succ, List.flatten_cons, List.flatten_cons]
    exact h.app0 (RepL.rep0 h n)
theorem RepL.set0 : ∀ (i : Nat) {p : List PV} {v : List V} {x : PV} {w : V}, RepL ad K G p v [] → Rep ad K G x w [] → RepL ad K G (p.set i x) (v.set i w) []
  | _, [], _, x, w, h, _ => by obtain ⟨rfl, _⟩ := h.nil'; exact .nil
  | 0, y :: p, _, x, w, h, r => by
    obtain ⟨v, ws, rfl, h1, h2⟩ := h.inv0'
    exact .cons0 r h2
  | i + 1, y :: p, _, x, w, h, r => by
    obtain ⟨v, ws, rfl, h1, h2⟩ := h.inv0'
    exact .cons0 h1 (RepL.set0 i h2 r)

/-! ### the slots -/
inductive Slots (ad : Str → Addr) (K : PySem.W.Frag) (G : Hp) : Fr → St → List Cell → Prop
  | nil : Slots ad K G [] [] []
  | none {v : Option V} {ρ : Fr} {σ : St} {c : List Cell} : Slots ad K G ρ σ c → Slots ad K G (none :: ρ) (v :: σ) c
  | some {p : PV} {v : V} {ρ : Fr} {σ : St} {c cs : List Cell} : Rep ad K G p v c → Slots ad K G ρ σ cs → Slots ad K G (some p :: ρ) (some v :: σ) (c ++ cs)
theorem Slots.length : ∀ {ρ : Fr} {σ : St} {c : List Cell}, Slots ad K G ρ σ c → ρ.length = σ.length
  | _, _, _, .nil => rfl
  | _, _, _, .none t => by simp [Slots.length t]
  | _, _, _, .some _ t => by simp [Slots.length t]
theorem Slots.mono (s : Sub G G') : ∀ {ρ : Fr} {σ : St} {c : List Cell}, Slots ad K G ρ σ c → Slots ad K G' ρ σ c
  | _, _, _, .nil => .nil
  | _, _, _, .none t => .none (Slots.mono s t)
  | _, _, _, .some r t => .some (r.mono s) (Slots.mono s t)
theorem at_cons_zero {x : Option PV} {ρ : Fr} : Fr.at (x :: ρ) 0 = x := rfl
theorem at_cons_succ {x : Option PV} {ρ : Fr} {i : Nat} : Fr.at (x :: ρ) (i + 1) = Fr.at ρ i := rfl
/-- the i-th slot is taken out -/
theorem Slots.out : ∀ {ρ : Fr} {σ : St} {c : List Cell}, Slots ad K G ρ σ c → ∀ {i : Nat} {p : PV}, Fr.at ρ i = Option.some p →
    ∃ v d r, σ[i]? = Option.some (Option.some v) ∧ Rep ad K G p v d ∧ Slots ad K G (ρ.set i Option.none) σ r ∧ c.Perm (d ++ r)
  | _, _, _, .nil, i, p, h => by cases i <;> cases h
  | _, _, _, .none (v := v) t, 0, p, h => by cases h
  | _, _, _, .none (v := v) t, i + 1, p, h => by
    obtain ⟨w, d, r, e1, e2, e3, e4⟩ := Slots.out t (i := i) (p := p) h
    exact ⟨w, d, r, by simpa using e1, e2, .none e3, e4⟩
  | _, _, _, .some (p := q) (v := v) r t, 0, p, h => by
    have e : q = p := Option.some.inj h
    subst e
    exact ⟨v, _, _, rfl, r, .none t, List.Perm.refl _⟩
  | _, _, _, .some (c := c) (cs := cs) r t, i + 1, p, h => by
    obtain ⟨w, d, s, e1, e2, e3, e4⟩ := Slots.out t (i := i) (p := p) h
    refine ⟨w, d, c ++ s, by simpa using e1, e2, .some r e3, ?_⟩
    refine (e4.append_left c).trans ?_
    rw [← List.append_assoc, ← List.append_assoc]
    exact List.perm_append_comm.append_right s
/-- the i-th slot is emptied: its cells go -/
theorem Slots.drop : ∀ {ρ : Fr} {σ : St} {c : List Cell}, Slots ad K G ρ σ c → ∀ (i : Nat), ∃ d r, Slots ad K G (ρ.set i Option.none) σ r ∧ c.Perm (d ++ r)
  | _, _, _, .nil, i => ⟨[], [], by cases i <;> exact .nil, List.Perm.refl _⟩
  | _, _, _, .none (v := v) t, 0 => ⟨[], _, .none t, List.Perm.refl _⟩
  | _, _, _, .none (v := v) t, i + 1 => by
    obtain ⟨d, r, e3, e4⟩ := Slots.drop t i
    exact ⟨d, r, .none e3, e4⟩
  | _, _, _, .some r t, 0 => ⟨_, _, .none t, List.Perm.refl _⟩
  | _, _, _, .some (c := c) (cs := cs) r t, i + 1 => by
    obtain ⟨d, s, e3, e4⟩ := Slots.drop t i
    refine ⟨d, c ++ s, .some r e3, ?_⟩
    refine (e4.append_left c).trans ?_
    rw [← List.append_assoc, ← List.append_assoc]
    exact List.perm_append_comm.append_right s
/-- an empty slot takes a value -/
theorem Slots.put : ∀ {ρ : Fr} {σ : St} {c : List Cell}, Slots ad K G ρ σ c → ∀ {i : Nat} {p : PV} {v : V} {d : List Cell}, Fr.at ρ i = Option.none → i < ρ.length → Rep ad K G p v d →
    ∃ r, Slots ad K G (ρ.set i (Option.some p)) (σ.set i (Option.some v)) r ∧ r.Perm (d ++ c)
  | _, _, _, .nil, i, p, v, d, _, hi, _ => by simp at hi
  | _, _, _, .none t, 0, p, v, d, _, _, r => ⟨_, .some r t, List.Perm.refl _⟩
  | _, _, _, .none t, i + 1, p, v, d, h, hi, r => by
    obtain ⟨s, e1, e2⟩ := Slots.put t (i := i) h (by simpa using hi) r
    exact ⟨s, .none e1, e2⟩
  | _, _, _, .some _ t, 0, p, v, d, h, _, _ => by cases h
  | _, _, _, .some (c := c) (cs := cs) q t, i + 1, p, v, d, h, hi, r => by
    obtain ⟨s, e1, e2⟩ := Slots.put t (i := i) h (by simpa using hi) r
    refine ⟨c ++ s, .some q e1, ?_⟩
    refine (e2.append_left c).trans ?_
    rw [← List.append_assoc, ← List.append_assoc]
    exact List.perm_append_comm.append_right _
theorem at_set_same {ρ : Fr} {i : Nat} {x : Option PV} (h : i < ρ.length) : Fr.at (ρ.set i x) i = x := by
  unfold Fr.at
  simp [List.getD, h]
theorem at_set_none {ρ : Fr} {i : Nat} : Fr.at (ρ.set i none) i = none := by
  unfold Fr.at
  rw [List.getD_eq_getElem?_getD, List.getElem?_set]
  split <;> (try split) <;> simp_all
theorem at_lt {ρ : Fr} {i : Nat} {p : PV} (h : Fr.at ρ i = some p) : i < ρ.length := by
  unfold Fr.at at h
  rw [List.getD_eq_getElem?_getD] at h
  cases q : ρ[i]? with
  | none => rw [q] at h; cases h
  | some x => exact (List.getElem?_eq_some_iff.mp q).1
theorem set_set_none {ρ : Fr} {i : Nat} {x y : Option PV} : (ρ.set i x).set i y = ρ.set i y := List.set_set ..
theorem set_same {α : Type} {σ : List α} {i : Nat} {v : α} (h : σ[i]? = some v) : σ.set i v = σ := by
  apply List.ext_getElem?
  intro j
  rw [List.getElem?_set]
  by_cases e : i = j
  · subst e
    rw [if_pos rfl]
    rw [if_pos (List.getElem?_eq_some_iff.mp h).1, h]
  · rw [if_neg e]
/-- any slot takes a value; what it held goes -/
theorem Slots.set {ρ : Fr} {σ : St} {c : List Cell} (s : Slots ad K G ρ σ c) {i : Nat} {p : PV} {v : V} {d : List Cell} (hi : i < ρ.length) (r : Rep ad K G p v d) :
    ∃ g r', Slots ad K G (ρ.set i (Option.some p)) (σ.set i (Option.some v)) r' ∧ (d ++ c).Perm (g ++ r') := by
  obtain ⟨g, r1, s1, p1⟩ := s.drop i
  obtain ⟨r2, s2, p2⟩ := s1.put (i := i) at_set_none (by simpa using hi) r
  rw [set_set_none] at s2
  refine ⟨g, r2, s2, ?_⟩
  refine (p1.append_left d).trans ?_
  refine List.Perm.trans ?_ ((p2.append_left g).symm)
  rw [← List.append_assoc, ← List.append_assoc]
  exact List.perm_append_comm.append_right r1

/-! ### the heap: frozen and held -/
def keys (c : List Cell) : List Addr := c.map (·.1)
structure Hold (G : Hp) (c : List Cell) (H : Hp) : Prop where
  fz : Sub G H
  at_ : ∀ z ∈ c, H z.1 = some z.2
  no : ∀ z ∈ c, G z.1 = none
  nd : (keys c).Nodup
structure Step (G : Hp) (c : List Cell) (H G' : Hp) (c' : List Cell) (H' : Hp) : Prop where
  fz : Sub G G'
  kp : ∀ p o, H p = some o → p ∉ keys c → H' p = some o
  nw : ∀ p, (G' p ≠ none ∨ p ∈ keys c') → G p ≠ none ∨ p ∈ keys c ∨ H p = none
theorem keys_perm {c d : List Cell} (h : c.Perm d) : (keys c).Perm (keys d) := h.map _
theorem keys_append {c d : List Cell} : keys (c ++ d) = keys c ++ keys d := by simp [keys]
theorem Hold.perm {c d : List Cell} (h : Hold G c H) (p : c.Perm d) : Hold G d H :=
  ⟨h.fz, fun z hz => h.at_ z (p.mem_iff.mpr hz), fun z hz => h.no z (p.mem_iff.mpr hz), (keys_perm p).nodup_iff.mp h.nd⟩
theorem Hold.left {c d : List Cell} (h : Hold G (c ++ d) H) : Hold G c H :=
  ⟨h.fz, fun z hz => h.at_ z (List.mem_append_left _ hz), fun z hz => h.no z (List.mem_append_left _ hz), by
    have := h.nd
    rw [keys_append] at this
    exact (List.nodup_append.mp this).1⟩
theorem Hold.right {c d : List Cell} (h : Hold G (c ++ d) H) : Hold G d H :=
  ⟨h.fz, fun z hz => h.at_ z (List.mem_append_right _ hz), fun z hz => h.no z (List.mem_append_right _ hz), by
    have := h.nd
    rw [keys_append] at this
    exact (List.nodup_append.mp this).2.1⟩
theorem Step.refl : Step G c H G c H := ⟨Sub.refl G, fun _ _ h _ => h, fun _ h => h.elim .inl fun h => .inr (.inl h)⟩
theorem Step.perm {c d c' d' : List Cell} (s : Step G c H G' c' H') (p : c.Perm d) (q : c'.Perm d') : Step G d H G' d' H' :=
  ⟨s.fz, fun a o h n => s.kp a o h fun z => n ((keys_perm p).mem_iff.mp z), fun a h => (s.nw a (h.elim .inl fun z => .inr ((keys_perm q).mem_iff.mpr z))).elim .inl fun z => .inr (z.elim (fun z => .inl ((keys_perm p).mem_iff.mp z)) .inr)⟩
/-- cells that are no longer told of -/
theorem Step.less {c c' d' : List Cell} (s : Step G c H G' c' H') (q : ∀ z ∈ d', z ∈ c') : Step G c H G' d' H' :=
  ⟨s.fz, s.kp, fun a h => s.nw a (h.elim .inl fun z => .inr (by
    obtain ⟨x, hx, rfl⟩ := List.mem_map.mp z
    exact List.mem_map.mpr ⟨x, q x hx, rfl⟩))⟩
theorem mem_keys {z : Cell} {c : List Cell} (h : z ∈ c) : z.1 ∈ keys c := List.mem_map.mpr ⟨z, h, rfl⟩
theorem Hold.key {c : List Cell} (h : Hold G c H) {p : Addr} (hp : p ∈ keys c) : G p = none ∧ ∃ o, H p = some o ∧ (p, o) ∈ c := by
  obtain ⟨z, hz, rfl⟩ := List.mem_map.mp hp
  exact ⟨h.no z hz, z.2, h.at_ z hz, hz⟩
theorem Hold.apart {c d : List Cell} (h : Hold G (c ++ d) H) {p : Addr} (hp : p ∈ keys c) : p ∉ keys d := by
  have := h.nd
  rw [keys_append] at this
  exact fun hd => (List.nodup_append.mp this).2.2 p hp p hd rfl
theorem Step.trans {c c1 c2 : List Cell} (a : Step G c H G1 c1 H1) (b : Step G1 c1 H1 G2 c2 H2) (h1 : Hold G1 c1 H1) : Step G c H G2 c2 H2 :=
  ⟨a.fz.trans b.fz, fun p o h n => b.kp p o (a.kp p o h n) fun z => (a.nw p (.inr z)).elim (fun g => by
      cases q : G p with
      | none => exact g q
      | some u =>
        have := a.fz p u q
        rw [(h1.key z).1] at this
        cases this) fun g => g.elim n fun g => (by rw [h] at g; cases g), fun p h => (b.nw p h).elim (fun g => a.nw p (.inl g)) fun g => g.elim (fun g => a.nw p (.inr g)) fun g => by
      cases q : H p with
      | none => exact .inr (.inr rfl)
      | some o =>
        by_cases hn : p ∈ keys c
        · exact .inr (.inl hn)
        · rw [a.kp p o q hn] at g; cases g⟩
/-- what happens beside the cells t leaves them -/
theorem Hold.frame {c1 c2 t : List Cell} (h1 : Hold G1 (c1 ++ t) H1) (b : Step G1 c1 H1 G2 c2 H2) (h2 : Hold G2 c2 H2) : Hold G2 (c2 ++ t) H2 := by
  have out : ∀ p, p ∈ keys t → ¬ (G2 p ≠ none ∨ p ∈ keys c2) := fun p hp hq => by
    obtain ⟨g, o, e, _⟩ := h1.right.key hp
    rcases b.nw p hq with z | z | z
    · exact z g
    · exact h1.apart z hp
    · rw [e] at z; cases z
  refine ⟨h2.fz, fun z hz => ?_, fun z hz => ?_, ?_⟩
  · rcases List.mem_append.mp hz with hz | hz
    · exact h2.at_ z hz
    · exact b.kp _ _ (h1.right.at_ z hz) fun q => h1.apart q (mem_keys hz)
  · rcases List.mem_append.mp hz with hz | hz
    · exact h2.no z hz
    · cases q : G2 z.1 with
      | none => rfl
      | some o => exact (out z.1 (mem_keys hz) (.inl (by rw [q]; exact fun e => by cases e))).elim
  · rw [keys_append]
    refine List.nodup_append.mpr ⟨h2.nd, h1.right.nd, fun p hp q hq e => ?_⟩
    subst e
    exact out p hq (.inr hp)
theorem Step.frame {c c1 c2 t : List Cell} (a : Step G c H G1 (c1 ++ t) H1) (b : Step G1 c1 H1 G2 c2 H2) (h1 : Hold G1 (c1 ++ t) H1) : Step G c H G2 (c2 ++ t) H2 := by
  have a1 : Step G c H G1 c1 H1 := a.less fun z hz => List.mem_append_left _ hz
  have r := a1.trans b h1.left
  refine ⟨r.fz, r.kp, fun p hp => ?_⟩
  rcases hp with hp | hp
  · exact r.nw p (.inl hp)
  · rw [keys_append] at hp
    rcases List.mem_append.mp hp with hp | hp
    · exact r.nw p (.inr hp)
    · exact a.nw p (.inr (by rw [keys_append]; exact List.mem_append_right _ hp))
theorem Step.fr0 {c1 c2 t : List Cell} (b : Step G1 c1 H1 G2 c2 H2) (h1 : Hold G1 (c1 ++ t) H1) : Step G1 (c1 ++ t) H1 G2 (c2 ++ t) H2 :=
  Step.frame (Step.refl (c := c1 ++ t)) b h1

/-! ### cells are frozen -/
def addc (G : Hp) (t : List Cell) : Hp := fun p => match t.lookup p with
  | some o => some o
  | none => G p
theorem lookup_mem : ∀ {t : List Cell} {p : Addr} {o : HO}, t.lookup p = some o → (p, o) ∈ t
  | [], _, _, h => by cases h
  | (q, u) :: t, p, o, h => by
    rw [List.lookup_cons] at h
    cases e : p == q with
    | true =>
      rw [e] at h
      have e1 : p = q := by simpa using e
      have e2 : u = o := Option.some.inj h
      rw [e1, e2]
      exact List.mem_cons_self
    | false =>
      rw [e] at h
      exact List.mem_cons_of_mem _ (lookup_mem h)
theorem lookup_of_mem : ∀ {t : List Cell}, (keys t).Nodup → ∀ {z : Cell}, z ∈ t → t.lookup z.1 = some z.2
  | [], _, z, h => by cases h
  | (q, u) :: t, nd, z, h => by
    rw [List.lookup_cons]
    have nd' := List.nodup_cons.mp (show (q :: keys t).Nodup from nd)
    rcases List.mem_cons.mp h with h2 | h2
    · rw [h2]; simp
    · have hk : z.1 ∈ keys t := mem_keys h2
      have : (z.1 == q) = false := by
        simp only [beq_eq_false_iff_ne, ne_eq]
        intro e
        exact nd'.1 (e ▸ hk)
      rw [this]
      exact lookup_of_mem nd'.2 h2
theorem lookup_none {t : List Cell} {p : Addr} (h : t.lookup p = none) : p ∉ keys t := fun hp => by
  induction t with
  | nil => cases hp
  | cons z t ih =>
    obtain ⟨q, u⟩ := z
    rw [List.lookup_cons] at h
    cases e : p == q with
    | true => rw [e] at h; cases h
    | false =>
      rw [e] at h
      rcases List.mem_cons.mp (show p ∈ q :: keys t from hp) with z | z
      · rw [z] at e; simp at e
      · exact ih h z
theorem addc_sub {c : List Cell} (h : Hold G c H) : Sub G (addc G c) := fun p o e => by
  unfold addc
  cases q : c.lookup p with
  | none => exact e
  | some u =>
    have := h.no _ (lookup_mem q)
    rw [show G p = none from this] at e
    cases e
theorem addc_at {c : List Cell} (h : Hold G c H) : ∀ z ∈ c, addc G c z.1 = some z.2 := fun z hz => by
  unfold addc
  rw [lookup_of_mem h.nd hz]
theorem Hold.absorb {c t : List Cell} (h : Hold G (c ++ t) H) : Hold (addc G t) c H := by
  refine ⟨fun p o e => ?_, h.left.at_, fun z hz => ?_, h.left.nd⟩
  · unfold addc at e
    cases q : t.lookup p with
    | none => rw [q] at e; exact h.fz p o e
    | some u =>
      rw [q] at e
      cases e
      exact h.right.at_ _ (lookup_mem q)
  · unfold addc
    cases q : t.lookup z.1 with
    | none => exact h.left.no z hz
    | some u => exact (h.apart (mem_keys hz) (mem_keys (z := (z.1, u)) (lookup_mem q))).elim
theorem Step.absorb {c c' t : List Cell} (s : Step G c H G' (c' ++ t) H') (h : Hold G' (c' ++ t) H') : Step G c H (addc G' t) c' H' := by
  refine ⟨s.fz.trans (addc_sub h.right), s.kp, fun p hp => s.nw p ?_⟩
  rcases hp with hp | hp
  · unfold addc at hp
    cases q : t.lookup p with
    | none => rw [q] at hp; exact .inl hp
    | some u => exact .inr (by rw [keys_append]; exact List.mem_append_right _ (mem_keys (lookup_mem q)))
  · exact .inr (by rw [keys_append]; exact List.mem_append_left _ hp)
theorem Rep.absorb {c t : List Cell} {p : PV} {v : V} (h : Hold G (c ++ t) H) (r : Rep ad K G p v t) : Rep ad K (addc G t) p.frz v [] := r.frz (addc_sub h.right) (addc_at h.right)

/-! ### a new object -/
theorem Hold.newF {c : List Cell} (h : Hold G c H) {p : Addr} (hp : H p = none) (o : HO) : Hold (upd G p o) c (upd H p o) ∧ Step G c H (upd G p o) c (upd H p o) := by
  have gp : G p = none := by
    cases q : G p with
    | none => rfl
    | some u => rw [h.fz p u q] at hp; cases hp
  have sub : Sub G (upd G p o) := fun a u e => by rw [upd_ne (ne_of_none e gp)]; exact e
  refine ⟨⟨fun a u e => ?_, fun z hz => ?_, fun z hz => ?_, h.nd⟩, ⟨sub, fun a u e _ => by rw [upd_ne (ne_of_none e hp)]; exact e, fun a ha => ?_⟩⟩
  · by_cases q : a = p
    · subst q; rw [upd_same] at e ⊢; exact e
    · rw [upd_ne q] at e ⊢; exact h.fz a u e
  · rw [upd_ne (ne_of_none (h.at_ z hz) hp)]; exact h.at_ z hz
  · rw [upd_ne (ne_of_none (h.at_ z hz) hp)]; exact h.no z hz
  · rcases ha with ha | ha
    · by_cases q : a = p
      · subst q; exact .inr (.inr hp)
      · rw [upd_ne q] at ha; exact .inl ha
    · exact .inr (.inl ha)
theorem Hold.newO {c : List Cell} (h : Hold G c H) {p : Addr} (hp : H p = none) (o : HO) : Hold G (c ++ [(p, o)]) (upd H p o) ∧ Step G c H G (c ++ [(p, o)]) (upd H p o) := by
  have gp : G p = none := by
    cases q : G p with
    | none => rfl
    | some u => rw [h.fz p u q] at hp; cases hp
  refine ⟨⟨fun a u e => by rw [upd_ne (ne_of_none e gp)]; exact h.fz a u e, fun z hz => ?_, fun z hz => ?_, ?_⟩, ⟨Sub.refl G, fun a u e _ => by rw [upd_ne (ne_of_none e hp)]; exact e, fun a ha => ?_⟩⟩
  · rcases List.mem_append.mp hz with hz | hz
    · rw [upd_ne (ne_of_none (h.at_ z hz) hp)]; exact h.at_ z hz
    · have e : z = (p, o) := by simpa using hz
      rw [e]; exact upd_same
  · rcases List.mem_append.mp hz with hz | hz
    · exact h.no z hz
    · have e : z = (p, o) := by simpa using hz
      rw [e]; exact gp
  · rw [keys_append]
    refine List.nodup_append.mpr ⟨h.nd, by simp [keys], fun a ha b hb e => ?_⟩
    subst e
    have e2 : a = p := by simpa [keys] using hb
    subst e2
    obtain ⟨_, u, e3, _⟩ := h.key ha
    rw [hp] at e3; cases e3
  · rcases ha with ha | ha
    · exact .inl ha
    · rw [keys_append] at ha
      rcases List.mem_append.mp ha with ha | ha
      · exact .inr (.inl ha)
      · have e2 : a = p := by simpa [keys] using ha
        subst e2
        exact .inr (.inr hp)
/-- a held cell is rewritten -/
theorem Hold.write {c : List Cell} {p : Addr} {o : HO} (h : Hold G ((p, o) :: c) H) (u : HO) : Hold G ((p, u) :: c) (upd H p u) ∧ Step G ((p, o) :: c) H G ((p, u) :: c) (upd H p u) := by
  have gp : G p = none := h.no (p, o) List.mem_cons_self
  have nd := List.nodup_cons.mp (show (p :: keys c).Nodup from h.nd)
  refine ⟨⟨fun a w e => by rw [upd_ne (ne_of_none e gp)]; exact h.fz a w e, fun z hz => ?_, fun z hz => ?_, h.nd⟩, ⟨Sub.refl G, fun a w e n => by
    rw [upd_ne fun q => n (by rw [q]; exact List.mem_cons_self)]; exact e, fun a ha => ha.elim .inl fun z => .inr (.inl z)⟩⟩
  · rcases List.mem_cons.mp hz with hz | hz
    · rw [hz]; exact upd_same
    · rw [upd_ne fun q => nd.1 (by rw [← q]; exact mem_keys hz)]; exact h.at_ z (List.mem_cons_of_mem _ hz)
  · rcases List.mem_cons.mp hz with hz | hz
    · rw [hz]; exact gp
    · exact h.no z (List.mem_cons_of_mem _ hz)
end Y
end
section
set_option Elab.async false
set_option linter.all false
set_option maxRecDepth 100000
set_option maxHeartbeats 4000000
set_option autoImplicit false
/-! Y2e: == and != of data without dicts (the texts may hold any signs). -/
namespace Y
open PySem PySem.SeqAt
mutual
def nod : PyData → Bool
  | .dict _ => false
  | .list ds => nodL ds
  | .tuple ds => nodL ds
  | _ => true
def nodL : List PyData → Bool
  | [] => true
  | d :: ds => nod d && nodL ds
end
mutual
theorem dat_nod : ∀ {p : PV} {d : PyData}, p.dat = some d → nod d = true
  | .non, _, e => by cases e; rfl
  | .bl b, _, e => by cases e; rfl
  | .int b, _, e => by cases e; rfl
  | .str b, _, e => by cases e; rfl
  | .ty b, _, e => by cases e
  | .fn b, _, e => by cases e
  | .lst o xs, _, e => by
    simp only [PV.dat] at e
    obtain ⟨ds, e1, e2⟩ := Option.map_eq_some_iff.mp e
    subst e2
    exact datL_nod e1
  | .lck xs, _, e => by
    simp only [PV.dat] at e
    obtain ⟨ds, e1, e2⟩ := Option.map_eq_some_iff.mp e
    subst e2
    exact datL_nod e1
  | .tup xs, _, e => by
    simp only [PV.dat] at e
    obtain ⟨ds, e1, e2⟩ := Option.map_eq_some_iff.mp e
    subst e2
    exact datL_nod e1
theorem datL_nod : ∀ {ps : List PV} {ds : List PyData}, PV.datL ps = some ds → nodL ds = true
  | [], _, e => by cases e; rfl
  | p :: ps, _, e => by
    simp only [PV.datL] at e
    split at e
    · rename_i d ds e1 e2
      cases e
      simp only [nodL, dat_nod e1, datL_nod e2, Bool.and_self]
    · cases e
end
section
variable {h : Heap}
mutual
/-- a value reads as one datum only -/
theorem one_dat : ∀ {d e : PyData} {v : Value} {as bs : List Addr}, nod d = true → Reads h v d as → Reads h v e bs → d = e
  | .none, _, _, _, _, _, r, q => by cases r; cases q; rfl
  | .bool _, _, _, _, _, _, r, q => by cases r; cases q; rfl
  | .int _, _, _, _, _, _, r, q => by cases r; cases q; rfl
  | .str _, _, _, _, _, _, r, q => by cases r; cases q; rfl
  | .dict _, _, _, _, _, z, _, _ => by cases z
  | .list ds, _, _, _, _, z, .list a1 a2 a3 a4, q => by
    cases q with
    | list b1 b2 b3 b4 =>
      have e1 := Option.some.inj (a1.symm.trans b1)
      subst e1
      have e3 := a3.symm.trans b3
      cases e3
      exact congrArg _ (all_dat z a4 b4)
    | tuple b1 b2 b3 b4 =>
      have e1 := Option.some.inj (a1.symm.trans b1)
      subst e1
      exact absurd (a2.symm.trans b2) (by simp)
    | dict b1 b2 b3 b4 b5 =>
      have e1 := Option.some.inj (a1.symm.trans b1)
      subst e1
      exact absurd (a2.symm.trans b2) (by simp)
  | .tuple ds, _, _, _, _, z, .tuple a1 a2 a3 a4, q => by
    cases q with
    | tuple b1 b2 b3 b4 =>
      have e1 := Option.some.inj (a1.symm.trans b1)
      subst e1
      have e3 := a3.symm.trans b3
      cases e3
      exact congrArg _ (all_dat z a4 b4)
    | list b1 b2 b3 b4 =>
      have e1 := Option.some.inj (a1.symm.trans b1)
      subst e1
      exact absurd (a2.symm.trans b2) (by simp)
    | dict b1 b2 b3 b4 b5 =>
      have e1 := Option.some.inj (a1.symm.trans b1)
      subst e1
      exact absurd (a2.symm.trans b2) (by simp)
theorem all_dat : ∀ {ds es : List PyData} {vs : List Value} {as bs : List Addr}, nodL ds = true → ReadsAll h vs ds as → ReadsAll h vs es bs → ds = es
  | [], _, _, _, _, _, r, q => by cases r; cases q; rfl
  | d :: ds, _, _, _, _, z, .cons r rs, .cons q qs => by
    simp only [nodL, Bool.and_eq_true] at z
    rw [one_dat z.1 r q, all_dat z.2 rs qs]
end
end
mutual
theorem eqv_one : ∀ {d : PyData}, nod d = true → PyData.eqv d d = true
  | .none, _ => rfl
  | .bool b, _ => by simp [PyData.eqv]
  | .int i, _ => by simp [PyData.eqv]
  | .str x, _ => by simp [PyData.eqv]
  | .list ds, z => by simp only [PyData.eqv]; exact eqv_all z
  | .tuple ds, z => by simp only [PyData.eqv]; exact eqv_all z
  | .dict _, z => by cases z
theorem eqv_all : ∀ {ds : List PyData}, nodL ds = true → PyData.eqvAll ds ds = true
  | [], _ => rfl
  | d :: ds, z => by
    simp only [nodL, Bool.and_eq_true] at z
    simp only [PyData.eqvAll, eqv_one z.1, eqv_all z.2, Bool.and_self]
end
/-- every pair of kinds but list with list and tuple with tuple -/
theorem eq_far {d e : PyData} {A : Around} {s : Shared} {a b : Value} {as bs : List Addr} (zd : nod d = true) (ze : nod e = true) (r : Reads s.heap a d as) (q : Reads s.heap b e bs) (hu : A.units < cLine)
    (f1 : ∀ xs ys, d = .list xs → e = .list ys → False) (f2 : ∀ xs ys, d = .tuple xs → e = .tuple ys → False) : EqAt A s a b (PyData.eqv d e) ∧ RcAt A s a b (PyData.eqv d e) ∧ RcNeAt A s a b (!PyData.eqv d e) := by
  cases r with
  | none =>
    cases q with
    | none => exact ⟨.same _, .none_none, .none_none⟩
    | bool => exact ⟨.none_bool _, .none_bool _, .none_bool _⟩
    | int => exact ⟨.none_int _ _, .none_int _ _, .none_int _ _⟩
    | str => exact ⟨.none_str _ _, .none_str _ _, .none_str _ _⟩
    | list q1 q2 q3 => exact ⟨.none_list ⟨_, q1, q2, _, q3⟩ hu, .none_list ⟨_, q1, q2, _, q3⟩ hu, .none_list ⟨_, q1, q2, _, q3⟩ hu⟩
    | tuple q1 q2 q3 => exact ⟨.none_tuple ⟨_, q1, q2, _, q3⟩ hu, .none_tuple ⟨_, q1, q2, _, q3⟩ hu, .none_tuple ⟨_, q1, q2, _, q3⟩ hu⟩
    | dict => cases ze
  | bool =>
    cases q with
    | none => exact ⟨.bool_none _, .bool_none _, .bool_none _⟩
    | bool => exact ⟨.bool_bool _ _, .bool_bool _ _, .bool_bool _ _⟩
    | int => exact ⟨.bool_int _ _ _, .bool_int _ _ _, .bool_int _ _ _⟩
    | str => exact ⟨.bool_str _ _ _, .bool_str _ _ _, .bool_str _ _ _⟩
    | list q1 q2 q3 => exact ⟨.bool_list _ ⟨_, q1, q2, _, q3⟩ hu, .bool_list _ ⟨_, q1, q2, _, q3⟩ hu, .bool_list _ ⟨_, q1, q2, _, q3⟩ hu⟩
    | tuple q1 q2 q3 => exact ⟨.bool_tuple _ ⟨_, q1, q2, _, q3⟩ hu, .bool_tuple _ ⟨_, q1, q2, _, q3⟩ hu, .bool_tuple _ ⟨_, q1, q2, _, q3⟩ hu⟩
    | dict => cases ze
  | int =>
    cases q with
    | none => exact ⟨.int_none _ _, .int_none _ _, .int_none _ _⟩
    | bool => exact ⟨.int_bool _ _ _, .int_bool _ _ _, .int_bool _ _ _⟩
    | int => exact ⟨.int_int _ _ _ _, .int_int _ _ _ _, .int_int _ _ _ _⟩
    | str => exact ⟨.int_str _ _ _ _, .int_str _ _ _ _, .int_str _ _ _ _⟩
    | list q1 q2 q3 => exact ⟨.int_list _ _ ⟨_, q1, q2, _, q3⟩ hu, .int_list _ _ ⟨_, q1, q2, _, q3⟩ hu, .int_list _ _ ⟨_, q1, q2, _, q3⟩ hu⟩
    | tuple q1 q2 q3 => exact ⟨.int_tuple _ _ ⟨_, q1, q2, _, q3⟩ hu, .int_tuple _ _ ⟨_, q1, q2, _, q3⟩ hu, .int_tuple _ _ ⟨_, q1, q2, _, q3⟩ hu⟩
    | dict => cases ze
  | str =>
    cases q with
    | none => exact ⟨.str_none _ _, .str_none _ _, .str_none _ _⟩
    | bool => exact ⟨.str_bool _ _ _, .str_bool _ _ _, .str_bool _ _ _⟩
    | int => exact ⟨.str_int _ _ _ _, .str_int _ _ _ _, .str_int _ _ _ _⟩
    | str => exact ⟨.str_str _ _ _ _, .str_str _ _ _ _, .str_str _ _ _ _⟩
    | list q1 q2 q3 => exact ⟨.str_list _ _ ⟨_, q1, q2, _, q3⟩ hu, .str_list _ _ ⟨_, q1, q2, _, q3⟩ hu, .str_list _ _ ⟨_, q1, q2, _, q3⟩ hu⟩
    | tuple q1 q2 q3 => exact ⟨.str_tuple _ _ ⟨_, q1, q2, _, q3⟩ hu, .str_tuple _ _ ⟨_, q1, q2, _, q3⟩ hu, .str_tuple _ _ ⟨_, q1, q2, _, q3⟩ hu⟩
    | dict => cases ze
  | list r1 r2 r3 =>
    cases q with
    | none => exact ⟨.list_none ⟨_, r1, r2, _, r3⟩ hu, .list_none ⟨_, r1, r2, _, r3⟩ hu, .list_none ⟨_, r1, r2, _, r3⟩ hu⟩
    | bool => exact ⟨.list_bool _ ⟨_, r1, r2, _, r3⟩ hu, .list_bool _ ⟨_, r1, r2, _, r3⟩ hu, .list_bool _ ⟨_, r1, r2, _, r3⟩ hu⟩
    | int => exact ⟨.list_int _ _ ⟨_, r1, r2, _, r3⟩ hu, .list_int _ _ ⟨_, r1, r2, _, r3⟩ hu, .list_int _ _ ⟨_, r1, r2, _, r3⟩ hu⟩
    | str => exact ⟨.list_str _ _ ⟨_, r1, r2, _, r3⟩ hu, .list_str _ _ ⟨_, r1, r2, _, r3⟩ hu, .list_str _ _ ⟨_, r1, r2, _, r3⟩ hu⟩
    | list => exact (f1 _ _ rfl rfl).elim
    | tuple q1 q2 q3 => exact ⟨.list_tuple ⟨_, r1, r2, _, r3⟩ ⟨_, q1, q2, _, q3⟩ hu, .list_tuple ⟨_, r1, r2, _, r3⟩ ⟨_, q1, q2, _, q3⟩ hu, .list_tuple ⟨_, r1, r2, _, r3⟩ ⟨_, q1, q2, _, q3⟩ hu⟩
    | dict => cases ze
  | tuple r1 r2 r3 =>
    cases q with
    | none => exact ⟨.tuple_none ⟨_, r1, r2, _, r3⟩ hu, .tuple_none ⟨_, r1, r2, _, r3⟩ hu, .tuple_none ⟨_, r1, r2, _, r3⟩ hu⟩
    | bool => exact ⟨.tuple_bool _ ⟨_, r1, r2, _, r3⟩ hu, .tuple_bool _ ⟨_, r1, r2, _, r3⟩ hu, .tuple_bool _ ⟨_, r1, r2, _, r3⟩ hu⟩
    | int => exact ⟨.tuple_int _ _ ⟨_, r1, r2, _, r3⟩ hu, .tuple_int _ _ ⟨_, r1, r2, _, r3⟩ hu, .tuple_int _ _ ⟨_, r1, r2, _, r3⟩ hu⟩
    | str => exact ⟨.tuple_str _ _ ⟨_, r1, r2, _, r3⟩ hu, .tuple_str _ _ ⟨_, r1, r2, _, r3⟩ hu, .tuple_str _ _ ⟨_, r1, r2, _, r3⟩ hu⟩
    | list q1 q2 q3 => exact ⟨.tuple_list ⟨_, r1, r2, _, r3⟩ ⟨_, q1, q2, _, q3⟩ hu, .tuple_list ⟨_, r1, r2, _, r3⟩ ⟨_, q1, q2, _, q3⟩ hu, .tuple_list ⟨_, r1, r2, _, r3⟩ ⟨_, q1, q2, _, q3⟩ hu⟩
    | tuple => exact (f2 _ _ rfl rfl).elim
    | dict => cases ze
  | dict => cases zd
/-- the items of two sequences, pair by pair -/
def Items (A : Around) (s : Shared) (vs ws : List Value) (ds es : List PyData) : Prop := ∀ j (h1 : j < vs.length) (h2 : j < ws.length), EqAt A s vs[j] ws[j] (pairEq ds es j)
theorem Items.at {A : Around} {s : Shared} {vs ws : Array Value} {ds es : List PyData} (I : Items A s vs.toList ws.toList ds es) (j : Nat) (a : j < vs.size) (b : j < ws.size) : EqAt A s vs[j] ws[j] (pairEq ds es j) := by
  have := I j (by simpa using a) (by simpa using b)
  simpa using this
theorem rc_lists {A : Around} {s : Shared} {l l' : Addr} {o o' : Obj} {vs ws : Array Value} {n n' : Nat} {ds es : List PyData} {as bs : List Addr} (h1 : s.heap.get? l = some o) (h2 : o.cls = .type "list") (h3 : o.data = .seq vs n) (h4 : ReadsAll s.heap vs.toList ds as)
    (k1 : s.heap.get? l' = some o') (k2 : o'.cls = .type "list") (k3 : o'.data = .seq ws n') (k4 : ReadsAll s.heap ws.toList es bs) (hu : A.units < cLine) (I : Items A.in1 s vs.toList ws.toList ds es) :
    RcAt A s (.ref l) (.ref l') (PyData.eqvAll ds es) ∧ RcNeAt A s (.ref l) (.ref l') (!PyData.eqvAll ds es) := by
  have z1 : vs.size = ds.length := by rw [← ReadsAll.length _ _ _ h4]; simp
  have z2 : ws.size = es.length := by rw [← ReadsAll.length _ _ _ k4]; simp
  by_cases hz : vs.size = ws.size
  · have e : PyData.eqvAll ds es = (List.range vs.size).all (pairEq ds es) := by
      rw [z1, eqvAll_same_length (by omega)]
    rw [e]
    exact ⟨.lists ⟨_, h1, h2, _, h3⟩ ⟨_, k1, k2, _, k3⟩ hz hu fun j a b => I.at j a b,
      .lists ⟨_, h1, h2, _, h3⟩ ⟨_, k1, k2, _, k3⟩ hz hu fun j a b => I.at j a b⟩
  · have e : PyData.eqvAll ds es = false := eqvAll_other_length (by omega)
    rw [e]
    exact ⟨.lists_lengths ⟨_, h1, h2, _, h3⟩ ⟨_, k1, k2, _, k3⟩ (by simpa using hz) hu, .lists_lengths ⟨_, h1, h2, _, h3⟩ ⟨_, k1, k2, _, k3⟩ (by simpa using hz) hu⟩
theorem rc_tuples {A : Around} {s : Shared} {l l' : Addr} {o o' : Obj} {vs ws : Array Value} {n n' : Nat} {ds es : List PyData} {as bs : List Addr} (h1 : s.heap.get? l = some o) (h2 : o.cls = .type "tuple") (h3 : o.data = .seq vs n) (h4 : ReadsAll s.heap vs.toList ds as)
    (k1 : s.heap.get? l' = some o') (k2 : o'.cls = .type "tuple") (k3 : o'.data = .seq ws n') (k4 : ReadsAll s.heap ws.toList es bs) (hu : A.units < cLine) (I : Items A.in1 s vs.toList ws.toList ds es) :
    RcAt A s (.ref l) (.ref l') (PyData.eqvAll ds es) ∧ RcNeAt A s (.ref l) (.ref l') (!PyData.eqvAll ds es) := by
  have z1 : vs.size = ds.length := by rw [← ReadsAll.length _ _ _ h4]; simp
  have z2 : ws.size = es.length := by rw [← ReadsAll.length _ _ _ k4]; simp
  have e : PyData.eqvAll ds es = ((List.range (min vs.size ws.size)).all (pairEq ds es) && vs.size == ws.size) := by
    rw [z1, z2]
    exact (eqvAll_eq ds es).symm
  rw [e]
  exact ⟨.tuples ⟨_, h1, h2, _, h3⟩ ⟨_, k1, k2, _, k3⟩ hu fun j a b => I.at j a b,
    .tuples ⟨_, h1, h2, _, h3⟩ ⟨_, k1, k2, _, k3⟩ hu fun j a b => I.at j a b⟩
mutual
theorem eq_any : ∀ {d e : PyData} {A : Around} {s : Shared} {a b : Value} {as bs : List Addr}, nod d = true → nod e = true → Reads s.heap a d as → Reads s.heap b e bs → A.units + d.depth < cLine → EqAt A s a b (PyData.eqv d e)
  | .list ds, .list es, A, s, .ref l, .ref l', _, _, zd, ze, .list h1 h2 h3 h4, .list k1 k2 k3 k4, hu => by
    simp only [PyData.depth] at hu
    by_cases e : l = l'
    · subst e
      have := one_dat zd (.list h1 h2 h3 h4) (.list k1 k2 k3 k4)
      rw [← this, eqv_one zd]
      exact .same _
    · simp only [PyData.eqv]
      exact .of_refs e (rc_lists h1 h2 h3 h4 k1 k2 k3 k4 (by omega) (eq_items zd ze h4 k4 (by show A.units + 1 + _ < _; omega))).1
  | .tuple ds, .tuple es, A, s, .ref l, .ref l', _, _, zd, ze, .tuple h1 h2 h3 h4, .tuple k1 k2 k3 k4, hu => by
    simp only [PyData.depth] at hu
    by_cases e : l = l'
    · subst e
      have := one_dat zd (.tuple h1 h2 h3 h4) (.tuple k1 k2 k3 k4)
      rw [← this, eqv_one zd]
      exact .same _
    · simp only [PyData.eqv]
      exact .of_refs e (rc_tuples h1 h2 h3 h4 k1 k2 k3 k4 (by omega) (eq_items zd ze h4 k4 (by show A.units + 1 + _ < _; omega))).1
  | .none, e, A, s, a, b, _, _, zd, ze, r, q, hu => (eq_far zd ze r q (by omega) (fun _ _ z => by cases z) fun _ _ z => by cases z).1
  | .bool _, e, A, s, a, b, _, _, zd, ze, r, q, hu => (eq_far zd ze r q (by omega) (fun _ _ z => by cases z) fun _ _ z => by cases z).1
  | .int _, e, A, s, a, b, _, _, zd, ze, r, q, hu => (eq_far zd ze r q (by omega) (fun _ _ z => by cases z) fun _ _ z => by cases z).1
  | .str _, e, A, s, a, b, _, _, zd, ze, r, q, hu => (eq_far zd ze r q (by omega) (fun _ _ z => by cases z) fun _ _ z => by cases z).1
  | .dict _, e, A, s, a, b, _, _, zd, ze, r, q, hu => by cases zd
  | .list _, .none, A, s, a, b, _, _, zd, ze, r, q, hu => (eq_far zd ze r q (by omega) (fun _ _ _ z => by cases z) fun _ _ z => by cases z).1
  | .list _, .bool _, A, s, a, b, _, _, zd, ze, r, q, hu => (eq_far zd ze r q (by omega) (fun _ _ _ z => by cases z) fun _ _ z => by cases z).1
  | .list _, .int _, A, s, a, b, _, _, zd, ze, r, q, hu => (eq_far zd ze r q (by omega) (fun _ _ _ z => by cases z) fun _ _ z => by cases z).1
  | .list _, .str _, A, s, a, b, _, _, zd, ze, r, q, hu => (eq_far zd ze r q (by omega) (fun _ _ _ z => by cases z) fun _ _ z => by cases z).1
  | .list _, .tuple _, A, s, a, b, _, _, zd, ze, r, q, hu => (eq_far zd ze r q (by omega) (fun _ _ _ z => by cases z) fun _ _ z => by cases z).1
  | .list _, .dict _, A, s, a, b, _, _, zd, ze, r, q, hu => by cases ze
  | .tuple _, .none, A, s, a, b, _, _, zd, ze, r, q, hu => (eq_far zd ze r q (by omega) (fun _ _ z => by cases z) fun _ _ _ z => by cases z).1
  | .tuple _, .bool _, A, s, a, b, _, _, zd, ze, r, q, hu => (eq_far zd ze r q (by omega) (fun _ _ z => by cases z) fun _ _ _ z => by cases z).1
  | .tuple _, .int _, A, s, a, b, _, _, zd, ze, r, q, hu => (eq_far zd ze r q (by omega) (fun _ _ z => by cases z) fun _ _ _ z => by cases z).1
  | .tuple _, .str _, A, s, a, b, _, _, zd, ze, r, q, hu => (eq_far zd ze r q (by omega) (fun _ _ z => by cases z) fun _ _ _ z => by cases z).1
  | .tuple _, .list _, A, s, a, b, _, _, zd, ze, r, q, hu => (eq_far zd ze r q (by omega) (fun _ _ z => by cases z) fun _ _ _ z => by cases z).1
  | .tuple _, .dict _, A, s, a, b, _, _, zd, ze, r, q, hu => by cases ze
theorem eq_items : ∀ {ds es : List PyData} {A : Around} {s : Shared} {vs ws : List Value} {as bs : List Addr}, nodL ds = true → nodL es = true → ReadsAll s.heap vs ds as → ReadsAll s.heap ws es bs → A.units + PyData.depthAll ds < cLine → Items A s vs ws ds es
  | [], _, A, s, _, _, _, _, _, _, .nil, _, _ => fun j h1 _ => absurd h1 (Nat.not_lt_zero _)
  | _ :: _, [], A, s, _, _, _, _, _, _, _, .nil, _ => fun j _ h2 => absurd h2 (Nat.not_lt_zero _)
  | d :: ds, e :: es, A, s, _, _, _, _, zd, ze, .cons r rs, .cons q qs, hu => fun j h1 h2 => by
    simp only [nodL, Bool.and_eq_true] at zd ze
    simp only [PyData.depthAll] at hu
    have m1 := Nat.le_max_left d.depth (PyData.depthAll ds)
    have m2 := Nat.le_max_right d.depth (PyData.depthAll ds)
    have u1 : A.units + d.depth < cLine := by omega
    have u2 : A.units + PyData.depthAll ds < cLine := by omega
    cases j with
    | zero => exact eq_any zd.1 ze.1 r q u1
    | succ j => exact eq_items zd.2 ze.2 rs qs u2 j (Nat.lt_of_succ_lt_succ h1) (Nat.lt_of_succ_lt_succ h2)
end
theorem cmp_any {d e : PyData} {A : Around} {s : Shared} {a b : Value} {as bs : List Addr} (zd : nod d = true) (ze : nod e = true) (r : Reads s.heap a d as) (q : Reads s.heap b e bs) (hu : A.units + d.depth < cLine) :
    RcAt A s a b (PyData.eqv d e) ∧ RcNeAt A s a b (!PyData.eqv d e) := by
  by_cases f1 : ∃ xs ys, d = .list xs ∧ e = .list ys
  · obtain ⟨xs, ys, rfl, rfl⟩ := f1
    cases r with
    | list h1 h2 h3 h4 =>
      cases q with
      | list k1 k2 k3 k4 =>
        simp only [PyData.depth] at hu
        simp only [PyData.eqv]
        exact rc_lists h1 h2 h3 h4 k1 k2 k3 k4 (by omega) (eq_items zd ze h4 k4 (by show A.units + 1 + _ < _; omega))
  · by_cases f2 : ∃ xs ys, d = .tuple xs ∧ e = .tuple ys
    · obtain ⟨xs, ys, rfl, rfl⟩ := f2
      cases r with
      | tuple h1 h2 h3 h4 =>
        cases q with
        | tuple k1 k2 k3 k4 =>
          simp only [PyData.depth] at hu
          simp only [PyData.eqv]
          exact rc_tuples h1 h2 h3 h4 k1 k2 k3 k4 (by omega) (eq_items zd ze h4 k4 (by show A.units + 1 + _ < _; omega))
    · exact (eq_far zd ze r q (by omega) (fun xs ys a b => f1 ⟨xs, ys, a, b⟩) fun xs ys a b => f2 ⟨xs, ys, a, b⟩).2
end Y
end
section
set_option Elab.async false
set_option linter.all false
set_option maxRecDepth 100000
set_option maxHeartbeats 2000000
/-! Y3: what an operation reads (views), and that each operation of the language is the model's. -/
namespace Y
open PySem L2
variable {ad : Str → Addr} {K : PySem.W.Frag} {G G' G1 G2 H H' H1 H2 : Hp}

/-- p is to be read at v -/
def Vw (ad : Str → Addr) (K : PySem.W.Frag) (G : Hp) (c : List Cell) (p : PV) (v : V) : Prop := ∃ d, Rep ad K G p v d ∧ ∀ z ∈ d, z ∈ c
inductive VwL (ad : Str → Addr) (K : PySem.W.Frag) (G : Hp) (c : List Cell) : List PV → List V → Prop
  | nil : VwL ad K G c [] []
  | cons {p : PV} {ps : List PV} {v : V} {vs : List V} : Vw ad K G c p v → VwL ad K G c ps vs → VwL ad K G c (p :: ps) (v :: vs)
theorem Rep.vw {c : List Cell} {p : PV} {v : V} (r : Rep ad K G p v []) : Vw ad K G c p v := ⟨[], r, fun _ h => nomatch h⟩
theorem VwL.one {c : List Cell} {p : PV} {vs : List V} (h : VwL ad K G c [p] vs) : ∃ v, vs = [v] ∧ Vw ad K G c p v := by
  cases h with
  | cons a t => cases t; exact ⟨_, rfl, a⟩
theorem VwL.two {c : List Cell} {p q : PV} {vs : List V} (h : VwL ad K G c [p, q] vs) : ∃ v w, vs = [v, w] ∧ Vw ad K G c p v ∧ Vw ad K G c q w := by
  cases h with
  | cons a t =>
    obtain ⟨w, rfl, b⟩ := t.one
    exact ⟨_, _, rfl, a, b⟩
theorem VwL.length {c : List Cell} : ∀ {ps : List PV} {vs : List V}, VwL ad K G c ps vs → ps.length = vs.length
  | _, _, .nil => rfl
  | _, _, .cons _ t => by simp [VwL.length t]
section
variable {c : List Cell} {v : V}
theorem Vw.int {i : Int} (h : Vw ad K G c (.int i) v) : v = .int i := by obtain ⟨d, r, _⟩ := h; cases r; rfl
theorem Vw.str {x : Str} (h : Vw ad K G c (.str x) v) : v = .str x := by obtain ⟨d, r, _⟩ := h; cases r; rfl
theorem Vw.bl {b : Bool} (h : Vw ad K G c (.bl b) v) : v = .bl b := by obtain ⟨d, r, _⟩ := h; cases r; rfl
theorem Vw.non (h : Vw ad K G c .non v) : v = .non := by obtain ⟨d, r, _⟩ := h; cases r; rfl
theorem Vw.ty {n : String} (h : Vw ad K G c (.ty n) v) : v = .ty n := by obtain ⟨d, r, _⟩ := h; cases r; rfl
theorem Vw.lst {o : Bool} {xs : List PV} (h : Vw ad K G c (.lst o xs) v) (hh : Hold G c H) : ∃ a vs d, v = .ref a ∧ H a = some (.lst vs) ∧ RepL ad K G xs vs d ∧ ∀ z ∈ d, z ∈ c := by
  obtain ⟨d, r, k⟩ := h
  cases r with
  | lstF e r => exact ⟨_, _, _, rfl, hh.fz _ _ e, r, k⟩
  | lstO r => exact ⟨_, _, _, rfl, hh.at_ _ (k _ List.mem_cons_self), r, fun z hz => k z (List.mem_cons_of_mem _ hz)⟩
theorem Vw.lck {xs : List PV} (h : Vw ad K G c (.lck xs) v) (hh : Hold G c H) : ∃ a vs, v = .ref a ∧ SqL K H a vs ∧ RepL ad K G xs vs [] := by
  obtain ⟨d, r, k⟩ := h
  cases r with
  | lck e r => exact ⟨_, _, rfl, hh.fz.sql e, r⟩
theorem Vw.tup {xs : List PV} (h : Vw ad K G c (.tup xs) v) (hh : Hold G c H) : ∃ a vs d, v = .ref a ∧ H a = some (.tup vs) ∧ RepL ad K G xs vs d ∧ ∀ z ∈ d, z ∈ c := by
  obtain ⟨d, r, k⟩ := h
  cases r with
  | tup e r => exact ⟨_, _, _, rfl, hh.fz _ _ e, r, k⟩
theorem Vw.seq {p : PV} {xs : List PV} (h : Vw ad K G c p v) (hh : Hold G c H) (e : seqOf p = some xs) : ∃ a vs d, v = .ref a ∧ (SqL K H a vs ∨ SqT K H a vs) ∧ RepL ad K G xs vs d ∧ ∀ z ∈ d, z ∈ c := by
  cases p with
  | lst o ys =>
    obtain rfl : ys = xs := Option.some.inj e
    obtain ⟨a, vs, d, e1, e2, r, k⟩ := h.lst hh
    exact ⟨a, vs, d, e1, .inl (.of e2), r, k⟩
  | lck ys =>
    obtain rfl : ys = xs := Option.some.inj e
    obtain ⟨a, vs, e1, e2, r⟩ := h.lck hh
    exact ⟨a, vs, [], e1, .inl e2, r, fun _ z => nomatch z⟩
  | tup ys =>
    obtain rfl : ys = xs := Option.some.inj e
    obtain ⟨a, vs, d, e1, e2, r, k⟩ := h.tup hh
    exact ⟨a, vs, d, e1, .inr (.of e2), r, k⟩
  | _ => cases e
end
theorem RepL.fz0 {xs : List PV} {vs : List V} {d : List Cell} (r : RepL ad K G xs vs d) (h : PV.fzL xs = true) : RepL ad K G xs vs [] := by
  have e := r.nocell h
  subst e
  exact r
theorem intsP_map : ∀ {xs : List PV} {ns : List Int}, intsP xs = some ns → xs = ns.map .int
  | [], ns, h => by cases h; rfl
  | .int i :: r, ns, h => by
    unfold intsP at h
    cases q : intsP r with
    | none => rw [q] at h; cases h
    | some ms => rw [q] at h; cases h; rw [intsP_map q]; rfl
  | .non :: r, ns, h => by cases h
  | .bl _ :: r, ns, h => by cases h
  | .str _ :: r, ns, h => by cases h
  | .ty _ :: r, ns, h => by cases h
  | .fn _ :: r, ns, h => by cases h
  | .lst _ _ :: r, ns, h => by cases h
  | .lck _ :: r, ns, h => by cases h
  | .tup _ :: r, ns, h => by cases h
theorem strsP_map : ∀ {xs : List PV} {ns : List Str}, strsP xs = some ns → xs = ns.map .str
  | [], ns, h => by cases h; rfl
  | .str i :: r, ns, h => by
    unfold strsP at h
    cases q : strsP r with
    | none => rw [q] at h; cases h
    | some ms => rw [q] at h; cases h; rw [strsP_map q]; rfl
  | .non :: r, ns, h => by cases h
  | .bl _ :: r, ns, h => by cases h
  | .int _ :: r, ns, h => by cases h
  | .ty _ :: r, ns, h => by cases h
  | .fn _ :: r, ns, h => by cases h
  | .lst _ _ :: r, ns, h => by cases h
  | .lck _ :: r, ns, h => by cases h
  | .tup _ :: r, ns, h => by cases h
theorem boolsP_map : ∀ {xs : List PV} {ns : List Bool}, boolsP xs = some ns → xs = ns.map .bl
  | [], ns, h => by cases h; rfl
  | .bl i :: r, ns, h => by
    unfold boolsP at h
    cases q : boolsP r with
    | none => rw [q] at h; cases h
    | some ms => rw [q] at h; cases h; rw [boolsP_map q]; rfl
  | .non :: r, ns, h => by cases h
  | .str _ :: r, ns, h => by cases h
  | .int _ :: r, ns, h => by cases h
  | .ty _ :: r, ns, h => by cases h
  | .fn _ :: r, ns, h => by cases h
  | .lst _ _ :: r, ns, h => by cases h
  | .lck _ :: r, ns, h => by cases h
  | .tup _ :: r, ns, h => by cases h
theorem RepL.ints : ∀ {ns : List Int} {vs : List V} {d : List Cell}, RepL ad K G (ns.map .int) vs d → vs = ns.map .int
  | [], _, _, h => (h.nil').1
  | n :: ns, _, _, h => by
    cases h with
    | cons r t => cases r; rw [RepL.ints t]; rfl
theorem RepL.strs : ∀ {ns : List Str} {vs : List V} {d : List Cell}, RepL ad K G (ns.map .str) vs d → vs = ns.map .str
  | [], _, _, h => (h.nil').1
  | n :: ns, _, _, h => by
    cases h with
    | cons r t => cases r; rw [RepL.strs t]; rfl
theorem RepL.bls : ∀ {ns : List Bool} {vs : List V} {d : List Cell}, RepL ad K G (ns.map .bl) vs d → vs = ns.map .bl
  | [], _, _, h => (h.nil').1
  | n :: ns, _, _, h => by
    cases h with
    | cons r t => cases r; rw [RepL.bls t]; rfl
theorem repL_ints (ns : List Int) : RepL ad K G (ns.map .int) (ns.map .int) [] := by
  induction ns with
  | nil => exact .nil
  | cons n ns ih => exact .cons0 (.int n) ih
theorem repL_strs (ns : List Str) : RepL ad K G (ns.map .str) (ns.map .str) [] := by
  induction ns with
  | nil => exact .nil
  | cons n ns ih => exact .cons0 (.str n) ih
mutual
theorem Rep.dp (s : Sub G H) {c : List Cell} (hc : ∀ z ∈ c, H z.1 = some z.2) : ∀ {p : PV} {v : V} {d : List Cell} {x : PyData}, Rep ad K G p v d → (∀ z ∈ d, z ∈ c) → p.dat = some x → Dp K H v x
  | _, _, _, x, .non, _, e => by cases e; exact .non
  | _, _, _, x, .bl b, _, e => by cases e; exact .bl b
  | _, _, _, x, .int i, _, e => by cases e; exact .int i
  | _, _, _, x, .str i, _, e => by cases e; exact .str i
  | _, _, _, x, .ty _, _, e => by cases e
  | _, _, _, x, .fn _, _, e => by cases e
  | _, _, _, x, .lstF (xs := xs) h r, k, e => by
    simp only [PV.dat] at e
    cases q : PV.datL xs with
    | none => rw [q] at e; cases e
    | some ds => rw [q] at e; cases e; exact .lst (.of (s _ _ h)) (RepL.dp s hc r k q)
  | _, _, _, x, .lstO (xs := xs) r, k, e => by
    simp only [PV.dat] at e
    cases q : PV.datL xs with
    | none => rw [q] at e; cases e
    | some ds => rw [q] at e; cases e; exact .lst (.of (hc _ (k _ List.mem_cons_self))) (RepL.dp s hc r (fun z hz => k z (List.mem_cons_of_mem _ hz)) q)
  | _, _, _, x, .lck (xs := xs) h r, k, e => by
    simp only [PV.dat] at e
    cases q : PV.datL xs with
    | none => rw [q] at e; cases e
    | some ds => rw [q] at e; cases e; exact .lst (s.sql h) (RepL.dp s hc r (fun _ z => nomatch z) q)
  | _, _, _, x, .tup (xs := xs) h r, k, e => by
    simp only [PV.dat] at e
    cases q : PV.datL xs with
    | none => rw [q] at e; cases e
    | some ds => rw [q] at e; cases e; exact .tup (.of (s _ _ h)) (RepL.dp s hc r k q)
theorem RepL.dp (s : Sub G H) {c : List Cell} (hc : ∀ z ∈ c, H z.1 = some z.2) : ∀ {p : List PV} {v : List V} {d : List Cell} {x : List PyData}, RepL ad K G p v d → (∀ z ∈ d, z ∈ c) → PV.datL p = some x → DpAll K H v x
  | _, _, _, x, .nil, _, e => by cases e; exact .nil
  | _, _, _, x, .cons (x := y) (xs := ys) r t, k, e => by
    simp only [PV.datL] at e
    cases q : y.dat with
    | none => rw [q] at e; cases e
    | some d =>
      cases q2 : PV.datL ys with
      | none => rw [q, q2] at e; cases e
      | some ds =>
        rw [q, q2] at e
        cases e
        exact .cons (Rep.dp s hc r (fun z hz => k z (List.mem_append_left _ hz)) q) (RepL.dp s hc t (fun z hz => k z (List.mem_append_right _ hz)) q2)
end
theorem Vw.dp {c : List Cell} {p : PV} {v : V} {x : PyData} (h : Vw ad K G c p v) (hh : Hold G c H) (e : p.dat = some x) : Dp K H v x := by
  obtain ⟨d, r, k⟩ := h
  exact r.dp hh.fz hh.at_ k e

/-- what an operation's reading asks: its arguments are to be read, the language knows the answer, and what follows holds of it -/
def RN (ad : Str → Addr) (K : PySem.W.Frag) (g : List PV → Option PV) : List V → Hp → VK → Prop := fun vs H Q => ∃ ps G c r, VwL ad K G c ps vs ∧ Hold G c H ∧ g ps = some r ∧
  ∀ v H' G' t, Step G c H G' (c ++ t) H' → Hold G' (c ++ t) H' → Rep ad K G' r v t → Q v H'
section
variable {c : List Cell} {Q : VK} {r : PV}
/-- the answer is a value that leaves the heap -/
theorem done0 (hh : Hold G c H) (k : ∀ v H' G' t, Step G c H G' (c ++ t) H' → Hold G' (c ++ t) H' → Rep ad K G' r v t → Q v H') {v : V} (hr : Rep ad K G r v []) : Q v H :=
  k v H G [] (by rw [List.append_nil]; exact Step.refl) (by rw [List.append_nil]; exact hh) hr
/-- .. a new list, held alone -/
theorem doneL (hh : Hold G c H) {xs : List PV} {vs : List V} (hr : RepL ad K G xs vs []) (k : ∀ v H' G' t, Step G c H G' (c ++ t) H' → Hold G' (c ++ t) H' → Rep ad K G' (.lst true xs) v t → Q v H') {p : Addr} (hp : H p = none) :
    Q (.ref p) (upd H p (.lst vs)) := by
  obtain ⟨h1, h2⟩ := hh.newO hp (.lst vs)
  exact k _ _ _ _ h2 h1 (.lstO hr)
/-- .. a new tuple -/
theorem doneT (hh : Hold G c H) {xs : List PV} {vs : List V} (hr : RepL ad K G xs vs []) (k : ∀ v H' G' t, Step G c H G' (c ++ t) H' → Hold G' (c ++ t) H' → Rep ad K G' (.tup xs) v t → Q v H') {p : Addr} (hp : H p = none) :
    Q (.ref p) (upd H p (.tup vs)) := by
  obtain ⟨h1, h2⟩ := hh.newF hp (.tup vs)
  exact k _ _ _ [] (by rw [List.append_nil]; exact h2) (by rw [List.append_nil]; exact h1) (.tup upd_same (hr.mono h2.fz))
end
theorem okS_le {n : Nat} (h : okS n = true) : n ≤ sizeLine := of_decide_eq_true h

section
variable {X : Cx}
theorem rn2 {f : Value → Value → Sem Value} {g : PV → PV → Option PV}
    (h : ∀ (p q r : PV), g p q = some r → ∀ (pins : List (Addr × Obj)) (s : Shared) (σ : St) (G H : Hp) (c : List Cell) (x y : V) (v u : Value) (Q : VK), Inv X pins σ H s → RelV x v → RelV y u → Vw ad X.K G c p x → Vw ad X.K G c q y → Hold G c H →
      (∀ w H' G' t, Step G c H G' (c ++ t) H' → Hold G' (c ++ t) H' → Rep ad X.K G' r w t → Q w H') → wpAny (model X.prog X.w) X.A (f v u) (EP X pins σ Q) X.xe s) {gl : List PV → Option PV} (hg : ∀ p q, gl [p, q] = g p q) :
    OpR X f fun x y H Q => RN ad X.K gl [x, y] H Q := by
  intro pins s σ H x y v u Q I rx ry ⟨ps, G, c, r, hv, hh, e, k⟩
  cases hv with
  | cons a t =>
    cases t with
    | cons b t =>
      cases t
      rw [hg] at e
      exact h _ _ r e pins s σ G H c x y v u Q I rx ry a b hh k
theorem cdat_some {p q : PV} {z : PyData × PyData} (h : cdat p q = some z) : p.dat = some z.1 ∧ q.dat = some z.2 ∧ z.1.depth ≤ 60 := by
  unfold cdat at h
  cases e1 : p.dat with
  | none => rw [e1] at h; cases h
  | some d =>
    cases e2 : q.dat with
    | none => rw [e1, e2] at h; cases h
    | some e =>
      rw [e1, e2] at h
      dsimp only at h
      split at h
      · rename_i hs
        cases h
        exact ⟨rfl, rfl, of_decide_eq_true hs⟩
      · cases h
theorem flatIn_some {p : PV} {xs : List PV} {b : Bool} (h : flatIn p xs = some b) : ∃ d ds, p.dat = some d ∧ PV.datL xs = some ds ∧ b = ds.any fun z => PyData.eqv z d := by
  unfold flatIn at h
  cases e1 : p.dat with
  | none => rw [e1] at h; cases h
  | some d =>
    cases e2 : PV.datL xs with
    | none => rw [e1, e2] at h; cases h
    | some ds =>
      rw [e1, e2] at h
      exact ⟨d, ds, rfl, rfl, (Option.some.inj h).symm⟩
theorem inSeq_some {p : PV} {xs : List PV} {b : Bool} (h : inSeq p xs = some b) : ∃ d ds, p.dat = some d ∧ PV.datL xs = some ds ∧ SeqAt.shaped d = true ∧ SeqAt.shaped (.list ds) = true ∧ b = ds.any fun z => PyData.eqv z d := by
  unfold inSeq at h
  cases e1 : p.dat with
  | none => rw [e1] at h; cases h
  | some d =>
    cases e2 : PV.datL xs with
    | none => rw [e1, e2] at h; cases h
    | some ds =>
      rw [e1, e2] at h
      dsimp only at h
      split at h
      · rename_i hs
        rw [Bool.and_eq_true] at hs
        exact ⟨d, ds, rfl, rfl, hs.1, hs.2, (Option.some.inj h).symm⟩
      · cases h
theorem op_bin (o : Operator) : OpR X (binaryOp o) fun x y H Q => RN ad X.K (opN (.bin o)) [x, y] H Q := by
  refine rn2 (g := binN o) ?_ fun _ _ => rfl
  intro p q r e pins s σ G H c x y v u Q I rx ry vp vq hh k
  unfold binN at e
  split at e
  · -- int + int
    cases e
    obtain rfl := vp.int
    obtain rfl := vq.int
    exact op_add pins s σ H _ _ v u Q I rx ry ⟨_, _, rfl, rfl, done0 hh k (.int _)⟩
  · -- str + str
    split at e
    · rename_i hz
      cases e
      obtain rfl := vp.str
      obtain rfl := vq.str
      exact op_add_str pins s σ H _ _ v u Q I rx ry ⟨_, _, rfl, rfl, okS_le hz, done0 hh k (.str _)⟩
    · cases e
  · -- list + list
    split at e
    · rename_i hz
      cases e
      simp only [Bool.and_eq_true] at hz
      obtain ⟨a, vs, d, rfl, h1, r1, _⟩ := vp.lst hh
      obtain ⟨b, ws, d', rfl, h2, r2, _⟩ := vq.lst hh
      have r1' := r1.fz0 hz.1.2
      have r2' := r2.fz0 hz.2
      refine op_cat pins s σ H _ _ v u Q I rx ry ⟨a, b, vs, ws, rfl, rfl, h1, h2, ?_, fun l hl => doneL hh (r1'.app0 r2') k hl⟩
      rw [← r1.length, ← r2.length]
      exact okS_le hz.1.1
    · cases e
  · -- tuple + tuple
    split at e
    · rename_i hz
      cases e
      simp only [Bool.and_eq_true, Bool.not_eq_true'] at hz
      rename_i xs ys
      obtain ⟨a, vs, d, rfl, h1, r1, _⟩ := vp.tup hh
      obtain ⟨b, ws, d', rfl, h2, r2, k2⟩ := vq.tup hh
      have r1' := r1.fz0 hz.1.1.2
      have r2' := r2.fz0 hz.1.2
      have hlen : vs.length + ws.length ≤ sizeLine := by
        rw [← r1.length, ← r2.length]
        exact okS_le hz.1.1.1
      have hne : vs ≠ [] := fun z => by
        have := r1.length
        rw [z] at this
        have : xs = [] := List.eq_nil_of_length_eq_zero this
        rw [this] at hz
        exact absurd hz.2 (by simp)
      obtain ⟨e0, re0, _⟩ := vp
      refine op_catA pins s σ H _ _ v u Q I rx ry ⟨a, b, vs, ws, rfl, rfl, .of h1, .of h2, hlen, fun z => absurd z hne, fun _ z => ?_, fun _ _ l hl => doneT hh (r1'.app0 r2') k hl⟩
      subst z
      have : ys = [] := List.eq_nil_of_length_eq_zero (r2.length.trans rfl)
      subst this
      rw [List.append_nil] at k
      refine done0 hh k ?_
      cases re0 with
      | tup g r => exact .tup g (r.fz0 hz.1.1.2)
    · cases e
  · cases e
    obtain rfl := vp.int
    obtain rfl := vq.int
    exact op_sub pins s σ H _ _ v u Q I rx ry ⟨_, _, rfl, rfl, done0 hh k (.int _)⟩
  · split at e
    · rename_i hz
      cases e
      obtain rfl := vp.int
      obtain rfl := vq.int
      exact op_mul pins s σ H _ _ v u Q I rx ry ⟨_, _, rfl, rfl, (by have hz' := of_decide_eq_true hz; exact hz'), done0 hh k (.int _)⟩
    · cases e
  · split at e
    · rename_i hz
      cases e
      obtain rfl := vp.str
      obtain rfl := vq.int
      obtain ⟨t1, rfl⟩ := rx
      obtain ⟨t2, rfl⟩ := ry
      exact PySem.SB.mul (of_decide_eq_true hz) fun t' k' => ⟨.str _, H, I.tok _, ⟨_, rfl⟩, done0 hh k (.str _)⟩
    · cases e
  · split at e
    · rename_i hz
      cases e
      simp only [Bool.and_eq_true] at hz
      obtain ⟨a, vs, d, rfl, h1, r1, _⟩ := vp.lst hh
      obtain rfl := vq.int
      have hb := of_decide_eq_true hz.1.2
      refine op_rep pins s σ H _ _ v u Q I rx ry ⟨a, _, vs, rfl, rfl, h1, hb.1, hb.2, ?_, fun l hl => doneL hh ((r1.fz0 hz.2).rep0 _) k hl⟩
      rw [← r1.length]
      exact okS_le hz.1.1
    · cases e
  · split at e
    · rename_i hz
      cases e
      obtain rfl := vp.int
      obtain rfl := vq.int
      exact op_mod pins s σ H _ _ v u Q I rx ry ⟨_, _, rfl, rfl, (by have hz' := of_decide_eq_true hz; exact hz'), done0 hh k (.int _)⟩
    · cases e
  · split at e
    · rename_i hz
      cases e
      obtain rfl := vp.int
      obtain rfl := vq.int
      exact op_fdivW pins s σ H _ _ v u Q I rx ry ⟨_, _, rfl, rfl, (by have hz' := of_decide_eq_true hz; exact hz'), done0 hh k (.int _)⟩
    · cases e
  · split at e
    · rename_i hz
      cases e
      obtain rfl := vp.int
      obtain rfl := vq.int
      exact op_pow pins s σ H _ _ v u Q I rx ry ⟨_, _, rfl, rfl, (by have hz' := of_decide_eq_true hz; exact hz'), done0 hh k (.int _)⟩
    · cases e
  · cases e
theorem eqv_flat {p q : PV} {d e : PyData} (fp : flat p = true) (fq : flat q = true) (hp : p.dat = some d) (hq : q.dat = some e) {x y : V} {c : List Cell} (vp : Vw ad K G c p x) (vq : Vw ad K G c q y) : flatV x = true ∧ flatV y = true ∧ eqV x y = PyData.eqv d e := by
  cases p <;> first
    | exact absurd (show false = true from fp) Bool.false_ne_true
    | skip
  all_goals cases q <;> first
    | exact absurd (show false = true from fq) Bool.false_ne_true
    | skip
  all_goals
    cases hp
    cases hq
    obtain ⟨_, r1, _⟩ := vp
    obtain ⟨_, r2, _⟩ := vq
    cases r1
    cases r2
    refine ⟨rfl, rfl, ?_⟩
    simp [eqV, PyData.eqv]
theorem any_flat {p : PV} {d : PyData} (fp : flat p = true) (hp : p.dat = some d) {x : V} {c : List Cell} (vp : Vw ad K G c p x) : ∀ {xs : List PV} {ds : List PyData} {vs : List V} {e : List Cell}, xs.all flat = true → PV.datL xs = some ds → RepL ad K G xs vs e → (∀ z ∈ e, z ∈ c) →
    vs.all flatV = true ∧ inV x vs = ds.any fun z => PyData.eqv z d
  | [], _, _, _, _, e, r, _ => by
    cases e
    obtain ⟨rfl, _⟩ := r.nil'
    exact ⟨rfl, rfl⟩
  | y :: ys, _, _, _, f, e, r, k => by
    simp only [List.all_cons, Bool.and_eq_true] at f
    simp only [PV.datL] at e
    cases q : y.dat with
    | none => rw [q] at e; cases e
    | some dy =>
      cases q2 : PV.datL ys with
      | none => rw [q, q2] at e; cases e
      | some ds =>
        rw [q, q2] at e
        cases e
        cases r with
        | cons r t =>
          obtain ⟨h1, h2⟩ := any_flat fp hp vp f.2 q2 t fun z hz => k z (List.mem_append_right _ hz)
          obtain ⟨h3, h4, h5⟩ := eqv_flat f.1 fp q hp (⟨_, r, fun z hz => k z (List.mem_append_left _ hz)⟩ : Vw ad K G c y _) vp
          refine ⟨by rw [List.all_cons, h3, h1]; rfl, ?_⟩
          unfold inV at h2 ⊢
          rw [List.any_cons, List.any_cons, h5, h2]
theorem done_bl {c : List Cell} {Q : VK} {b b' : Bool} (hh : Hold G c H) (k : ∀ v H' G' t, Step G c H G' (c ++ t) H' → Hold G' (c ++ t) H' → Rep ad K G' (.bl b) v t → Q v H') (e : b' = b) : Q (.bl b') H := by
  subst e
  exact done0 hh k (.bl _)
theorem op_cmpN (hu : X.A.units + 65 < cLine) (o : CmpOp) : OpR X (compareOp o) fun x y H Q => RN ad X.K (opN (.cmp o)) [x, y] H Q := by
  refine rn2 (g := fun p q => (cmpN o p q).map .bl) ?_ fun _ _ => rfl
  intro p q r e pins s σ G H c x y v u Q I rx ry vp vq hh k
  cases e0 : cmpN o p q with
  | none => rw [e0] at e; cases e
  | some b =>
    rw [e0] at e
    cases e
    unfold cmpN at e0
    split at e0
    · cases e1 : cdat p q with
      | none => rw [e1] at e0; cases e0
      | some z =>
        rw [e1] at e0
        cases e0
        obtain ⟨h1, h2, h3⟩ := cdat_some e1
        obtain ⟨as, r1⟩ := Dp.reads I _ x v (vp.dp hh h1) rx
        obtain ⟨bs, r2⟩ := Dp.reads I _ y u (vq.dp hh h2) ry
        exact (cmp_any (dat_nod h1) (dat_nod h2) r1 r2 (by omega)).1 _ _ _ _ ⟨.bl _, H, I, rfl, done0 hh k (.bl _)⟩
    · cases e1 : cdat p q with
      | none => rw [e1] at e0; cases e0
      | some z =>
        rw [e1] at e0
        cases e0
        obtain ⟨h1, h2, h3⟩ := cdat_some e1
        obtain ⟨as, r1⟩ := Dp.reads I _ x v (vp.dp hh h1) rx
        obtain ⟨bs, r2⟩ := Dp.reads I _ y u (vq.dp hh h2) ry
        exact (cmp_any (dat_nod h1) (dat_nod h2) r1 r2 (by omega)).2 _ _ _ _ ⟨.bl _, H, I, rfl, done0 hh k (.bl _)⟩
    · cases e0
      obtain rfl := vp.int
      obtain rfl := vq.int
      exact op_lt pins s σ H _ _ v u Q I rx ry ⟨_, _, rfl, rfl, done0 hh k (.bl _)⟩
    · cases e0
      obtain rfl := vp.int
      obtain rfl := vq.int
      exact op_le pins s σ H _ _ v u Q I rx ry ⟨_, _, rfl, rfl, done0 hh k (.bl _)⟩
    · cases e0
      obtain rfl := vp.int
      obtain rfl := vq.int
      exact op_gt pins s σ H _ _ v u Q I rx ry ⟨_, _, rfl, rfl, done0 hh k (.bl _)⟩
    · cases e0
      obtain rfl := vp.int
      obtain rfl := vq.int
      exact op_ge pins s σ H _ _ v u Q I rx ry ⟨_, _, rfl, rfl, done0 hh k (.bl _)⟩
    · cases e0
      obtain rfl := vp.str
      obtain rfl := vq.str
      exact op_lt_str pins s σ H _ _ v u Q I rx ry ⟨_, _, rfl, rfl, done0 hh k (.bl _)⟩
    · rename_i xs ys
      unfold ltD at e0
      cases e1 : (PV.tup xs).dat with
      | none => rw [e1] at e0; cases e0
      | some d =>
        cases e2 : (PV.tup ys).dat with
        | none => rw [e1, e2] at e0; cases e0
        | some e =>
          rw [e1, e2] at e0
          dsimp only at e0
          split at e0
          case isFalse => cases e0
          rename_i hc
          cases e0
          rw [Bool.and_eq_true, decide_eq_true_eq] at hc
          obtain ⟨as, r1⟩ := Dp.reads I d x v (vp.dp hh e1) rx
          obtain ⟨bs, r2⟩ := Dp.reads I e y u (vq.dp hh e2) ry
          refine PySem.W.lt_data r1 r2 hc.1 (fun z => ?_) (by omega) ⟨.bl _, H, I, rfl, done0 hh k (.bl _)⟩
          subst z
          simp only [PV.dat] at e1
          cases q : PV.datL xs with
          | none => rw [q] at e1; cases e1
          | some ds => rw [q] at e1; cases e1
    · cases e0
      obtain rfl := vp.str
      obtain rfl := vq.str
      refine op_le_str pins s σ H _ _ v u Q I rx ry ⟨_, _, rfl, rfl, done_bl hh k ?_⟩
      rename_i i j
      by_cases hlt : j.cps.toList < i.cps.toList
      · have : ¬ i.cps.toList ≤ j.cps.toList := fun z => z hlt
        simp [hlt, this]
      · have : i.cps.toList ≤ j.cps.toList := hlt
        simp [hlt, this]
    · -- is None
      obtain rfl := vq.non
      refine op_isN pins s σ H _ _ v u Q I rx ry ⟨rfl, ?_⟩
      refine done_bl hh k ?_
      obtain ⟨_, r, _⟩ := vp
      split at e0
      · cases e0; cases r; rfl
      · rename_i hne
        cases e0
        cases r <;> first
          | exact absurd rfl hne
          | simp
    · obtain rfl := vq.non
      refine op_notN pins s σ H _ _ v u Q I rx ry ⟨rfl, ?_⟩
      refine done_bl hh k ?_
      obtain ⟨_, r, _⟩ := vp
      split at e0
      · cases e0; cases r; rfl
      · rename_i hne
        cases e0
        cases r <;> first
          | exact absurd rfl hne
          | simp
    · -- in a list
      split at e0
      · rename_i hf
        rw [Bool.and_eq_true] at hf
        obtain ⟨d, ds, h1, h2, rfl⟩ := flatIn_some e0
        obtain ⟨a, vs, e, rfl, ha, ra, ka⟩ := vq.lst hh
        obtain ⟨q1, q2⟩ := any_flat hf.1 h1 vp hf.2 h2 ra ka
        refine op_in_seq pins s σ H _ _ v u Q I rx ry ⟨a, vs, rfl, .inl (.of ha), ?_, q1, ?_⟩
        · cases p <;> first
            | exact absurd (show false = true from hf.1) Bool.false_ne_true
            | (obtain ⟨_, r, _⟩ := vp; cases r; rfl)
        · rw [if_neg Bool.false_ne_true]
          exact done_bl hh k q2
      · obtain ⟨d, ds, h1, h2, h3, h4, rfl⟩ := inSeq_some e0
        exact op_inD (by omega) pins s σ H _ _ v u Q I rx ry ⟨d, ds, vp.dp hh h1, vq.dp hh (by simp only [PV.dat, h2]; rfl), h3, h4, done0 hh k (.bl _)⟩
    · split at e0
      · rename_i hf
        rw [Bool.and_eq_true] at hf
        obtain ⟨d, ds, h1, h2, rfl⟩ := flatIn_some e0
        obtain ⟨a, vs, e, rfl, ha, ra, ka⟩ := vq.tup hh
        obtain ⟨q1, q2⟩ := any_flat hf.1 h1 vp hf.2 h2 ra ka
        refine op_in_seq pins s σ H _ _ v u Q I rx ry ⟨a, vs, rfl, .inr (.of ha), ?_, q1, ?_⟩
        · cases p <;> first
            | exact absurd (show false = true from hf.1) Bool.false_ne_true
            | (obtain ⟨_, r, _⟩ := vp; cases r; rfl)
        · rw [if_neg Bool.false_ne_true]
          exact done_bl hh k q2
      · cases e0
    · cases e0
      obtain rfl := vp.str
      obtain rfl := vq.str
      exact op_in_str pins s σ H _ _ v u Q I rx ry ⟨_, _, rfl, rfl, done0 hh k (.bl _)⟩
    · split at e0
      · rename_i hf
        rw [Bool.and_eq_true] at hf
        obtain ⟨b', e1, rfl⟩ := Option.map_eq_some_iff.mp e0
        obtain ⟨d, ds, h1, h2, rfl⟩ := flatIn_some e1
        obtain ⟨a, vs, e, rfl, ha, ra, ka⟩ := vq.lst hh
        obtain ⟨q1, q2⟩ := any_flat hf.1 h1 vp hf.2 h2 ra ka
        refine op_notIn_seq pins s σ H _ _ v u Q I rx ry ⟨a, vs, rfl, .inl (.of ha), ?_, q1, ?_⟩
        · cases p <;> first
            | exact absurd (show false = true from hf.1) Bool.false_ne_true
            | (obtain ⟨_, r, _⟩ := vp; cases r; rfl)
        · rw [if_pos rfl]
          exact done_bl hh k (by rw [q2])
      · obtain ⟨b', e1, rfl⟩ := Option.map_eq_some_iff.mp e0
        obtain ⟨d, ds, h1, h2, h3, h4, rfl⟩ := inSeq_some e1
        exact op_notInD (by omega) pins s σ H _ _ v u Q I rx ry ⟨d, ds, vp.dp hh h1, vq.dp hh (by simp only [PV.dat, h2]; rfl), h3, h4, done0 hh k (.bl _)⟩
    · split at e0
      · rename_i hf
        rw [Bool.and_eq_true] at hf
        obtain ⟨b', e1, rfl⟩ := Option.map_eq_some_iff.mp e0
        obtain ⟨d, ds, h1, h2, rfl⟩ := flatIn_some e1
        obtain ⟨a, vs, e, rfl, ha, ra, ka⟩ := vq.tup hh
        obtain ⟨q1, q2⟩ := any_flat hf.1 h1 vp hf.2 h2 ra ka
        refine op_notIn_seq pins s σ H _ _ v u Q I rx ry ⟨a, vs, rfl, .inr (.of ha), ?_, q1, ?_⟩
        · cases p <;> first
            | exact absurd (show false = true from hf.1) Bool.false_ne_true
            | (obtain ⟨_, r, _⟩ := vp; cases r; rfl)
        · rw [if_pos rfl]
          exact done_bl hh k (by rw [q2])
      · cases e0
    · cases e0
      obtain rfl := vp.str
      obtain rfl := vq.str
      exact L2.op_notin_str pins s σ H _ _ v u Q I rx ry ⟨_, _, rfl, rfl, done_bl hh k (by simp)⟩
    · cases e0
theorem rn1 {c : List Cell} {g : List PV → Option PV} {x : V} {Q : VK} (h : RN ad K g [x] H Q) : ∃ p G c r, Vw ad K G c p x ∧ Hold G c H ∧ g [p] = some r ∧ ∀ v H' G' t, Step G c H G' (c ++ t) H' → Hold G' (c ++ t) H' → Rep ad K G' r v t → Q v H' := by
  obtain ⟨ps, G, c, r, hv, hh, e, k⟩ := h
  cases hv with
  | cons a t => cases t; exact ⟨_, G, c, r, a, hh, e, k⟩
theorem rn_2 {g : List PV → Option PV} {x y : V} {Q : VK} (h : RN ad K g [x, y] H Q) : ∃ p q G c r, Vw ad K G c p x ∧ Vw ad K G c q y ∧ Hold G c H ∧ g [p, q] = some r ∧ ∀ v H' G' t, Step G c H G' (c ++ t) H' → Hold G' (c ++ t) H' → Rep ad K G' r v t → Q v H' := by
  obtain ⟨ps, G, c, r, hv, hh, e, k⟩ := h
  cases hv with
  | cons a t => cases t with | cons b t => cases t; exact ⟨_, _, G, c, r, a, b, hh, e, k⟩
theorem atI_rep {xs : List PV} {vs : List V} {d : List Cell} {i : Int} {x : PV} (r : RepL ad K G xs vs d) (h : atI xs i = some x) : ∃ w e, atI vs i = some w ∧ Rep ad K G x w e ∧ ∀ z ∈ e, z ∈ d := by
  obtain ⟨j, h1, h2, h3, h4, h5⟩ := atI_get h
  obtain ⟨w, e, e1, e2, e3⟩ := r.get h2
  refine ⟨w, e, ?_, e2, e3⟩
  unfold atI at h ⊢
  rw [← r.length]
  cases q : ixN xs.length i with
  | none => rw [q] at h; cases h
  | some m =>
    have := (ixN_seq q).1
    rw [h1] at this
    cases this
    exact e1
theorem op_ixN : IxR X fun x y H Q => RN ad X.K (opN .ix) [x, y] H Q := by
  intro value slice pins s σ H x y v u Q I rx ry h hs
  obtain ⟨p, q, G, c, r, vp, vq, hh, e, k⟩ := rn_2 h
  change ixP p q = some r at e
  unfold ixP at e
  split at e
  · obtain rfl := vq.int
    split at e
    · split at e
      · rename_i hz
        obtain ⟨a, e1, rfl⟩ := Option.map_eq_some_iff.mp e
        obtain rfl := vp.str
        exact ix_str value slice pins s σ H _ _ v u Q I rx ry ⟨_, _, a, rfl, rfl, okS_le hz, e1, done0 hh k (.str _)⟩ hs
      · cases e
    · split at e
      · rename_i hq
        split at e
        · rename_i ha
          split at e
          · rename_i hf
            cases e
            obtain ⟨a, vs, d, rfl, h1, r1, k1⟩ := vp.seq hh hq
            obtain ⟨w, e, e1, e2, e3⟩ := atI_rep r1 ha
            have e4 := e2.nocell hf
            subst e4
            rcases h1 with h1 | h1
            · exact ix_list value slice pins s σ H _ _ v u Q I rx ry ⟨a, vs, _, w, rfl, rfl, h1, e1, done0 hh k e2⟩ hs
            · exact ix_tup value slice pins s σ H _ _ v u Q I rx ry ⟨a, vs, _, w, rfl, rfl, h1, e1, done0 hh k e2⟩ hs
          · cases e
        · cases e
      · cases e
  · cases e
theorem cut_rep {xs : List PV} {vs : List V} (r : RepL ad K G xs vs []) (lo hi : Option Int) : RepL ad K G (cutP xs lo hi) (cutV vs lo hi) [] := by
  unfold cutP cutV
  rw [r.length]
  exact (r.drop0 _).take0 _
/-- a slice, by its parts -/
theorem sl_N {p : PV} {r : PV} {lo hi : Option Int} {c : List Cell} {x : V} {Q : VK} (vp : Vw ad X.K G c p x) (hh : Hold G c H) (e : sliceN p lo hi = some r) (k : ∀ v H' G' t, Step G c H G' (c ++ t) H' → Hold G' (c ++ t) H' → Rep ad X.K G' r v t → Q v H') : rSlL X.K x lo hi H Q := by
  unfold sliceN at e
  split at e
  · split at e
    · rename_i hf
      cases e
      obtain ⟨a, vs, d, rfl, h1, r1, _⟩ := vp.lst hh
      exact ⟨a, vs, rfl, .of h1, fun l hl => doneL hh (cut_rep (r1.fz0 hf) lo hi) k hl⟩
    · cases e
  · split at e
    · rename_i hf
      cases e
      obtain ⟨a, vs, rfl, h1, r1⟩ := vp.lck hh
      exact ⟨a, vs, rfl, h1, fun l hl => doneL hh (cut_rep r1 lo hi) k hl⟩
    · cases e
  · cases e
theorem callN_len : CallR X (.builtin "len") fun xs H Q => RN ad X.K (opN .len) xs H Q := by
  intro pins s σ H xs us Q I r h
  obtain ⟨ps, G, c, z, hv, hh, e, k⟩ := h
  match ps, hv with
  | [p], .cons vp .nil =>
    change lenP p = some z at e
    unfold lenP at e
    split at e
    · split at e
      · rename_i hz
        cases e
        obtain rfl := vp.str
        exact call_len pins s σ H _ us Q I r ⟨_, _, rfl, ⟨okS_le hz, rfl⟩, done0 hh k (.int _)⟩
      · cases e
    · obtain ⟨xs, e1, rfl⟩ := Option.map_eq_some_iff.mp e
      obtain ⟨a, vs, d, rfl, h1, r1, k1⟩ := vp.seq hh e1
      refine call_len pins s σ H _ us Q I r ⟨_, vs.length, rfl, ?_, ?_⟩
      · rcases h1 with h1 | h1
        · exact .inl ⟨vs, h1, rfl⟩
        · exact .inr ⟨vs, h1, rfl⟩
      · rw [← r1.length]
        exact done0 hh k (.int _)
  | [], _ => cases e
  | _ :: _ :: _, _ => cases e
theorem callN_list : CallR X (.type "list") fun xs H Q => RN ad X.K (opN .list) xs H Q := by
  intro pins s σ H xs us Q I r h
  obtain ⟨ps, G, c, z, hv, hh, e, k⟩ := h
  match ps, hv with
  | [p], .cons vp .nil =>
    change listP p = some z at e
    unfold listP at e
    split at e
    · rename_i e1
      split at e
      · rename_i hf
        cases e
        obtain ⟨a, vs, d, rfl, h1, r1, k1⟩ := vp.seq hh e1
        exact call_list_of pins s σ H _ us Q I r ⟨a, vs, rfl, h1, fun l hl => doneL hh (r1.fz0 hf) k hl⟩
      · cases e
    · cases e
  | [], _ => cases e
  | _ :: _ :: _, _ => cases e
theorem callN_tuple : CallR X (.type "tuple") fun xs H Q => RN ad X.K (opN .tuple) xs H Q := by
  intro pins s σ H xs us Q I r h
  obtain ⟨ps, G, c, z, hv, hh, e, k⟩ := h
  match ps, hv with
  | [p], .cons vp .nil =>
    change tupleP p = some z at e
    unfold tupleP at e
    split at e
    · split at e
      · rename_i hf
        cases e
        obtain ⟨a, vs, d, rfl, h1, r1, k1⟩ := vp.lst hh
        exact call_tuple_of pins s σ H _ us Q I r ⟨a, vs, rfl, .inl ⟨.of h1, fun l hl => doneT hh (r1.fz0 hf) k hl⟩⟩
      · cases e
    · split at e
      · rename_i hf
        cases e
        obtain ⟨d, r0, k0⟩ := vp
        cases r0 with
        | tup g r1 =>
          have r1' := r1.fz0 hf
          exact call_tuple_of pins s σ H _ us Q I r ⟨_, _, rfl, .inr ⟨.of (hh.fz _ _ g), done0 hh k (.tup g r1')⟩⟩
      · cases e
    · cases e
  | [], _ => cases e
  | _ :: _ :: _, _ => cases e
theorem callN_int : CallR X (.type "int") fun xs H Q => RN ad X.K (opN .int) xs H Q := by
  intro pins s σ H xs us Q I r h
  obtain ⟨ps, G, c, z, hv, hh, e, k⟩ := h
  match ps, hv with
  | [p], .cons vp .nil =>
    change intP p = some z at e
    unfold intP at e
    split at e
    · cases e
      obtain rfl := vp.int
      exact call_int1 pins s σ H _ us Q I r (.inl ⟨_, rfl, done0 hh k (.int _)⟩)
    · cases e
      obtain rfl := vp.bl
      exact call_int1 pins s σ H _ us Q I r (.inr ⟨_, rfl, done0 hh k (.int _)⟩)
    · cases e
  | [], _ => cases e
  | _ :: _ :: _, _ => cases e
theorem callN_str : CallR X (.type "str") fun xs H Q => RN ad X.K (opN .str) xs H Q := by
  intro pins s σ H xs us Q I r h
  obtain ⟨ps, G, c, z, hv, hh, e, k⟩ := h
  match ps, hv with
  | [p], .cons vp .nil =>
    change strP p = some z at e
    unfold strP at e
    split at e
    · split at e
      · rename_i hz
        cases e
        obtain rfl := vp.int
        exact call_str_int pins s σ H _ us Q I r ⟨_, rfl, of_decide_eq_true hz, done0 hh k (.str _)⟩
      · cases e
    · cases e
  | [], _ => cases e
  | _ :: _ :: _, _ => cases e
theorem lstOf_some {p : PV} {xs : List PV} (h : lstOf p = some xs) : ∃ o, p = .lst o xs := by
  cases p with
  | lst o ys => cases h; exact ⟨o, rfl⟩
  | _ => cases h
theorem callN_all (hc : X.calm = true) : CallR X (.builtin "all") fun xs H Q => RN ad X.K (opN .all) xs H Q := by
  intro pins s σ H xs us Q I r h
  obtain ⟨ps, G, c, z, hv, hh, e, k⟩ := h
  match ps, hv with
  | [p], .cons vp .nil =>
    obtain ⟨bs, e1, rfl⟩ := Option.map_eq_some_iff.mp (show ((lstOf p).bind boolsP).map _ = some z from e)
    obtain ⟨xs, e2, e3⟩ := Option.bind_eq_some_iff.mp e1
    obtain ⟨o, rfl⟩ := lstOf_some e2
    obtain rfl := boolsP_map e3
    obtain ⟨a, vs, d, rfl, h1, r1, k1⟩ := vp.lst hh
    obtain rfl := r1.bls
    exact cr_all hc pins s σ H _ us Q I r ⟨a, bs, rfl, .of h1, done0 hh k (.bl _)⟩
  | [], _ => cases e
  | _ :: _ :: _, _ => cases e
theorem callN_any (hc : X.calm = true) : CallR X (.builtin "any") fun xs H Q => RN ad X.K (opN .any) xs H Q := by
  intro pins s σ H xs us Q I r h
  obtain ⟨ps, G, c, z, hv, hh, e, k⟩ := h
  match ps, hv with
  | [p], .cons vp .nil =>
    obtain ⟨bs, e1, rfl⟩ := Option.map_eq_some_iff.mp (show ((lstOf p).bind boolsP).map _ = some z from e)
    obtain ⟨xs, e2, e3⟩ := Option.bind_eq_some_iff.mp e1
    obtain ⟨o, rfl⟩ := lstOf_some e2
    obtain rfl := boolsP_map e3
    obtain ⟨a, vs, d, rfl, h1, r1, k1⟩ := vp.lst hh
    obtain rfl := r1.bls
    exact cr_any hc pins s σ H _ us Q I r ⟨a, bs, rfl, .of h1, done0 hh k (.bl _)⟩
  | [], _ => cases e
  | _ :: _ :: _, _ => cases e
theorem callN_sum (hc : X.calm = true) : CallR X (.builtin "sum") fun xs H Q => RN ad X.K (opN .sum) xs H Q := by
  intro pins s σ H xs us Q I r h
  obtain ⟨ps, G, c, z, hv, hh, e, k⟩ := h
  match ps, hv with
  | [p], .cons vp .nil =>
    obtain ⟨bs, e1, rfl⟩ := Option.map_eq_some_iff.mp (show ((lstOf p).bind intsP).map _ = some z from e)
    obtain ⟨xs, e2, e3⟩ := Option.bind_eq_some_iff.mp e1
    obtain ⟨o, rfl⟩ := lstOf_some e2
    obtain rfl := intsP_map e3
    obtain ⟨a, vs, d, rfl, h1, r1, k1⟩ := vp.lst hh
    obtain rfl := r1.ints
    exact cr_sum hc pins s σ H _ us Q I r ⟨a, bs, rfl, .of h1, done0 hh k (.int _)⟩
  | [], _ => cases e
  | _ :: _ :: _, _ => cases e
theorem maxI_mem : ∀ (a : Int) (r : List Int), maxI a r ∈ a :: r ∧ ∀ y ∈ a :: r, y ≤ maxI a r
  | a, [] => ⟨by simp [maxI], by simp [maxI]⟩
  | a, b :: r => by
    unfold maxI
    obtain ⟨h1, h2⟩ := maxI_mem (if b > a then b else a) r
    refine ⟨?_, fun y hy => ?_⟩
    · rcases List.mem_cons.mp h1 with h | h
      · rw [h]
        split <;> simp
      · simp [h]
    · rcases List.mem_cons.mp hy with h | h
      · have := h2 (if b > a then b else a) List.mem_cons_self
        generalize maxI (if b > a then b else a) r = m at this ⊢
        split at this <;> omega
      · rcases List.mem_cons.mp h with h | h
        · have := h2 (if b > a then b else a) List.mem_cons_self
          generalize maxI (if b > a then b else a) r = m at this ⊢
          split at this <;> omega
        · exact h2 y (List.mem_cons_of_mem _ h)
theorem callN_max (hc : X.calm = true) : CallR X (.builtin "max") fun xs H Q => RN ad X.K (opN .max) xs H Q := by
  intro pins s σ H xs us Q I r h
  obtain ⟨ps, G, c, z, hv, hh, e, k⟩ := h
  match ps, hv with
  | [p], .cons vp .nil =>
    change maxP p = some z at e
    unfold maxP at e
    split at e
    · rename_i n ns e1
      cases e
      obtain ⟨xs, e2, e3⟩ := Option.bind_eq_some_iff.mp e1
      obtain ⟨o, rfl⟩ := lstOf_some e2
      obtain rfl := intsP_map e3
      obtain ⟨a, vs, d, rfl, h1, r1, k1⟩ := vp.lst hh
      obtain rfl := r1.ints
      refine cr_max hc pins s σ H _ us Q I r ⟨a, n :: ns, rfl, .of h1, by simp, fun m hm hmax => ?_⟩
      obtain ⟨q1, q2⟩ := maxI_mem n ns
      have : m = maxI n ns := Int.le_antisymm (q2 m hm) (hmax _ q1)
      rw [this]
      exact done0 hh k (.int _)
    · cases e
  | [], _ => cases e
  | _ :: _ :: _, _ => cases e
section
variable {β : Type}
theorem each_vals (f : β → V) : ∀ {bs : List β} {us : List Value}, Vals (bs.map f) us → PySem.W.EachIs (fun v b => RelV (f b) v) us bs
  | [], _, h => by cases h; exact .nil
  | b :: bs, _, h => by
    cases h with
    | cons r t => exact .cons r (each_vals f t)
theorem vals_each (f : β → V) : ∀ {bs : List β} {us : List Value}, PySem.W.EachIs (fun v b => RelV (f b) v) us bs → Vals (bs.map f) us
  | _, _, .nil => .nil
  | _, _, .cons r t => .cons r (vals_each f t)
theorem each_imp {R R' : Value → β → Prop} (h : ∀ v b, R v b → R' v b) : ∀ {us : List Value} {bs : List β}, PySem.W.EachIs R us bs → PySem.W.EachIs R' us bs
  | _, _, .nil => .nil
  | _, _, .cons r t => .cons (h _ _ r) (each_imp h t)
theorem sorted_go {pins : List (Addr × Obj)} {s : Shared} {σ : St} {a : Addr} {Q : VK} (f : β → V) (enc : β → PyData) (bs : List β) (I : Inv X pins σ H s) (hs : H a = some (.lst (bs.map f)))
    (hr : ∀ (h : Heap) (v : Value) (b : β), RelV (f b) v → ∃ as, Reads h v (enc b) as) (hal : ∀ b b', PySem.W.alike (enc b) (enc b') = true) (hn : ∀ b, enc b ≠ .none ∧ ∀ xs, enc b ≠ .tuple xs) (hd : ∀ b, (enc b).depth = 0) (hu : X.A.units + 65 < cLine)
    (q : ∀ p, H p = none → Q (.ref p) (upd H p (.lst ((bs.mergeSort (PySem.W.dataLe false enc)).map f)))) : wpAny (model X.prog X.w) X.A (call (.builtin "sorted") [.ref a]) (EP X pins σ Q) X.xe s := by
  obtain ⟨its, rv, hl, hz⟩ := I.list (.of hs)
  rw [List.length_map] at hz
  have e1 := each_vals f rv
  refine PySem.W.sorted_data (R := fun v b => RelV (f b) v) (enc := enc) (bs := bs) hl.isList e1 (each_imp (fun v b => hr _ v b) e1) (PySem.W.AllAlike.of hal) (PySem.W.Sortable.others hn) hz (fun b _ => by rw [hd]; omega) fun out ho hR => ?_
  obtain ⟨ep, he'⟩ := PyProof.Rows.sortedAll_at s.heap its out.toArray
  have hlen : ((bs.mergeSort (PySem.W.dataLe false enc)).map f).length ≤ sizeLine := by rw [List.length_map, List.length_mergeSort]; exact hz
  exact ⟨.ref _, upd H (s.heap.objs.size + 1) (.lst ((bs.mergeSort (PySem.W.dataLe false enc)).map f)), I.laid (t' := s.toks) (fun _ _ => PyProof.Rows.sortedAll_old) (Nat.le_succ _) ⟨hlen, out, ep, vals_each f hR, he'⟩, rfl, q _ (I.hok.fresh (Nat.le_succ _))⟩
end
theorem callN_sorted (hu : X.A.units + 65 < cLine) : CallR X (.builtin "sorted") fun xs H Q => RN ad X.K (opN .sorted) xs H Q := by
  intro pins s σ H xs us Q I r h
  obtain ⟨ps, G, c, z, hv, hh, e, k⟩ := h
  match ps, hv with
  | [p], .cons vp .nil =>
    obtain ⟨xs, e1, e2⟩ := Option.bind_eq_some_iff.mp (show sortedP p = some z from e)
    obtain ⟨o, rfl⟩ := lstOf_some e1
    obtain ⟨a, vs, d, rfl, h1, r1, k1⟩ := vp.lst hh
    rw [Vals.ref1 r]
    split at e2
    · rename_i ns e3
      cases e2
      obtain rfl := intsP_map e3
      obtain rfl := r1.ints
      refine sorted_go V.int PyData.int ns I h1 (fun h v b ⟨t, e⟩ => by subst e; exact ⟨_, Reads.int b t⟩) (fun _ _ => by simp [PySem.W.alike]) (fun b => ⟨fun z => (by cases z), fun xs z => (by cases z)⟩) (fun b => by simp [PyData.depth]) hu fun p hp => ?_
      rw [PySem.W.dataLe_int (fun b => b)]
      exact doneL hh (repL_ints _) k hp
    · obtain ⟨ys, e3, rfl⟩ := Option.map_eq_some_iff.mp e2
      obtain rfl := strsP_map e3
      obtain rfl := r1.strs
      refine sorted_go V.str PyData.str ys I h1 (fun h v b ⟨t, e⟩ => by subst e; exact ⟨_, Reads.str b t⟩) (fun _ _ => by simp [PySem.W.alike]) (fun b => ⟨fun z => (by cases z), fun xs z => (by cases z)⟩) (fun b => by simp [PyData.depth]) hu fun p hp => ?_
      rw [PySem.W.dataLe_str (fun b => b)]
      exact doneL hh (repL_strs _) k hp
  | [], _ => cases e
  | _ :: _ :: _, _ => cases e
theorem isi_kit {t T : String} (ht : t = "NoneType" ∨ t = "bool" ∨ t = "int" ∨ t = "str" ∨ t = "list" ∨ t = "tuple") (hT : isiOk.contains T = true) : kitB t T = some (isiT t T) := by
  have hT' : T = "int" ∨ T = "str" ∨ T = "bool" ∨ T = "list" ∨ T = "tuple" := by simpa [isiOk] using hT
  rcases hT' with rfl | rfl | rfl | rfl | rfl <;> rcases ht with rfl | rfl | rfl | rfl | rfl | rfl <;> decide +kernel
theorem Vw.ty_ {c : List Cell} {p : PV} {x : V} {t : String} (vp : Vw ad X.K G c p x) (hh : Hold G c H) (e : tyN p = some t) : TyX X.K H x (.type t) ∧ (t = "NoneType" ∨ t = "bool" ∨ t = "int" ∨ t = "str" ∨ t = "list" ∨ t = "tuple") := by
  cases p with
  | non => cases e; obtain rfl := vp.non; exact ⟨.base .non, by simp⟩
  | bl b => cases e; obtain rfl := vp.bl; exact ⟨.base (.bl _), by simp⟩
  | int i => cases e; obtain rfl := vp.int; exact ⟨.base (.int _), by simp⟩
  | str i => cases e; obtain rfl := vp.str; exact ⟨.base (.str _), by simp⟩
  | lst o xs =>
    cases e
    obtain ⟨a, vs, d, rfl, h1, _⟩ := vp.lst hh
    exact ⟨.base (.lst h1), by simp⟩
  | tup xs =>
    cases e
    obtain ⟨a, vs, d, rfl, h1, _⟩ := vp.tup hh
    exact ⟨.base (.tup h1), by simp⟩
  | _ => cases e
theorem callN_isi : CallR X (.builtin "isinstance") fun xs H Q => RN ad X.K (opN .isi) xs H Q := by
  intro pins s σ H xs us Q I r h
  obtain ⟨ps, G, c, z, hv, hh, e, k⟩ := h
  match ps, hv with
  | [p, q], .cons vp (.cons vq .nil) =>
    change isiP p q = some z at e
    unfold isiP at e
    split at e
    · rename_i t T e1
      split at e
      · rename_i hT
        cases e
        obtain rfl := vq.ty
        obtain ⟨h1, h2⟩ := vp.ty_ hh e1
        exact call_isi pins s σ H _ us Q I r ⟨_, _, _, _, _, rfl, .ty T, h1, kit_ty (isi_kit h2 hT), done0 hh k (.bl _)⟩
      · cases e
    · cases e
  | [], _ => cases e
  | [_], _ => cases e
  | _ :: _ :: _ :: _, _ => cases e
theorem mtN_join : MtR X "str.join" fun x xs H Q => RN ad X.K (opN .join) (x :: xs) H Q := by
  intro pins s σ H x xs v us Q I rx rs h
  obtain ⟨ps, G, c, z, hv, hh, e, k⟩ := h
  match ps, hv with
  | [p, q], .cons vp (.cons vq .nil) =>
    change joinP p q = some z at e
    unfold joinP at e
    split at e
    · rename_i z' ys e1
      split at e
      · rename_i hz
        cases e
        obtain ⟨xs, e2, e3⟩ := Option.bind_eq_some_iff.mp e1
        obtain ⟨o, rfl⟩ := lstOf_some e2
        obtain rfl := strsP_map e3
        obtain rfl := vp.str
        obtain ⟨a, vs, d, rfl, h1, r1, k1⟩ := vq.lst hh
        obtain rfl := r1.strs
        exact mt_join pins s σ H _ _ v us Q I rx rs ⟨_, a, ys, rfl, rfl, .inl (.of h1), of_decide_eq_true hz, done0 hh k (.str _)⟩
      · cases e
    · cases e
  | [], _ => cases e
  | [_], _ => cases e
  | _ :: _ :: _ :: _, _ => cases e
/-- truth -/
theorem tru_N {c : List Cell} {p : PV} {x : V} {b : Bool} (vp : Vw ad X.K G c p x) (hh : Hold G c H) (e : truth p = some b) : TruV X.K x H b := by
  unfold truth at e
  cases p with
  | non => cases e; obtain rfl := vp.non; exact rfl
  | bl b => cases e; obtain rfl := vp.bl; exact rfl
  | int i => cases e; obtain rfl := vp.int; exact rfl
  | str i =>
    obtain rfl := vp.str
    dsimp only at e
    split at e
    · rename_i hz
      cases e
      exact ⟨okS_le hz, rfl⟩
    · cases e
  | lst o xs =>
    cases e
    obtain ⟨a, vs, d, rfl, h1, r1, _⟩ := vp.lst hh
    refine .inl ⟨vs, .of h1, ?_⟩
    cases r1 <;> rfl
  | lck xs =>
    cases e
    obtain ⟨a, vs, rfl, h1, r1⟩ := vp.lck hh
    refine .inl ⟨vs, h1, ?_⟩
    generalize ([] : List Cell) = z at r1
    cases r1 <;> rfl
  | tup xs =>
    cases e
    obtain ⟨a, vs, d, rfl, h1, r1, _⟩ := vp.tup hh
    refine .inr (.inl ⟨vs, .of h1, ?_⟩)
    cases r1 <;> rfl
  | _ => cases e
end
end Y
end
section
set_option Elab.async false
set_option linter.all false
set_option maxRecDepth 100000
set_option maxHeartbeats 2000000
set_option autoImplicit false
/-! Y4: judgements by the evaluator: expressions. -/
namespace Y
open PySem L2
variable {ad : Str → Addr} {K : PySem.W.Frag} {G G' G1 G2 H H' H1 H2 : Hp}

abbrev RRel (α β : Type) := St → Hp → α → β → List Cell → Prop
/-- the exception's dict stands at d -/
inductive RepFs (ad : Str → Addr) (K : PySem.W.Frag) (G : Hp) : List (Str × PV) → List (Str × V) → Prop
  | nil : RepFs ad K G [] []
  | cons {f : Str} {p : PV} {fs : List (Str × PV)} {v : V} {vs : List (Str × V)} : Rep ad K G p v [] → RepFs ad K G fs vs → RepFs ad K G ((f, p) :: fs) ((f, v) :: vs)
def XRep (ad : Str → Addr) (K : PySem.W.Frag) (G : Hp) (x : PX) (d : Addr) : Prop := ∃ fvs, G d = some (.xd fvs) ∧ RepFs ad K G x.fs fvs
theorem RepFs.mono (s : Sub G G') : ∀ {x : List (Str × PV)} {v : List (Str × V)}, RepFs ad K G x v → RepFs ad K G' x v
  | _, _, .nil => .nil
  | _, _, .cons r t => .cons (r.mono s) (RepFs.mono s t)
theorem XRep.mono (s : Sub G G') {x : PX} {d : Addr} (h : XRep ad K G x d) : XRep ad K G' x d := by
  obtain ⟨fvs, e, r⟩ := h
  exact ⟨fvs, s _ _ e, r.mono s⟩
/-- what is wanted behind the evaluator's result -/
def Aft (ad : Str → Addr) (K : PySem.W.Frag) (W : WX) (σ : St) {α β : Type} (R : RRel α β) (G : Hp) (c : List Cell) (H : Hp) (Q : β → Hp → Prop) : Res α → Prop
  | .ok a ρ => ∀ v H' G' c' t, Step G c H G' (c' ++ t) H' → Slots ad K G' ρ σ c' → Hold G' (c' ++ t) H' → R σ G' a v t → Q v H'
  | .ex x ρ => ∀ d H' G' c', Step G c H G' c' H' → Slots ad K G' ρ σ c' → Hold G' c' H' → XRep ad K G' x d → W (.ref (ad x.cls)) (some d) σ H'
  | .bad => False
def rd (ad : Str → Addr) (X : Cx) (W : WX) {α β : Type} (R : RRel α β) (m : Fr → Res α) : St → Hp → (β → Hp → Prop) → Prop := fun σ H Q => ∃ ρ G c, Slots ad X.K G ρ σ c ∧ Hold G c H ∧ Aft ad X.K W σ R G c H Q (m ρ)
def RelP (ad : Str → Addr) (K : PySem.W.Frag) : RRel PV V := fun _ G p v t => Rep ad K G p v t
def RelL (ad : Str → Addr) (K : PySem.W.Frag) : RRel (List PV) (List V) := fun _ G p v t => RepL ad K G p v t
/-- an operand stands as v -/
def OVal (ad : Str → Addr) (K : PySem.W.Frag) (σ : St) (G : Hp) : OV → V → Prop
  | .vw i, v => σ[i]? = some (some v)
  | .vl p, v => Rep ad K G p v []
def RelO (ad : Str → Addr) (K : PySem.W.Frag) : RRel OV V := fun σ G o v t => t = [] ∧ OVal ad K σ G o v
inductive OVals (ad : Str → Addr) (K : PySem.W.Frag) (σ : St) (G : Hp) : List OV → List V → Prop
  | nil : OVals ad K σ G [] []
  | cons {o : OV} {os : List OV} {v : V} {vs : List V} : OVal ad K σ G o v → OVals ad K σ G os vs → OVals ad K σ G (o :: os) (v :: vs)
def RelOs (ad : Str → Addr) (K : PySem.W.Frag) : RRel (List OV) (List V) := fun σ G o v t => t = [] ∧ OVals ad K σ G o v
def RelB : RRel Bool Bool := fun _ _ b b' t => t = [] ∧ b = b'
theorem OVal.mono {σ : St} (s : Sub G G') {o : OV} {v : V} (h : OVal ad K σ G o v) : OVal ad K σ G' o v := by
  cases o with
  | vw i => exact h
  | vl p => exact Rep.mono s h
theorem OVals.mono {σ : St} (s : Sub G G') : ∀ {o : List OV} {v : List V}, OVals ad K σ G o v → OVals ad K σ G' o v
  | _, _, .nil => .nil
  | _, _, .cons r t => .cons (r.mono s) (OVals.mono s t)

section
variable {W : WX} {σ : St} {α β γ δ : Type} {R : RRel α β} {R2 : RRel γ δ} {c c1 : List Cell} {Q : δ → Hp → Prop} {P : β → Hp → Prop}
/-- one after the other -/
theorem Aft.seq {r : Res α} {f : α → Fr → Res γ} (h : Aft ad K W σ R2 G c H Q (r.bind f))
    (k : ∀ a ρ v H1 G1 c1 t, Step G c H G1 (c1 ++ t) H1 → Slots ad K G1 ρ σ c1 → Hold G1 (c1 ++ t) H1 → R σ G1 a v t → Aft ad K W σ R2 G c H Q (f a ρ) → P v H1) : Aft ad K W σ R G c H P r := by
  cases r with
  | ok a ρ => exact fun v H' G' c' t s sl hh hr => k a ρ v H' G' c' t s sl hh hr h
  | ex x ρ => exact h
  | bad => exact h
theorem Aft.go {r : Res γ} (h : Aft ad K W σ R2 G c H Q r) (s : Step G c H G1 c1 H1) (h1 : Hold G1 c1 H1) : Aft ad K W σ R2 G1 c1 H1 Q r := by
  cases r with
  | ok a ρ => exact fun v H' G' c' t s2 sl hh hr => h v H' G' c' t (s.trans s2 h1) sl hh hr
  | ex x ρ => exact fun d H' G' c' s2 sl hh hr => h d H' G' c' (s.trans s2 h1) sl hh hr
  | bad => exact h
theorem Aft.go0 {r : Res γ} (h : Aft ad K W σ R2 G c H Q r) (s : Step G c H G1 (c1 ++ []) H1) (h1 : Hold G1 (c1 ++ []) H1) : Aft ad K W σ R2 G1 c1 H1 Q r := by
  rw [List.append_nil] at s h1
  exact h.go s h1
theorem perm_t {c t t2 : List Cell} : ((c ++ t2) ++ t).Perm (c ++ (t ++ t2)) := by
  rw [List.append_assoc]
  exact List.perm_append_comm.append_left c
/-- .. beside the cells t -/
theorem Aft.goT {t : List Cell} {R3 : RRel γ δ} {Q3 : δ → Hp → Prop} {r : Res γ} (h : Aft ad K W σ R2 G c H Q r) (s : Step G c H G1 (c1 ++ t) H1) (h1 : Hold G1 (c1 ++ t) H1)
    (k : ∀ a v G2 H2 c2 t2, Sub G1 G2 → Step G c H G2 (c2 ++ (t ++ t2)) H2 → Hold G2 (c2 ++ (t ++ t2)) H2 → R3 σ G2 a v t2 → (∀ ρ, r = .ok a ρ → Slots ad K G2 ρ σ c2 → (∀ w t', R2 σ G2 a w t' → Step G c H G2 (c2 ++ t') H2 → Hold G2 (c2 ++ t') H2 → Q w H2) → Q3 v H2)) : Aft ad K W σ R3 G1 c1 H1 Q3 r := by
  cases r with
  | ok a ρ =>
    intro v H' G' c' t2 s2 sl hh hr
    exact k a v G' H' c' t2 s2.fz ((s.frame s2 h1).perm (List.Perm.refl _) perm_t) ((h1.frame s2 hh).perm perm_t) hr ρ rfl sl fun w t' hw s' h' => h w H' G' c' t' s' sl h' hw
  | ex x ρ => exact fun d H' G' c' s2 sl hh hr => h d H' G' c' ((s.frame s2 h1).less fun z hz => List.mem_append_left _ hz) sl hh hr
  | bad => exact h
end

theorem _root_.L2.PE.imp {X : Cx} {e : Expr} {t t' : TE} (h : PE X e t) (i : ∀ σ H Q, t' σ H Q → t σ H Q) : PE X e t' := ⟨fun pins s σ H Q I hw => h.run pins s σ H Q I (i σ H Q hw)⟩
theorem _root_.L2.PT.imp {X : Cx} {e : Expr} {t t' : TT} (h : PT X e t) (i : ∀ σ H Q, t' σ H Q → t σ H Q) : PT X e t' := ⟨fun pins s σ H Q I hw => h.run pins s σ H Q I (i σ H Q hw)⟩
theorem _root_.L2.PA.imp {X : Cx} {e : List Expr} {t t' : TA} (h : PA X e t) (i : ∀ σ H Q, t' σ H Q → t σ H Q) : PA X e t' := ⟨fun pos pins s σ H Q I hw => h.run pos pins s σ H Q I (i σ H Q hw)⟩

/-! ### expressions -/
abbrev SE (ad : Str → Addr) (X : Cx) (W : WX) (e : Expr) (m : Fr → Res PV) : Prop := PE X e (rd ad X W (RelP ad X.K) m)
abbrev SO (ad : Str → Addr) (X : Cx) (W : WX) (e : Expr) (m : Fr → Res OV) : Prop := PE X e (rd ad X W (RelO ad X.K) m)
abbrev ST (ad : Str → Addr) (X : Cx) (W : WX) (e : Expr) (m : Fr → Res Bool) : Prop := PT X e (rd ad X W RelB m)
abbrev SOs (ad : Str → Addr) (X : Cx) (W : WX) (e : List Expr) (m : Fr → Res (List OV)) : Prop := PA X e (rd ad X W (RelOs ad X.K) m)
abbrev SLs (ad : Str → Addr) (X : Cx) (W : WX) (e : List Expr) (m : Fr → Res (List PV)) : Prop := PA X e (rd ad X W (RelL ad X.K) m)
section
variable {X : Cx} {W : WX} {cf : Cf} {pos : Pos}
/-- a value that is written -/
theorem aft_val {σ : St} {c : List Cell} {Q : VK} {p : PV} {v : V} {ρ : Fr} (h : Aft ad X.K W σ (RelP ad X.K) G c H Q (.ok p ρ)) (sl : Slots ad X.K G ρ σ c) (hh : Hold G c H) (r : Rep ad X.K G p v []) : Q v H :=
  h v H G c [] (by rw [List.append_nil]; exact Step.refl) sl (by rw [List.append_nil]; exact hh) r
theorem se_cst {e : Expr} {p : PV} {v : V} (h : PE X e (tC v)) (r : ∀ G, Rep ad X.K G p v []) : SE ad X W e (evE cf (.cst p)) := h.imp fun σ H Q hq => by
  obtain ⟨ρ, G, c, sl, hh, ha⟩ := hq
  exact aft_val (W := W) (by simpa only [evE] using ha) sl hh (r G)
theorem slot_frz {σ : St} {ρ : Fr} {c : List Cell} {i : Nat} {p : PV} (sl : Slots ad K G ρ σ c) (hh : Hold G c H) (e : ρ.at i = some p) : ∃ v G' c', σ[i]? = some (some v) ∧ Step G c H G' c' H ∧ Hold G' c' H ∧ Slots ad K G' (ρ.set i (some p.frz)) σ c' ∧ Rep ad K G' p.frz v [] := by
  obtain ⟨v, d, r, e1, e2, e3, e4⟩ := sl.out e
  have h1 : Hold G (r ++ d) H := hh.perm (e4.trans List.perm_append_comm)
  have s1 : Step G c H G (r ++ d) H := (Step.refl (c := c)).perm (List.Perm.refl _) (e4.trans List.perm_append_comm)
  have r1 := e2.absorb h1
  obtain ⟨c', e5, e6⟩ := (e3.mono (addc_sub h1.right)).put (i := i) at_set_none (by simpa using at_lt e) r1
  rw [set_set_none, set_same e1] at e5
  exact ⟨v, addc G d, c', e1, (s1.absorb h1).perm (List.Perm.refl _) e6.symm, h1.absorb.perm e6.symm, e5, r1⟩
theorem se_loc {x : Str} {i : Nat} (h : PE X (.Name x pos) (tVar i)) : SE ad X W (.Name x pos) (evE cf (.loc i)) := h.imp fun σ H Q hq => by
  obtain ⟨ρ, G, c, sl, hh, ha⟩ := hq
  simp only [evE] at ha
  cases e : ρ.at i with
  | none => rw [e] at ha; exact ha.elim
  | some p =>
    rw [e] at ha
    obtain ⟨v, G', c', e1, s, h2, sl2, r⟩ := slot_frz sl hh e
    exact ⟨v, e1, ha v H G' c' [] (by rw [List.append_nil]; exact s) sl2 (by rw [List.append_nil]; exact h2) r⟩
theorem se_mov {x : Str} {i : Nat} (h : PE X (.Name x pos) (tVar i)) : SE ad X W (.Name x pos) (evE cf (.mov i)) := h.imp fun σ H Q hq => by
  obtain ⟨ρ, G, c, sl, hh, ha⟩ := hq
  simp only [evE] at ha
  cases e : ρ.at i with
  | none => rw [e] at ha; exact ha.elim
  | some p =>
    rw [e] at ha
    obtain ⟨v, d, r, e1, e2, e3, e4⟩ := sl.out e
    exact ⟨v, e1, ha v H G r d ((Step.refl (c := c)).perm (List.Perm.refl _) (e4.trans List.perm_append_comm)) e3 (hh.perm (e4.trans List.perm_append_comm)) e2⟩
/-- an operand that is read by its name -/
theorem so_loc {x : Str} {i : Nat} {run : Fr → Res PV} (h : PE X (.Name x pos) (tVar i)) : SO ad X W (.Name x pos) (opnd (.loc i) run) := h.imp fun σ H Q hq => by
  obtain ⟨ρ, G, c, sl, hh, ha⟩ := hq
  simp only [opnd] at ha
  cases e : ρ.at i with
  | none => rw [e] at ha; exact ha.elim
  | some p =>
    rw [e] at ha
    obtain ⟨v, d, r, e1, e2, e3, e4⟩ := sl.out e
    exact ⟨v, e1, ha v H G c [] (by rw [List.append_nil]; exact Step.refl) sl (by rw [List.append_nil]; exact hh) ⟨rfl, e1⟩⟩
def isLoc : IE → Bool
  | .loc _ => true
  | _ => false
theorem opnd_val {ie : IE} {run : Fr → Res PV} (h : isLoc ie = false) (ρ : Fr) : opnd ie run ρ = (run ρ).bind fun p ρ' => .ok (.vl p.frz) ρ' := by
  cases ie <;> first
    | rfl
    | cases h
theorem so_val {e : Expr} {ie : IE} {run : Fr → Res PV} (hl : isLoc ie = false) (h : SE ad X W e run) : SO ad X W e (opnd ie run) := h.imp fun σ H Q hq => by
  obtain ⟨ρ, G, c, sl, hh, ha⟩ := hq
  rw [opnd_val hl] at ha
  refine ⟨ρ, G, c, sl, hh, ha.seq fun p ρ1 v H1 G1 c1 t s sl1 h1 r k => ?_⟩
  exact k v H1 (addc G1 t) c1 [] (by rw [List.append_nil]; exact s.absorb h1) (sl1.mono (addc_sub h1.right)) (by rw [List.append_nil]; exact h1.absorb) ⟨rfl, Rep.absorb h1 r⟩
theorem OVal.vw {σ : St} {ρ : Fr} {c : List Cell} {o : OV} {v : V} {p : PV} (h : OVal ad K σ G o v) (sl : Slots ad K G ρ σ c) (e : rsv ρ o = some p) : Vw ad K G c p v := by
  cases o with
  | vw i =>
    obtain ⟨w, d, r, e1, e2, e3, e4⟩ := sl.out (show ρ.at i = some p from e)
    have e5 : σ[i]? = some (some v) := h
    rw [e1] at e5
    cases e5
    exact ⟨d, e2, fun z hz => e4.symm.mem_iff.mp (List.mem_append_left _ hz)⟩
  | vl q =>
    cases e
    exact Rep.vw h
theorem OVals.vw {σ : St} {ρ : Fr} {c : List Cell} (sl : Slots ad K G ρ σ c) : ∀ {os : List OV} {vs : List V} {ps : List PV}, OVals ad K σ G os vs → rsvL ρ os = some ps → VwL ad K G c ps vs
  | _, _, _, .nil, e => by cases e; exact .nil
  | _, _, _, .cons (o := o) (os := os) r t, e => by
    unfold rsvL at e
    cases e1 : rsv ρ o with
    | none => rw [e1] at e; cases e
    | some p =>
      cases e2 : rsvL ρ os with
      | none => rw [e1, e2] at e; cases e
      | some ps =>
        rw [e1, e2] at e
        cases e
        exact .cons (r.vw sl e1) (OVals.vw sl t e2)
/-- the operands are there: the operation -/
theorem fin_op {f : Op} {σ : St} {ρ : Fr} {c : List Cell} {os : List OV} {vs : List V} {Q : VK} (h : Aft ad X.K W σ (RelP ad X.K) G c H Q (match rsvL ρ os with
    | some ps => (match opN f ps with
      | some r => .ok r ρ
      | none => .bad)
    | none => .bad)) (sl : Slots ad X.K G ρ σ c) (hh : Hold G c H) (ho : OVals ad X.K σ G os vs) : RN ad X.K (opN f) vs H Q := by
  cases e1 : rsvL ρ os with
  | none => rw [e1] at h; exact h.elim
  | some ps =>
    rw [e1] at h
    dsimp only at h
    cases e2 : opN f ps with
    | none => rw [e2] at h; exact h.elim
    | some r =>
      rw [e2] at h
      exact ⟨ps, G, c, r, ho.vw sl e1, hh, e2, fun v H' G' t s h' hr => h v H' G' c t s (sl.mono s.fz) h' hr⟩
theorem rd_op1 {f : Op} {a : IE} {σ : St} {H : Hp} {Q : VK} (h : rd ad X W (RelP ad X.K) (evE cf (.op f [a])) σ H Q) : rd ad X W (RelO ad X.K) (opnd a (evE cf a)) σ H fun x H1 => RN ad X.K (opN f) [x] H1 Q := by
  obtain ⟨ρ, G, c, sl, hh, ha⟩ := h
  simp only [evE, evO] at ha
  refine ⟨ρ, G, c, sl, hh, ?_⟩
  cases e : opnd a (evE cf a) ρ with
  | bad => rw [e] at ha; exact ha
  | ex x ρ1 => rw [e] at ha; exact ha
  | ok o ρ1 =>
    rw [e] at ha
    simp only [Res.bind] at ha
    intro v H1 G1 c1 t s sl1 h1 ⟨et, hv⟩
    subst et
    have ha1 := ha.go0 s h1
    rw [List.append_nil] at h1
    exact fin_op ha1 sl1 h1 (.cons hv .nil)
theorem rd_op2 {f : Op} {a b : IE} {σ : St} {H : Hp} {Q : VK} (h : rd ad X W (RelP ad X.K) (evE cf (.op f [a, b])) σ H Q) :
    rd ad X W (RelO ad X.K) (opnd a (evE cf a)) σ H fun x H1 => rd ad X W (RelO ad X.K) (opnd b (evE cf b)) σ H1 fun y H2 => RN ad X.K (opN f) [x, y] H2 Q := by
  obtain ⟨ρ, G, c, sl, hh, ha⟩ := h
  simp only [evE, evO] at ha
  refine ⟨ρ, G, c, sl, hh, ?_⟩
  cases e : opnd a (evE cf a) ρ with
  | bad => rw [e] at ha; exact ha
  | ex x ρ1 => rw [e] at ha; exact ha
  | ok o ρ1 =>
    rw [e] at ha
    simp only [Res.bind] at ha
    intro v H1 G1 c1 t s sl1 h1 ⟨et, hv⟩
    subst et
    have ha1 := ha.go0 s h1
    rw [List.append_nil] at h1
    refine ⟨ρ1, G1, c1, sl1, h1, ?_⟩
    cases e2 : opnd b (evE cf b) ρ1 with
    | bad => rw [e2] at ha1; exact ha1
    | ex x ρ2 => rw [e2] at ha1; exact ha1
    | ok o2 ρ2 =>
      rw [e2] at ha1
      intro v2 H2 G2 c2 t2 s2 sl2 h2 ⟨et2, hv2⟩
      subst et2
      have ha2 := ha1.go0 s2 h2
      rw [List.append_nil] at h2
      exact fin_op ha2 sl2 h2 (.cons (hv.mono s2.fz) (.cons hv2 .nil))
theorem nilL {c : List Cell} {G H G' H' : Hp} {c' : List Cell} (s : Step G c H G' (c' ++ []) H') : Step G c H G' c' H' := by rwa [List.append_nil] at s
theorem nilH {c : List Cell} (h : Hold G (c ++ []) H) : Hold G c H := by rwa [List.append_nil] at h
theorem toL {c : List Cell} {G H G' H' : Hp} {c' : List Cell} (s : Step G c H G' c' H') : Step G c H G' (c' ++ []) H' := by rwa [List.append_nil]
theorem toH {c : List Cell} (h : Hold G c H) : Hold G (c ++ []) H := by rwa [List.append_nil]
theorem rd_os_nil {σ : St} {H : Hp} {Q : List V → Hp → Prop} (h : rd ad X W (RelOs ad X.K) (evO cf []) σ H Q) : Q [] H := by
  obtain ⟨ρ, G, c, sl, hh, ha⟩ := h
  simp only [evO] at ha
  exact ha [] H G c [] (toL Step.refl) sl (toH hh) ⟨rfl, .nil⟩
theorem rd_os_cons {a : IE} {es : List IE} {σ : St} {H : Hp} {Q : List V → Hp → Prop} (h : rd ad X W (RelOs ad X.K) (evO cf (a :: es)) σ H Q) :
    rd ad X W (RelO ad X.K) (opnd a (evE cf a)) σ H fun x H1 => rd ad X W (RelOs ad X.K) (evO cf es) σ H1 fun xs H2 => Q (x :: xs) H2 := by
  obtain ⟨ρ, G, c, sl, hh, ha⟩ := h
  simp only [evO] at ha
  refine ⟨ρ, G, c, sl, hh, ha.seq fun o ρ1 v H1 G1 c1 t s sl1 h1 ⟨et, hv⟩ k => ?_⟩
  subst et
  have k1 := k.go0 s h1
  refine ⟨ρ1, G1, c1, sl1, nilH h1, k1.seq fun os ρ2 vs H2 G2 c2 t2 s2 sl2 h2 ⟨et2, hv2⟩ k2 => ?_⟩
  subst et2
  exact k2 (v :: vs) H2 G2 c2 [] s2 sl2 h2 ⟨rfl, .cons (hv.mono s2.fz) hv2⟩
theorem sos_nil : SOs ad X W [] (evO cf []) := pa_nil.imp fun _ _ _ h => rd_os_nil h
theorem sos_cons {e : Expr} {es : List Expr} {a : IE} {as : List IE} (ha : SO ad X W e (opnd a (evE cf a))) (hs : SOs ad X W es (evO cf as)) (hst : starEach (e :: es) X.env = (false, eval e X.env) :: starEach es X.env) : SOs ad X W (e :: es) (evO cf (a :: as)) :=
  (pa_cons ha hs hst).imp fun _ _ _ h => rd_os_cons h
theorem rd_op {f : Op} {es : List IE} {σ : St} {H : Hp} {Q : VK} (h : rd ad X W (RelP ad X.K) (evE cf (.op f es)) σ H Q) : rd ad X W (RelOs ad X.K) (evO cf es) σ H fun xs H1 => RN ad X.K (opN f) xs H1 Q := by
  obtain ⟨ρ, G, c, sl, hh, ha⟩ := h
  simp only [evE] at ha
  refine ⟨ρ, G, c, sl, hh, ha.seq fun o ρ1 v H1 G1 c1 t s sl1 h1 ⟨et, hv⟩ k => ?_⟩
  subst et
  exact fin_op (k.go0 s h1) sl1 (nilH h1) hv
theorem rd_ls_nil {σ : St} {H : Hp} {Q : List V → Hp → Prop} (h : rd ad X W (RelL ad X.K) (evL cf []) σ H Q) : Q [] H := by
  obtain ⟨ρ, G, c, sl, hh, ha⟩ := h
  simp only [evL] at ha
  exact ha [] H G c [] (toL Step.refl) sl (toH hh) .nil
theorem rd_ls_cons {a : IE} {es : List IE} {σ : St} {H : Hp} {Q : List V → Hp → Prop} (h : rd ad X W (RelL ad X.K) (evL cf (a :: es)) σ H Q) :
    rd ad X W (RelP ad X.K) (evE cf a) σ H fun x H1 => rd ad X W (RelL ad X.K) (evL cf es) σ H1 fun xs H2 => Q (x :: xs) H2 := by
  obtain ⟨ρ, G, c, sl, hh, ha⟩ := h
  simp only [evL] at ha
  refine ⟨ρ, G, c, sl, hh, ha.seq fun p ρ1 v H1 G1 c1 t s sl1 h1 hv k => ?_⟩
  refine ⟨ρ1, G1, c1, sl1, h1.left, ?_⟩
  have hv' : Rep ad X.K G1 p v t := hv
  cases e : evL cf es ρ1 with
  | bad => rw [e] at k; exact k
  | ex x ρ2 =>
    rw [e] at k
    exact fun d H2 G2 c2 s2 sl2 h2 hx => k d H2 G2 c2 ((s.frame s2 h1).less fun z hz => List.mem_append_left _ hz) sl2 h2 hx
  | ok ps ρ2 =>
    rw [e] at k
    intro vs H2 G2 c2 t2 s2 sl2 h2 hvs
    exact k (v :: vs) H2 G2 c2 (t ++ t2) ((s.frame s2 h1).perm (List.Perm.refl _) perm_t) sl2 ((h1.frame s2 h2).perm perm_t) (.cons (hv'.mono s2.fz) hvs)
theorem sls_nil : SLs ad X W [] (evL cf []) := pa_nil.imp fun _ _ _ h => rd_ls_nil h
theorem sls_cons {e : Expr} {es : List Expr} {a : IE} {as : List IE} (ha : SE ad X W e (evE cf a)) (hs : SLs ad X W es (evL cf as)) (hst : starEach (e :: es) X.env = (false, eval e X.env) :: starEach es X.env) : SLs ad X W (e :: es) (evL cf (a :: as)) :=
  (pa_cons ha hs hst).imp fun _ _ _ h => rd_ls_cons h
theorem RepL.absorb {c t : List Cell} {p : List PV} {v : List V} (h : Hold G (c ++ t) H) (r : RepL ad K G p v t) : RepL ad K (addc G t) (PV.frzL p) v [] := r.frz (addc_sub h.right) (addc_at h.right)
theorem se_lst {es : List Expr} {as : List IE} (h : SLs ad X W es (evL cf as)) : SE ad X W (.List es pos) (evE cf (.lst as)) := (pe_lst h).imp fun σ H Q hq => by
  obtain ⟨ρ, G, c, sl, hh, ha⟩ := hq
  simp only [evE] at ha
  refine ⟨ρ, G, c, sl, hh, ha.seq fun ps ρ1 vs H1 G1 c1 t s sl1 h1 hv k => ?_⟩
  have hv' : RepL ad X.K G1 ps vs t := hv
  split at k
  · rename_i hz
    refine ⟨by rw [← hv'.length]; exact okS_le hz, fun p hp => ?_⟩
    have h1' := h1.absorb
    obtain ⟨q1, q2⟩ := h1'.newO hp (.lst vs)
    exact k (.ref p) _ _ c1 [(p, .lst vs)] ((s.absorb h1).trans q2 h1') (sl1.mono (addc_sub h1.right)) q1 (.lstO (cs := []) (RepL.absorb h1 hv'))
  · exact k.elim
theorem se_tup {es : List Expr} {as : List IE} {n : Nat} (h : SLs ad X W es (evL cf as)) : SE ad X W (.Tuple es n pos) (evE cf (.tup as)) := (pe_tup h).imp fun σ H Q hq => by
  obtain ⟨ρ, G, c, sl, hh, ha⟩ := hq
  simp only [evE] at ha
  refine ⟨ρ, G, c, sl, hh, ha.seq fun ps ρ1 vs H1 G1 c1 t s sl1 h1 hv k => ?_⟩
  have hv' : RepL ad X.K G1 ps vs t := hv
  split at k
  · rename_i hz
    refine ⟨by rw [← hv'.length]; exact okS_le hz, fun p hp => ?_⟩
    have h1' := h1.absorb
    obtain ⟨q1, q2⟩ := h1'.newF hp (.tup vs)
    exact k (.ref p) _ (upd (addc G1 t) p (.tup vs)) c1 [] (toL ((s.absorb h1).trans q2 h1')) ((sl1.mono (addc_sub h1.right)).mono q2.fz) (toH q1) (.tup upd_same ((RepL.absorb h1 hv').mono q2.fz))
  · exact k.elim
/-! and, or, if-expressions -/
theorem asB_seq {σ : St} {c : List Cell} {Q : VK} {r : Res PV} {f : Bool → Fr → Res PV} {P : VK} (h : Aft ad X.K W σ (RelP ad X.K) G c H Q ((asB r).bind f))
    (k : ∀ b ρ H1 G1 c1, Step G c H G1 c1 H1 → Slots ad X.K G1 ρ σ c1 → Hold G1 c1 H1 → Aft ad X.K W σ (RelP ad X.K) G1 c1 H1 Q (f b ρ) → P (.bl b) H1) : Aft ad X.K W σ (RelP ad X.K) G c H P r := by
  cases r with
  | bad => exact h
  | ex x ρ => exact h
  | ok p ρ =>
    intro v H1 G1 c1 t s sl1 h1 hv
    have hv' : Rep ad X.K G1 p v t := hv
    cases p with
    | bl b =>
      cases hv'
      have h' : Aft ad X.K W σ (RelP ad X.K) G c H Q (f b ρ) := h
      exact k b ρ H1 G1 c1 (nilL s) sl1 (nilH h1) (h'.go0 s h1)
    | _ => exact h.elim
theorem se_and {a b : Expr} {rest : List Expr} {x y : IE} (ha : SE ad X W a (evE cf x)) (hb : SE ad X W (.BoolOp .And (b :: rest) pos) (evE cf y)) : SE ad X W (.BoolOp .And (a :: b :: rest) pos) (evE cf (.and x y)) := (pe_and ha hb).imp fun σ H Q hq => by
  obtain ⟨ρ, G, c, sl, hh, h⟩ := hq
  simp only [evE] at h
  refine ⟨ρ, G, c, sl, hh, asB_seq h fun b ρ1 H1 G1 c1 s sl1 h1 k => ⟨b, rfl, ?_⟩⟩
  cases b with
  | true =>
    rw [if_pos rfl] at k ⊢
    exact ⟨ρ1, G1, c1, sl1, h1, k⟩
  | false =>
    rw [if_neg Bool.false_ne_true] at k ⊢
    exact aft_val k sl1 h1 (.bl false)
theorem se_or {a b : Expr} {rest : List Expr} {x y : IE} (ha : SE ad X W a (evE cf x)) (hb : SE ad X W (.BoolOp .Or (b :: rest) pos) (evE cf y)) : SE ad X W (.BoolOp .Or (a :: b :: rest) pos) (evE cf (.or x y)) := (pe_or ha hb).imp fun σ H Q hq => by
  obtain ⟨ρ, G, c, sl, hh, h⟩ := hq
  simp only [evE] at h
  refine ⟨ρ, G, c, sl, hh, asB_seq h fun b ρ1 H1 G1 c1 s sl1 h1 k => ⟨b, rfl, ?_⟩⟩
  cases b with
  | true =>
    rw [if_pos rfl] at k ⊢
    exact aft_val k sl1 h1 (.bl true)
  | false =>
    rw [if_neg Bool.false_ne_true] at k ⊢
    exact ⟨ρ1, G1, c1, sl1, h1, k⟩
/-- a test ahead of something -/
theorem test_seq {α β : Type} {R : RRel α β} {σ : St} {c : List Cell} {Q : β → Hp → Prop} {r : Res Bool} {f : Bool → Fr → Res α} {P : Bool → Hp → Prop} (h : Aft ad X.K W σ R G c H Q (r.bind f))
    (k : ∀ b ρ H1 G1 c1, Step G c H G1 c1 H1 → Slots ad X.K G1 ρ σ c1 → Hold G1 c1 H1 → Aft ad X.K W σ R G1 c1 H1 Q (f b ρ) → P b H1) : Aft ad X.K W σ RelB G c H P r := by
  refine h.seq fun b ρ1 b' H1 G1 c1 t s sl1 h1 ⟨et, hv⟩ k' => ?_
  subst et
  subst hv
  exact k b ρ1 H1 G1 c1 (nilL s) sl1 (nilH h1) (k'.go0 s h1)
theorem se_ite {t a b : Expr} {w x y : IE} (ht : ST ad X W t (evT cf w (evE cf w))) (ha : SE ad X W a (evE cf x)) (hb : SE ad X W b (evE cf y)) : SE ad X W (.IfExp t a b pos) (evE cf (.ite w x y)) := (pe_ifExp ht ha hb).imp fun σ H Q hq => by
  obtain ⟨ρ, G, c, sl, hh, h⟩ := hq
  simp only [evE] at h
  refine ⟨ρ, G, c, sl, hh, test_seq h fun b ρ1 H1 G1 c1 s sl1 h1 k => ?_⟩
  cases b with
  | true =>
    rw [if_pos rfl] at k ⊢
    exact ⟨ρ1, G1, c1, sl1, h1, k⟩
  | false =>
    rw [if_neg Bool.false_ne_true] at k ⊢
    exact ⟨ρ1, G1, c1, sl1, h1, k⟩
/-! tests -/
abbrev SW (ad : Str → Addr) (X : Cx) (W : WX) (e : Expr) (m : Fr → Res Bool) : Prop := PW X e (rd ad X W RelB m)
theorem _root_.L2.PW.imp {X : Cx} {e : Expr} {t t' : TT} (h : PW X e t) (i : ∀ σ H Q, t' σ H Q → t σ H Q) : PW X e t' := ⟨fun wh pins s σ H Q I hw => h.run wh pins s σ H Q I (i σ H Q hw)⟩
theorem aft_b {σ : St} {c : List Cell} {Q : Bool → Hp → Prop} {b : Bool} {ρ : Fr} (h : Aft ad X.K W σ RelB G c H Q (.ok b ρ)) (sl : Slots ad X.K G ρ σ c) (hh : Hold G c H) : Q b H :=
  h b H G c [] (toL Step.refl) sl (toH hh) ⟨rfl, rfl⟩
theorem sw_and {a b : Expr} {rest : List Expr} {x y : IE} {run : Fr → Res PV} (ha : ST ad X W a (evT cf x (evE cf x))) (hb : SW ad X W (.BoolOp .And (b :: rest) pos) (evT cf y (evE cf y))) : SW ad X W (.BoolOp .And (a :: b :: rest) pos) (evT cf (.and x y) run) := (pw_and ha hb).imp fun σ H Q hq => by
  obtain ⟨ρ, G, c, sl, hh, h⟩ := hq
  simp only [evT] at h
  refine ⟨ρ, G, c, sl, hh, test_seq h fun b ρ1 H1 G1 c1 s sl1 h1 k => ?_⟩
  cases b with
  | true =>
    rw [if_pos rfl] at k ⊢
    exact ⟨ρ1, G1, c1, sl1, h1, k⟩
  | false =>
    rw [if_neg Bool.false_ne_true] at k ⊢
    exact aft_b k sl1 h1
theorem sw_or {a b : Expr} {rest : List Expr} {x y : IE} {run : Fr → Res PV} (ha : ST ad X W a (evT cf x (evE cf x))) (hb : SW ad X W (.BoolOp .Or (b :: rest) pos) (evT cf y (evE cf y))) : SW ad X W (.BoolOp .Or (a :: b :: rest) pos) (evT cf (.or x y) run) := (pw_or ha hb).imp fun σ H Q hq => by
  obtain ⟨ρ, G, c, sl, hh, h⟩ := hq
  simp only [evT] at h
  refine ⟨ρ, G, c, sl, hh, test_seq h fun b ρ1 H1 G1 c1 s sl1 h1 k => ?_⟩
  cases b with
  | true =>
    rw [if_pos rfl] at k ⊢
    exact aft_b k sl1 h1
  | false =>
    rw [if_neg Bool.false_ne_true] at k ⊢
    exact ⟨ρ1, G1, c1, sl1, h1, k⟩
theorem st_not {a : Expr} {x : IE} {run : Fr → Res PV} (ha : ST ad X W a (evT cf x (evE cf x))) : ST ad X W (.UnaryOp .Not a pos) (evT cf (.op .not [x]) run) := (pt_not ha).imp fun σ H Q hq => by
  obtain ⟨ρ, G, c, sl, hh, h⟩ := hq
  simp only [evT] at h
  exact ⟨ρ, G, c, sl, hh, test_seq h fun b ρ1 H1 G1 c1 s sl1 h1 k => aft_b k sl1 h1⟩
/-- what is a bool already -/
theorem rd_asB {σ : St} {H : Hp} {Q : Bool → Hp → Prop} {run : Fr → Res PV} (h : rd ad X W RelB (fun ρ => asB (run ρ)) σ H Q) : rd ad X W (RelP ad X.K) run σ H fun x H1 => ∃ k, x = .bl k ∧ Q k H1 := by
  obtain ⟨ρ, G, c, sl, hh, ha⟩ := h
  refine ⟨ρ, G, c, sl, hh, ?_⟩
  dsimp only at ha
  cases e : run ρ with
  | bad => rw [e] at ha; exact ha
  | ex x ρ1 => rw [e] at ha; exact ha
  | ok p ρ1 =>
    rw [e] at ha
    intro v H1 G1 c1 t s sl1 h1 hv
    have hv' : Rep ad X.K G1 p v t := hv
    cases p with
    | bl b =>
      cases hv'
      have ha' : Aft ad X.K W σ RelB G c H Q (.ok b ρ1) := ha
      exact ⟨b, rfl, ha' b H1 G1 c1 [] s sl1 h1 ⟨rfl, rfl⟩⟩
    | _ => exact ha.elim
theorem rd_truth {σ : St} {H : Hp} {Q : Bool → Hp → Prop} {ie : IE} {run : Fr → Res PV} (h : rd ad X W RelB (fun ρ => (opnd ie run ρ).bind fun o ρ1 => match rsv ρ1 o with
    | some p => (match truth p with
      | some k => .ok k ρ1
      | none => .bad)
    | none => .bad) σ H Q) : rd ad X W (RelO ad X.K) (opnd ie run) σ H fun x H1 => ∃ k, TruV X.K x H1 k ∧ Q k H1 := by
  obtain ⟨ρ, G, c, sl, hh, ha⟩ := h
  refine ⟨ρ, G, c, sl, hh, Aft.seq ha fun o ρ1 v H1 G1 c1 t s sl1 h1 ⟨et, hv⟩ k => ?_⟩
  subst et
  have k1 := k.go0 s h1
  have h1' := nilH h1
  cases e1 : rsv ρ1 o with
  | none => rw [e1] at k1; exact k1.elim
  | some p =>
    rw [e1] at k1
    dsimp only at k1
    cases e2 : truth p with
    | none => rw [e2] at k1; exact k1.elim
    | some b =>
      rw [e2] at k1
      exact ⟨b, tru_N (hv.vw sl1 e1) h1' e2, aft_b k1 sl1 h1'⟩
end
end Y
end
section
set_option Elab.async false
set_option linter.all false
set_option maxRecDepth 100000
set_option maxHeartbeats 2000000
set_option autoImplicit false
/-! Y5: chains, slices, calls, what is walked, comprehensions. -/
namespace Y
open PySem L2
variable {ad : Str → Addr} {K : PySem.W.Frag} {G G' G1 G2 H H' H1 H2 : Hp}
section
variable {X : Cx} {W : WX} {cf : Cf} {pos : Pos}
theorem Aft.calm {α β : Type} {R : RRel α β} {σ : St} {c : List Cell} {Q : β → Hp → Prop} {a : α} {ρ : Fr} {v : β} (h : Aft ad K W σ R G c H Q (.ok a ρ)) (sl : Slots ad K G ρ σ c) (hh : Hold G c H) (r : R σ G a v []) : Q v H :=
  h v H G c [] (toL Step.refl) sl (toH hh) r
/-- a op b op d -/
theorem rd_chain {f g : CmpOp} {x y z : IE} {σ : St} {H : Hp} {Q : VK} (hq : rd ad X W (RelP ad X.K) (evE cf (.chain f g x y z)) σ H Q) : tChain (fun x y H Q => RN ad X.K (opN (.cmp f)) [x, y] H Q) (fun x y H Q => RN ad X.K (opN (.cmp g)) [x, y] H Q) (rd ad X W (RelO ad X.K) (opnd x (evE cf x))) (rd ad X W (RelO ad X.K) (opnd y (evE cf y))) (rd ad X W (RelO ad X.K) (opnd z (evE cf z))) σ H Q := by
  obtain ⟨ρ, G, c, sl, hh, h⟩ := hq
  simp only [evE] at h
  refine ⟨ρ, G, c, sl, hh, h.seq fun o1 ρ1 v1 H1 G1 c1 t1 s1 sl1 h1 ⟨et1, hv1⟩ k1 => ?_⟩
  subst et1
  have k1' := k1.go0 s1 h1
  have h1' := nilH h1
  refine ⟨ρ1, G1, c1, sl1, h1', k1'.seq fun o2 ρ2 v2 H2 G2 c2 t2 s2 sl2 h2 ⟨et2, hv2⟩ k2 => ?_⟩
  subst et2
  have k2' := k2.go0 s2 h2
  have h2' := nilH h2
  have hv1' := hv1.mono s2.fz
  cases e1 : rsv ρ2 o1 with
  | none => rw [e1] at k2'; exact k2'.elim
  | some p =>
    cases e2 : rsv ρ2 o2 with
    | none => rw [e1, e2] at k2'; exact k2'.elim
    | some q =>
      rw [e1, e2] at k2'
      dsimp only at k2'
      cases e3 : cmpN f p q with
      | none => rw [e3] at k2'; exact k2'.elim
      | some b1 =>
        rw [e3] at k2'
        refine ⟨[p, q], G2, c2, .bl b1, .cons (hv1'.vw sl2 e1) (.cons (hv2.vw sl2 e2) .nil), h2', by simp only [opN, e3]; rfl, fun v3 H3 G3 t3 s3 h3 r3 => ?_⟩
        cases r3
        have k3 := k2'.go0 s3 h3
        have h3' := nilH h3
        have sl3 := sl2.mono s3.fz
        refine ⟨b1, rfl, ?_⟩
        cases b1 with
        | false =>
          rw [if_neg Bool.false_ne_true]
          exact k3.calm sl3 h3' (.bl false)
        | true =>
          rw [if_pos rfl]
          refine ⟨ρ2, G3, c2, sl3, h3', k3.seq fun o4 ρ4 v4 H4 G4 c4 t4 s4 sl4 h4 ⟨et4, hv4⟩ k4 => ?_⟩
          subst et4
          have k4' := k4.go0 s4 h4
          have h4' := nilH h4
          cases e4 : rsv ρ4 o2 with
          | none => rw [e4] at k4'; exact k4'.elim
          | some q' =>
            cases e5 : rsv ρ4 o4 with
            | none => rw [e4, e5] at k4'; exact k4'.elim
            | some r' =>
              rw [e4, e5] at k4'
              dsimp only at k4'
              cases e6 : cmpN g q' r' with
              | none => rw [e6] at k4'; exact k4'.elim
              | some b2 =>
                rw [e6] at k4'
                exact ⟨[q', r'], G4, c4, .bl b2, .cons (((hv2.mono s3.fz).mono s4.fz).vw sl4 e4) (.cons (hv4.vw sl4 e5) .nil), h4', by simp only [opN, e6]; rfl, fun v5 H5 G5 t5 s5 h5 r5 => k4' v5 H5 G5 c4 t5 s5 (sl4.mono s5.fz) h5 r5⟩
theorem se_chain {f g : CmpOp} {a b d : Expr} {x y z : IE} (hu : X.A.units + 65 < cLine) (ha : SO ad X W a (opnd x (evE cf x))) (hb : SO ad X W b (opnd y (evE cf y))) (hd : SO ad X W d (opnd z (evE cf z)))
    (hm : lastMarks [f, g] [b, d] = false) : SE ad X W (.Compare a [f, g] [b, d] pos) (evE cf (.chain f g x y z)) := (pe_chain (op_cmpN (ad := ad) hu f) (op_cmpN (ad := ad) hu g) ha hb hd hm).imp fun σ H Q hq => rd_chain hq
/-! displays that are read and thrown away -/
def DVal (ad : Str → Addr) (K : PySem.W.Frag) (σ : St) (G : Hp) (t : Option Bool) (os : List OV) (v : V) : Prop := match t with
  | none => ∃ o, os = [o] ∧ OVal ad K σ G o v
  | some true => ∃ a vs, v = .ref a ∧ G a = some (.tup vs) ∧ OVals ad K σ G os vs
  | some false => ∃ a vs, v = .ref a ∧ G a = some (.lst vs) ∧ OVals ad K σ G os vs
def RelD (ad : Str → Addr) (K : PySem.W.Frag) (t : Option Bool) : RRel (List OV) V := fun σ G os v c => c = [] ∧ DVal ad K σ G t os v
theorem DVal.mono {σ : St} {t : Option Bool} {os : List OV} {v : V} (s : Sub G G') (h : DVal ad K σ G t os v) : DVal ad K σ G' t os v := by
  cases t with
  | none => obtain ⟨o, e, h⟩ := h; exact ⟨o, e, h.mono s⟩
  | some b =>
    cases b with
    | true => obtain ⟨a, vs, e, g, h⟩ := h; exact ⟨a, vs, e, s _ _ g, h.mono s⟩
    | false => obtain ⟨a, vs, e, g, h⟩ := h; exact ⟨a, vs, e, s _ _ g, h.mono s⟩
theorem VwL.repL {c : List Cell} : ∀ {ps : List PV} {vs : List V}, VwL ad K G c ps vs → ∃ d, RepL ad K G ps vs d ∧ ∀ z ∈ d, z ∈ c
  | _, _, .nil => ⟨[], .nil, fun _ z => nomatch z⟩
  | _, _, .cons ⟨d, r, k⟩ t => by
    obtain ⟨d2, r2, k2⟩ := VwL.repL t
    exact ⟨d ++ d2, .cons r r2, fun z hz => (List.mem_append.mp hz).elim (k z) (k2 z)⟩
theorem OVals.length {σ : St} : ∀ {os : List OV} {vs : List V}, OVals ad K σ G os vs → os.length = vs.length
  | _, _, .nil => rfl
  | _, _, .cons _ t => by simp [OVals.length t]
theorem DVal.vw {σ : St} {ρ : Fr} {c : List Cell} {t : Option Bool} {os : List OV} {v : V} {p : PV} (h : DVal ad K σ G t os v) (sl : Slots ad K G ρ σ c) (e : (rsvL ρ os).bind (dspP t) = some p) : Vw ad K G c p v := by
  obtain ⟨ps, e1, e2⟩ := Option.bind_eq_some_iff.mp e
  cases t with
  | none =>
    obtain ⟨o, rfl, h⟩ := h
    obtain ⟨v', ev, vw⟩ := (OVals.vw sl (OVals.cons h .nil) e1).length |> fun _ => (⟨v, rfl, OVals.vw sl (OVals.cons h .nil) e1⟩ : ∃ v', v' = v ∧ VwL ad K G c ps [v'])
    cases vw with
    | cons a t =>
      cases t
      cases e2
      subst ev
      exact a
  | some b =>
    cases b with
    | true =>
      obtain ⟨a, vs, rfl, g, h⟩ := h
      cases e2
      obtain ⟨d, r, k⟩ := (OVals.vw sl h e1).repL
      exact ⟨d, .tup g r, k⟩
    | false =>
      obtain ⟨a, vs, rfl, g, h⟩ := h
      cases e2
      obtain ⟨d, r, k⟩ := (OVals.vw sl h e1).repL
      exact ⟨d, .lstF g r, k⟩
abbrev SD (ad : Str → Addr) (X : Cx) (W : WX) (cf : Cf) (e : Expr) (t : Option Bool) (ies : List IE) : Prop := PE X e (rd ad X W (RelD ad X.K t) fun ρ => (evO cf ies ρ).bind fitO)
theorem sd_one {e : Expr} {ie : IE} (h : SO ad X W e (opnd ie (evE cf ie))) : SD ad X W cf e none [ie] := h.imp fun σ H Q hq => by
  obtain ⟨ρ, G, c, sl, hh, ha⟩ := hq
  refine ⟨ρ, G, c, sl, hh, ?_⟩
  simp only [evO] at ha
  cases e : opnd ie (evE cf ie) ρ with
  | bad => rw [e] at ha; exact ha
  | ex x ρ1 => rw [e] at ha; exact ha
  | ok o ρ1 =>
    rw [e] at ha
    have ha' : Aft ad X.K W σ (RelD ad X.K none) G c H Q (.ok [o] ρ1) := ha
    intro v H1 G1 c1 t s sl1 h1 ⟨et, hv⟩
    subst et
    exact ha' v H1 G1 c1 [] s sl1 h1 ⟨rfl, o, rfl, hv⟩
theorem sd_tup {es : List Expr} {ies : List IE} {n : Nat} (h : SOs ad X W es (evO cf ies)) : SD ad X W cf (.Tuple es n pos) (some true) ies := (pe_tup h).imp fun σ H Q hq => by
  obtain ⟨ρ, G, c, sl, hh, ha⟩ := hq
  refine ⟨ρ, G, c, sl, hh, Aft.seq ha fun os ρ1 vs H1 G1 c1 t s sl1 h1 ⟨et, hv⟩ k => ?_⟩
  subst et
  unfold fitO at k
  split at k
  · rename_i hz
    refine ⟨by rw [← hv.length]; exact okS_le hz, fun p hp => ?_⟩
    have h1' := nilH h1
    obtain ⟨q1, q2⟩ := h1'.newF hp (.tup vs)
    exact k (.ref p) _ (upd G1 p (.tup vs)) c1 [] (toL ((nilL s).trans q2 h1')) (sl1.mono q2.fz) (toH q1) ⟨rfl, p, vs, rfl, upd_same, hv.mono q2.fz⟩
  · exact k.elim
theorem sd_lst {es : List Expr} {ies : List IE} (h : SOs ad X W es (evO cf ies)) : SD ad X W cf (.List es pos) (some false) ies := (pe_lst h).imp fun σ H Q hq => by
  obtain ⟨ρ, G, c, sl, hh, ha⟩ := hq
  refine ⟨ρ, G, c, sl, hh, Aft.seq ha fun os ρ1 vs H1 G1 c1 t s sl1 h1 ⟨et, hv⟩ k => ?_⟩
  subst et
  unfold fitO at k
  split at k
  · rename_i hz
    refine ⟨by rw [← hv.length]; exact okS_le hz, fun p hp => ?_⟩
    have h1' := nilH h1
    obtain ⟨q1, q2⟩ := h1'.newF hp (.lst vs)
    exact k (.ref p) _ (upd G1 p (.lst vs)) c1 [] (toL ((nilL s).trans q2 h1')) (sl1.mono q2.fz) (toH q1) ⟨rfl, p, vs, rfl, upd_same, hv.mono q2.fz⟩
  · exact k.elim
theorem rd_dcmp {f : CmpOp} {t u : Option Bool} {es ds : List IE} {σ : St} {H : Hp} {Q : VK} (hq : rd ad X W (RelP ad X.K) (evE cf (.dcmp f t es u ds)) σ H Q) : rd ad X W (RelD ad X.K t) (fun ρ => (evO cf es ρ).bind fitO) σ H fun x H1 => rd ad X W (RelD ad X.K u) (fun ρ => (evO cf ds ρ).bind fitO) σ H1 fun y H2 => RN ad X.K (opN (.cmp f)) [x, y] H2 Q := by
  obtain ⟨ρ, G, c, sl, hh, h⟩ := hq
  simp only [evE] at h
  refine ⟨ρ, G, c, sl, hh, h.seq fun os ρ1 v1 H1 G1 c1 t1 s1 sl1 h1 ⟨et1, hv1⟩ k1 => ?_⟩
  subst et1
  have k1' := k1.go0 s1 h1
  have h1' := nilH h1
  refine ⟨ρ1, G1, c1, sl1, h1', k1'.seq fun os2 ρ2 v2 H2 G2 c2 t2 s2 sl2 h2 ⟨et2, hv2⟩ k2 => ?_⟩
  subst et2
  have k2' := k2.go0 s2 h2
  have h2' := nilH h2
  split at k2'
  · rename_i p q e1 e2
    split at k2'
    · rename_i b e3
      exact ⟨[p, q], G2, c2, .bl b, .cons ((hv1.mono s2.fz).vw sl2 e1) (.cons (hv2.vw sl2 e2) .nil), h2', by simp only [opN, e3]; rfl, fun v3 H3 G3 t3 s3 h3 r3 => k2' v3 H3 G3 c2 t3 s3 (sl2.mono s3.fz) h3 r3⟩
    · exact k2'.elim
  · exact k2'.elim
/-! slices -/
theorem partN_int {p : PV} {i : Int} (h : partN p = some i) : p = .int i := by
  cases p with
  | int j => cases h; rfl
  | _ => cases h
theorem rn_sl0 {x : V} {Q : VK} (h : RN ad X.K (opN (.slice false false)) [x] H Q) : rSlL X.K x none none H Q := by
  obtain ⟨p, G, c, r, vp, hh, e, k⟩ := rn1 (c := []) h
  exact sl_N vp hh e k
theorem rn_sl1 {x y : V} {Q : VK} (h : RN ad X.K (opN (.slice true false)) [x, y] H Q) : ∃ i, y = .int i ∧ rSlL X.K x (some i) none H Q := by
  obtain ⟨p, q, G, c, r, vp, vq, hh, e, k⟩ := rn_2 h
  obtain ⟨i, e1, e2⟩ := Option.bind_eq_some_iff.mp (show (partN q).bind _ = some r from e)
  obtain rfl := partN_int e1
  exact ⟨i, vq.int, sl_N vp hh e2 k⟩
theorem rn_sl2 {x y : V} {Q : VK} (h : RN ad X.K (opN (.slice false true)) [x, y] H Q) : ∃ i, y = .int i ∧ rSlL X.K x none (some i) H Q := by
  obtain ⟨p, q, G, c, r, vp, vq, hh, e, k⟩ := rn_2 h
  obtain ⟨i, e1, e2⟩ := Option.bind_eq_some_iff.mp (show (partN q).bind _ = some r from e)
  obtain rfl := partN_int e1
  exact ⟨i, vq.int, sl_N vp hh e2 k⟩
theorem se_slice0 {e : Expr} {x : IE} {p2 : Pos} (he : SO ad X W e (opnd x (evE cf x))) : SE ad X W (.Subscript e (.Slice none none none p2) pos) (evE cf (.op (.slice false false) [x])) :=
  (pe_slice sl_list he po_none po_none).imp fun σ H Q hq => by
    obtain ⟨ρ, G, c, sl, hh, ha⟩ := rd_op1 hq
    refine ⟨ρ, G, c, sl, hh, ?_⟩
    cases e : opnd x (evE cf x) ρ with
    | bad => rw [e] at ha; exact ha
    | ex x ρ1 => rw [e] at ha; exact ha
    | ok o ρ1 =>
      rw [e] at ha
      exact fun v H1 G1 c1 t s sl1 h1 hr => rn_sl0 (ha v H1 G1 c1 t s sl1 h1 hr)
theorem rd_imp {α β : Type} {R : RRel α β} {m : Fr → Res α} {σ : St} {H : Hp} {Q Q' : β → Hp → Prop} (h : rd ad X W R m σ H Q) (k : ∀ v H, Q v H → Q' v H) : rd ad X W R m σ H Q' := by
  obtain ⟨ρ, G, c, sl, hh, ha⟩ := h
  refine ⟨ρ, G, c, sl, hh, ?_⟩
  cases e : m ρ with
  | bad => rw [e] at ha; exact ha
  | ex x ρ1 => rw [e] at ha; exact ha
  | ok o ρ1 =>
    rw [e] at ha
    exact fun v H1 G1 c1 t s sl1 h1 hr => k v H1 (ha v H1 G1 c1 t s sl1 h1 hr)
theorem se_slice1 {e a : Expr} {x y : IE} {p2 : Pos} (he : SO ad X W e (opnd x (evE cf x))) (ha : SO ad X W a (opnd y (evE cf y))) : SE ad X W (.Subscript e (.Slice (some a) none none p2) pos) (evE cf (.op (.slice true false) [x, y])) :=
  (pe_slice sl_list he (po_some ha) po_none).imp fun σ H Q hq => rd_imp (rd_op2 hq) fun v H1 q => rd_imp q fun w H2 q => rn_sl1 q
theorem se_slice2 {e a : Expr} {x y : IE} {p2 : Pos} (he : SO ad X W e (opnd x (evE cf x))) (ha : SO ad X W a (opnd y (evE cf y))) : SE ad X W (.Subscript e (.Slice none (some a) none p2) pos) (evE cf (.op (.slice false true) [x, y])) :=
  (pe_slice sl_list he po_none (po_some ha)).imp fun σ H Q hq => rd_imp (rd_op2 hq) fun v H1 q => rd_imp q fun w H2 q => rn_sl2 q
theorem se_slice3 {e a b : Expr} {x y z : IE} {p2 : Pos} (he : SO ad X W e (opnd x (evE cf x))) (ha : SO ad X W a (opnd y (evE cf y))) (hb : SO ad X W b (opnd z (evE cf z))) : SE ad X W (.Subscript e (.Slice (some a) (some b) none p2) pos) (evE cf (.slc x y z)) :=
  (pe_slice sl_list he (po_some ha) (po_some hb)).imp fun σ H Q hq => by
    obtain ⟨ρ, G, c, sl, hh, h⟩ := hq
    simp only [evE] at h
    refine ⟨ρ, G, c, sl, hh, h.seq fun o1 ρ1 v1 H1 G1 c1 t1 s1 sl1 h1 ⟨et1, hv1⟩ k1 => ?_⟩
    subst et1
    have k1' := k1.go0 s1 h1
    have h1' := nilH h1
    refine ⟨ρ1, G1, c1, sl1, h1', k1'.seq fun o2 ρ2 v2 H2 G2 c2 t2 s2 sl2 h2 ⟨et2, hv2⟩ k2 => ?_⟩
    subst et2
    have k2' := k2.go0 s2 h2
    have h2' := nilH h2
    cases e1 : (rsv ρ2 o2).bind partN with
    | none => rw [e1] at k2'; exact k2'.elim
    | some i =>
      rw [e1] at k2'
      obtain ⟨p, e2, e3⟩ := Option.bind_eq_some_iff.mp e1
      obtain rfl := partN_int e3
      obtain rfl := (hv2.vw sl2 e2).int
      refine ⟨i, rfl, ρ2, G2, c2, sl2, h2', k2'.seq fun o3 ρ3 v3 H3 G3 c3 t3 s3 sl3 h3 ⟨et3, hv3⟩ k3 => ?_⟩
      subst et3
      have k3' := k3.go0 s3 h3
      have h3' := nilH h3
      cases e4 : rsv ρ3 o1 with
      | none => rw [e4] at k3'; exact k3'.elim
      | some q =>
        cases e5 : (rsv ρ3 o3).bind partN with
        | none => rw [e4, e5] at k3'; exact k3'.elim
        | some j =>
          rw [e4, e5] at k3'
          dsimp only at k3'
          obtain ⟨p', e6, e7⟩ := Option.bind_eq_some_iff.mp e5
          obtain rfl := partN_int e7
          obtain rfl := (hv3.vw sl3 e6).int
          cases e8 : sliceN q (some i) (some j) with
          | none => rw [e8] at k3'; exact k3'.elim
          | some r =>
            rw [e8] at k3'
            exact ⟨j, rfl, sl_N (((hv1.mono s2.fz).mono s3.fz).vw sl3 e4) h3' e8 fun v5 H5 G5 t5 s5 h5 r5 => k3' v5 H5 G5 c3 t5 s5 (sl3.mono s5.fz) h5 r5⟩
theorem se_back {e : Expr} {x : IE} {k : Nat} {p1 p2 p3 : Pos} (he : SO ad X W e (opnd x (evE cf x))) : SE ad X W (.Subscript e (.Slice none none (some (.UnaryOp .USub (.Constant (.int 1) k p1) p2)) p3) pos) (evE cf (.op .back [x])) :=
  (pe_revL he).imp fun σ H Q hq => rd_imp (rd_op1 hq) fun v H1 q => by
    obtain ⟨p, G, c, r, vp, hh, e, k⟩ := rn1 (c := []) q
    obtain ⟨xs, e1, e2⟩ := Option.bind_eq_some_iff.mp (show (lstOf p).bind _ = some r from e)
    obtain ⟨o, rfl⟩ := lstOf_some e1
    split at e2
    · rename_i hf
      cases e2
      obtain ⟨a, vs, d, rfl, h1, r1, _⟩ := vp.lst hh
      exact ⟨a, vs, rfl, .of h1, fun l hl => doneL hh (r1.fz0 hf).rev0 k hl⟩
    · cases e2

/-! ### calls of the text's own defs -/
/-- an argument: its value; where it is lent, the slot holds that very value -/
def RelA1 (ad : Str → Addr) (K : PySem.W.Frag) : RRel (PV × Option Nat) V := fun σ G a v t => Rep ad K G a.1 v t ∧ ∀ i, a.2 = some i → σ[i]? = some (some v)
inductive LentTo (σ : St) : List (Option Nat) → List V → Prop
  | nil : LentTo σ [] []
  | cons {o : Option Nat} {os : List (Option Nat)} {v : V} {vs : List V} : (∀ i, o = some i → σ[i]? = some (some v)) → LentTo σ os vs → LentTo σ (o :: os) (v :: vs)
def RelA (ad : Str → Addr) (K : PySem.W.Frag) : RRel (List (PV × Option Nat)) (List V) := fun σ G a v t => RepL ad K G (a.map (·.1)) v t ∧ LentTo σ (a.map (·.2)) v
theorem sa_loc {x : Str} {i : Nat} {run : Fr → Res PV} (h : PE X (.Name x pos) (tVar i)) : PE X (.Name x pos) (rd ad X W (RelA1 ad X.K) (argd true (.loc i) run)) := h.imp fun σ H Q hq => by
  obtain ⟨ρ, G, c, sl, hh, ha⟩ := hq
  simp only [argd] at ha
  cases e : ρ.at i with
  | none => rw [e] at ha; exact ha.elim
  | some p =>
    rw [e] at ha
    obtain ⟨v, d, r, e1, e2, e3, e4⟩ := sl.out e
    refine ⟨v, e1, ?_⟩
    dsimp only at ha
    split at ha
    · rename_i hf
      have e5 := e2.nocell hf
      subst e5
      exact ha v H G c [] (toL Step.refl) sl (toH hh) ⟨e2, fun i z => by cases z⟩
    · exact ha v H G r d ((Step.refl (c := c)).perm (List.Perm.refl _) (e4.trans List.perm_append_comm)) e3 (hh.perm (e4.trans List.perm_append_comm)) ⟨e2, fun j z => by cases z; exact e1⟩
theorem argd_val {b : Bool} {ie : IE} {run : Fr → Res PV} (h : (b && isLoc ie) = false) (ρ : Fr) : argd b ie run ρ = (run ρ).bind fun p ρ' => .ok (p.frz, none) ρ' := by
  cases b with
  | false => cases ie <;> rfl
  | true =>
    cases ie <;> first
      | rfl
      | cases h
theorem sa_val {b : Bool} {e : Expr} {ie : IE} {run : Fr → Res PV} (hl : (b && isLoc ie) = false) (h : SE ad X W e run) : PE X e (rd ad X W (RelA1 ad X.K) (argd b ie run)) := h.imp fun σ H Q hq => by
  obtain ⟨ρ, G, c, sl, hh, ha⟩ := hq
  rw [argd_val hl] at ha
  refine ⟨ρ, G, c, sl, hh, ha.seq fun p ρ1 v H1 G1 c1 t s sl1 h1 r k => ?_⟩
  exact k v H1 (addc G1 t) c1 [] (toL (s.absorb h1)) (sl1.mono (addc_sub h1.right)) (toH h1.absorb) ⟨Rep.absorb h1 r, fun i z => by cases z⟩
theorem so_opA {b : Bool} {e : Expr} {ie : IE} {run : Fr → Res PV} (h1 : b = true → SO ad X W e (opnd ie run)) (h2 : b = false → SE ad X W e run) : SO ad X W e (opA b ie run) := by
  cases b with
  | true => exact h1 rfl
  | false =>
    refine (h2 rfl).imp fun σ H Q hq => ?_
    obtain ⟨ρ, G, c, sl, hh, ha⟩ := hq
    refine ⟨ρ, G, c, sl, hh, Aft.seq (f := fun p ρ' => Res.ok (OV.vl p.frz) ρ') (show Aft ad X.K W σ (RelO ad X.K) G c H Q ((run ρ).bind _) from ha) fun p ρ1 v H1 G1 c1 t s sl1 h1 r k => ?_⟩
    exact k v H1 (addc G1 t) c1 [] (toL (s.absorb h1)) (sl1.mono (addc_sub h1.right)) (toH h1.absorb) ⟨rfl, Rep.absorb h1 r⟩
theorem rd_as_nil {ls : List Bool} {σ : St} {H : Hp} {Q : List V → Hp → Prop} (h : rd ad X W (RelOs ad X.K) (evA cf ls []) σ H Q) : Q [] H := by
  obtain ⟨ρ, G, c, sl, hh, ha⟩ := h
  simp only [evA] at ha
  exact ha [] H G c [] (toL Step.refl) sl (toH hh) ⟨rfl, .nil⟩
theorem rd_as_cons {ls : List Bool} {a : IE} {es : List IE} {σ : St} {H : Hp} {Q : List V → Hp → Prop} (h : rd ad X W (RelOs ad X.K) (evA cf ls (a :: es)) σ H Q) :
    rd ad X W (RelO ad X.K) (opA (ls.headD false) a (evE cf a)) σ H fun x H1 => rd ad X W (RelOs ad X.K) (evA cf ls.tail es) σ H1 fun xs H2 => Q (x :: xs) H2 := by
  obtain ⟨ρ, G, c, sl, hh, ha⟩ := h
  simp only [evA] at ha
  refine ⟨ρ, G, c, sl, hh, ha.seq fun o ρ1 v H1 G1 c1 t s sl1 h1 ⟨et, hv⟩ k => ?_⟩
  subst et
  have k1 := k.go0 s h1
  refine ⟨ρ1, G1, c1, sl1, nilH h1, k1.seq fun os ρ2 vs H2 G2 c2 t2 s2 sl2 h2 ⟨et2, hv2⟩ k2 => ?_⟩
  subst et2
  exact k2 (v :: vs) H2 G2 c2 [] s2 sl2 h2 ⟨rfl, .cons (hv.mono s2.fz) hv2⟩
abbrev SAs (ad : Str → Addr) (X : Cx) (W : WX) (e : List Expr) (m : Fr → Res (List OV)) : Prop := PA X e (rd ad X W (RelOs ad X.K) m)
theorem sas_nil {ls : List Bool} : SAs ad X W [] (evA cf ls []) := pa_nil.imp fun _ _ _ h => rd_as_nil h
theorem sas_cons {ls : List Bool} {e : Expr} {es : List Expr} {a : IE} {as : List IE} (ha : SO ad X W e (opA (ls.headD false) a (evE cf a))) (hs : SAs ad X W es (evA cf ls.tail as)) (hst : starEach (e :: es) X.env = (false, eval e X.env) :: starEach es X.env) : SAs ad X W (e :: es) (evA cf ls (a :: as)) :=
  (pa_cons ha hs hst).imp fun _ _ _ h => rd_as_cons h
/-- what is lent is taken out of its slots -/
theorem take_ok {σ : St} : ∀ {os : List OV} {vs : List V} {ρ ρ' : Fr} {c : List Cell} {as : List (PV × Option Nat)}, OVals ad K σ G os vs → Slots ad K G ρ σ c → takeA os ρ = some (as, ρ') →
    ∃ c' t, Slots ad K G ρ' σ c' ∧ RepL ad K G (as.map (·.1)) vs t ∧ LentTo σ (as.map (·.2)) vs ∧ c.Perm (c' ++ t)
  | _, _, _, _, c, _, .nil, sl, e => by
    cases e
    exact ⟨c, [], sl, .nil, .nil, by rw [List.append_nil]⟩
  | _, _, ρ, _, c, _, .cons (o := .vl p) (os := os) r t, sl, e => by
    simp only [takeA] at e
    obtain ⟨z, e1, e2⟩ := Option.map_eq_some_iff.mp e
    cases e2
    obtain ⟨c', d, s', r', l', p'⟩ := take_ok t sl e1
    exact ⟨c', d, s', .cons (c := []) r r', .cons (fun i z => nomatch z) l', p'⟩
  | _, _, ρ, _, c, _, .cons (o := .vw i) (os := os) (v := v) r t, sl, e => by
    simp only [takeA] at e
    cases ea : ρ.at i with
    | none => rw [ea] at e; cases e
    | some p =>
      rw [ea] at e
      dsimp only at e
      obtain ⟨w, d, c2, e1, e2, e3, e4⟩ := sl.out ea
      have ew : w = v := by
        have r' : σ[i]? = some (some v) := r
        rw [e1] at r'
        exact Option.some.inj (Option.some.inj r')
      subst ew
      split at e
      · rename_i hf
        obtain ⟨z, f1, f2⟩ := Option.map_eq_some_iff.mp e
        cases f2
        obtain ⟨c', d', s', r', l', p'⟩ := take_ok t sl f1
        have hd := e2.nocell hf
        subst hd
        exact ⟨c', d', s', .cons (c := []) e2 r', .cons (fun i z => nomatch z) l', p'⟩
      · obtain ⟨z, f1, f2⟩ := Option.map_eq_some_iff.mp e
        cases f2
        obtain ⟨c', d', s', r', l', p'⟩ := take_ok t e3 f1
        refine ⟨c', d ++ d', s', .cons e2 r', .cons (fun j z => by cases z; exact e1) l', ?_⟩
        refine e4.trans ((p'.append_left d).trans ?_)
        rw [← List.append_assoc, ← List.append_assoc]
        exact List.perm_append_comm.append_right d'
/-- behind a call -/
def AftC (ad : Str → Addr) (K : PySem.W.Frag) (vs : List V) (G : Hp) (c : List Cell) (H : Hp) (Q : VK) (E : XK) : CR → Prop
  | .ok r as => ∀ v H' G' c' t, Step G c H G' (c' ++ t) H' → Slots ad K G' as (vs.map some) c' → Hold G' (c' ++ t) H' → Rep ad K G' r v t → Q v H'
  | .ex x as => ∀ d H' G' c', Step G c H G' c' H' → Slots ad K G' as (vs.map some) c' → Hold G' c' H' → XRep ad K G' x d → E (.ref (ad x.cls)) (some d) H'
  | .bad => False
/-- the promise of a def: what the evaluator says of it -/
def SpOf (ad : Str → Addr) (K : PySem.W.Frag) (call : List PV → CR) : Sp := fun vs H Q E => ∃ ps G c, RepL ad K G ps vs c ∧ Hold G c H ∧ AftC ad K vs G c H Q E (call ps)
theorem give_slots {σ : St} : ∀ {os : List (Option Nat)} {vs : List V}, LentTo σ os vs → ∀ {as ρ : Fr} {c1 c2 : List Cell}, Slots ad K G ρ σ c1 → Slots ad K G as (vs.map some) c2 → ∃ g c3, Slots ad K G (give os as ρ) σ c3 ∧ (c1 ++ c2).Perm (g ++ c3)
  | _, _, .nil, as, ρ, c1, c2, s1, s2 => by
    cases as with
    | nil => exact ⟨c2, c1, s1, List.perm_append_comm⟩
    | cons a as => exact ⟨c2, c1, s1, List.perm_append_comm⟩
  | _, _, .cons (o := o) (os := os) (v := v) (vs := vs) ho t, as, ρ, c1, c2, s1, s2 => by
    cases s2 with
    | @none _ as' _ _ s2 =>
      cases o with
      | none =>
        obtain ⟨g, c3, h1, h2⟩ := give_slots t s1 s2
        exact ⟨g, c3, h1, h2⟩
      | some i =>
        obtain ⟨d, r, h0, h3⟩ := s1.drop i
        obtain ⟨g, c3, h1, h2⟩ := give_slots t h0 s2
        refine ⟨d ++ g, c3, h1, ?_⟩
        refine (h3.append_right c2).trans ?_
        rw [List.append_assoc, List.append_assoc]
        exact h2.append_left d
    | @some p _ as' _ c cs r s2 =>
      cases o with
      | none =>
        obtain ⟨g, c3, h1, h2⟩ := give_slots t s1 s2
        refine ⟨c ++ g, c3, h1, ?_⟩
        rw [List.append_assoc]
        refine List.Perm.trans ?_ (h2.append_left c)
        rw [← List.append_assoc, ← List.append_assoc]
        exact List.perm_append_comm.append_right cs
      | some i =>
        have e := ho i rfl
        have hi : i < ρ.length := by
          rw [s1.length]
          exact (List.getElem?_eq_some_iff.mp e).1
        obtain ⟨d, r1, h0, h3⟩ := s1.set hi r
        rw [set_same e] at h0
        obtain ⟨g, c3, h1, h2⟩ := give_slots t h0 s2
        refine ⟨d ++ g, c3, h1, ?_⟩
        have h4 : ((c ++ c1) ++ cs).Perm ((d ++ r1) ++ cs) := h3.append_right cs
        refine List.Perm.trans ?_ (h4.trans ?_)
        · rw [← List.append_assoc]
          exact List.perm_append_comm.append_right cs
        · rw [List.append_assoc, List.append_assoc]
          exact h2.append_left d
/-- the arguments are there: what the callee's promise asks -/
theorem fin_call {k : Str} {σ : St} {ρ : Fr} {c t : List Cell} {as : List (PV × Option Nat)} {vs : List V} {Q : VK} (h : Aft ad X.K W σ (RelP ad X.K) G c H Q (callR cf k as ρ)) {c1 : List Cell} (s0 : Step G c H G1 (c1 ++ t) H1) (sl : Slots ad X.K G1 ρ σ c1) (hh : Hold G1 (c1 ++ t) H1)
    (hr : RepL ad X.K G1 (as.map (·.1)) vs t) (hl : LentTo σ (as.map (·.2)) vs) : SpOf ad X.K (cf.call k) vs H1 Q fun cls d H' => W cls d σ H' := by
  refine ⟨as.map (·.1), G1, t, hr, hh.right, ?_⟩
  unfold callR at h
  have hh' : Hold G1 (t ++ c1) H1 := hh.perm List.perm_append_comm
  have s0' : Step G c H G1 (t ++ c1) H1 := s0.perm (List.Perm.refl _) List.perm_append_comm
  cases e : cf.call k (as.map (·.1)) with
  | bad => rw [e] at h; exact h
  | ok r as' =>
    rw [e] at h
    intro v H2 G2 c2 t2 s2 sl2 h2 hr2
    obtain ⟨g, c3, q1, q2⟩ := give_slots hl (sl.mono s2.fz) sl2
    have f1 := hh'.frame s2 h2
    have f2 := s0'.frame s2 hh'
    have pm : ((c2 ++ t2) ++ c1).Perm (g ++ (c3 ++ t2)) := by
      refine List.Perm.trans (List.Perm.trans ?_ (q2.append_right t2)) (by rw [List.append_assoc])
      rw [List.append_assoc, List.append_assoc]
      refine List.Perm.trans (List.perm_append_comm.append_left c2) ?_
      rw [← List.append_assoc, ← List.append_assoc]
      exact List.perm_append_comm.append_right t2
    exact h v H2 G2 c3 t2 ((f2.perm (List.Perm.refl _) pm).less fun z hz => List.mem_append_right _ hz) q1 (f1.perm pm).right hr2
  | ex x as' =>
    rw [e] at h
    intro d H2 G2 c2 s2 sl2 h2 hx
    obtain ⟨g, c3, q1, q2⟩ := give_slots hl (sl.mono s2.fz) sl2
    have f1 := hh'.frame s2 h2
    have f2 := s0'.frame s2 hh'
    have pm : (c2 ++ c1).Perm (g ++ c3) := List.perm_append_comm.trans q2
    exact h d H2 G2 c3 ((f2.perm (List.Perm.refl _) pm).less fun z hz => List.mem_append_right _ hz) q1 (f1.perm pm).right hx
/-- the callee runs; what it raises is in our air -/
theorem run_fnX {k : Nat} {f : Addr} {fd : FuncData} {ps : List Str} {sp : Sp} {pins : List (Addr × Obj)} {σ : St} {H : Hp} {s : Shared} {Q : VK} {us : List Value} {vs : List V} (F : FnOk X.prog X.w X.K X.mg X.base (L2.CX X.prog X.w) k f fd ps sp) (hr : Room k X.A) (hb : Binds X.K fd ps []) (tk : Takes X W)
    (I : Inv X pins σ H s) (r : Vals vs us) (h : sp vs H Q fun cls d H' => W cls d σ H') : wpAny (model X.prog X.w) X.A (call (.ref f) us) (EP X pins σ Q) X.xe s := by
  have hl : (us ++ []).length = ps.length := by rw [List.append_nil, ← r.length]; exact F.len _ _ _ _ h
  have hb' := hb s us I.kIn hl
  rw [List.append_nil] at hb'
  refine wpAny_call (codeAny_mono (F.run X.A X.stack s H ⟨us, []⟩ us vs Q _ hr I.env0 hb' r h) fun r s' hq => ?_)
  cases r with
  | error e => exact tk e s' (XE.of_call I (fun _ _ _ z => z) hq)
  | ok fl =>
    cases fl with
    | ret u => exact I.after hq
    | next => exact False.elim hq
    | brk => exact False.elim hq
    | cont => exact False.elim hq
theorem rd_call {key : Str} {ls : List Bool} {as : List IE} {σ : St} {H : Hp} {Q : VK} (hq : rd ad X W (RelP ad X.K) (evE cf (.call key ls as)) σ H Q) : rd ad X W (RelOs ad X.K) (evA cf ls as) σ H fun vs H1 => SpOf ad X.K (cf.call key) vs H1 Q fun cls d H' => W cls d σ H' := by
  obtain ⟨ρ, G, c, sl, hh, h⟩ := hq
  simp only [evE] at h
  refine ⟨ρ, G, c, sl, hh, h.seq fun os ρ1 vs H1 G1 c1 t s1 sl1 h1 ⟨et, hv⟩ k1 => ?_⟩
  subst et
  cases e : takeA os ρ1 with
  | none => rw [e] at k1; exact k1.elim
  | some z =>
    rw [e] at k1
    obtain ⟨c', d, s', r', l', p'⟩ := take_ok hv sl1 e
    exact fin_call k1 ((nilL s1).perm (List.Perm.refl _) p') s' ((nilH h1).perm p') r' l'
theorem se_call {k : Nat} {f : Addr} {fd : FuncData} {ps : List Str} {x key : Str} {p : Pos} {e : Expr} {es : List Expr} {ls : List Bool} {as : List IE} (F : FnOk X.prog X.w X.K X.mg X.base (L2.CX X.prog X.w) k f fd ps (SpOf ad X.K (cf.call key))) (hr : Room k X.A) (hg : Gl X x) (hm : X.mg x = some (.ref f))
    (hk : PySem.W.keepIn X.K (.ref f) = true) (hb : Binds X.K fd ps []) (tk : Takes X W) (ha : SAs ad X W (e :: es) (evA cf ls as)) (hdb : (x == ("__debug__" : Str)) = false) (he : starEach (e :: es) X.env = (false, eval e X.env) :: starEach es X.env)
    (hpl : (backTo pos (starEach es X.env)).any (·.1) = false) : SE ad X W (.Call (.Name x p) (e :: es) [] pos) (evE cf (.call key ls as)) := by
  refine ⟨fun pins s σ H Q I hq => ?_⟩
  refine wpAny_Call_Name_kw (ld_glob I hg hm ?_ hdb)
  refine PySem.W.callWith_K (h₀ := X.base) I.ok.mod.kin hk (thn (ha.run pos pins s σ H _ I (rd_call hq)) fun us s1 ⟨vs, H1, I1, r, q⟩ => ⟨I1.kIn, ?_⟩) he hpl
  exact run_fnX F hr hb tk I1 r q
theorem se_call0 {k : Nat} {f : Addr} {fd : FuncData} {ps : List Str} {x key : Str} {p : Pos} {ls : List Bool} (F : FnOk X.prog X.w X.K X.mg X.base (L2.CX X.prog X.w) k f fd ps (SpOf ad X.K (cf.call key))) (hr : Room k X.A) (hg : Gl X x) (hm : X.mg x = some (.ref f))
    (hk : PySem.W.keepIn X.K (.ref f) = true) (hb : Binds X.K fd ps []) (tk : Takes X W) (hdb : (x == ("__debug__" : Str)) = false) : SE ad X W (.Call (.Name x p) [] [] pos) (evE cf (.call key ls [])) := by
  refine ⟨fun pins s σ H Q I hq => ?_⟩
  refine wpAny_Call_Name_kw (ld_glob I hg hm ?_ hdb)
  exact PySem.W.callWith_K0 I.kIn hk (run_fnX (us := []) F hr hb tk I .nil (rd_as_nil (rd_call hq)))
end
end Y
end
section
set_option Elab.async false
set_option linter.all false
set_option maxRecDepth 100000
set_option maxHeartbeats 2000000
set_option autoImplicit false
/-! Y6: targets, what is walked, comprehensions. -/
namespace Y
open PySem L2
variable {ad : Str → Addr} {K : PySem.W.Frag} {G G' G1 G2 H H' H1 H2 : Hp}
/-! ### slots, further -/
theorem Slots.congr : ∀ {ρ : Fr} {σ σ' : St} {c : List Cell}, Slots ad K G ρ σ c → σ'.length = σ.length → (∀ i p, Fr.at ρ i = Option.some p → σ'[i]? = σ[i]?) → Slots ad K G ρ σ' c
  | _, _, σ', _, .nil, hl, _ => by
    have e : σ' = [] := List.eq_nil_of_length_eq_zero hl
    subst e
    exact .nil
  | _, _, σ', _, .none (v := v) t, hl, h => by
    cases σ' with
    | nil => simp at hl
    | cons w τ => exact .none (Slots.congr t (by simpa using hl) fun i p e => by simpa using h (i + 1) p e)
  | _, _, σ', _, .some (p := p) (v := v) r t, hl, h => by
    cases σ' with
    | nil => simp at hl
    | cons w τ =>
      have e := h 0 p rfl
      simp at e
      subst e
      exact .some r (Slots.congr t (by simpa using hl) fun i p e => by simpa using h (i + 1) p e)
theorem at_set_ne {ρ : Fr} {i j : Nat} {x : Option PV} (h : j ≠ i) : Fr.at (ρ.set i x) j = Fr.at ρ j := by
  unfold Fr.at
  rw [List.getD_eq_getElem?_getD, List.getD_eq_getElem?_getD, List.getElem?_set_ne (Ne.symm h)]
theorem wipeF_length (ρ : Fr) : ∀ own, (wipeF ρ own).length = ρ.length
  | [] => rfl
  | i :: r => by unfold wipeF; rw [List.length_set, wipeF_length ρ r]
theorem wipeF_at {ρ : Fr} {i : Nat} {p : PV} : ∀ {own : List Nat}, Fr.at (wipeF ρ own) i = some p → i ∉ own ∧ Fr.at ρ i = some p
  | [], h => ⟨by simp, h⟩
  | j :: r, h => by
    unfold wipeF at h
    by_cases e : i = j
    · subst e; rw [at_set_none] at h; cases h
    · rw [at_set_ne e] at h
      obtain ⟨h1, h2⟩ := wipeF_at h
      exact ⟨by simp [e, h1], h2⟩
theorem wipe_in {σ : St} {i : Nat} : ∀ {own : List Nat}, i ∈ own → i < σ.length → (wipe σ own)[i]? = some none
  | j :: r, h, hl => by
    unfold wipe
    by_cases e : j = i
    · subst e
      rw [List.getElem?_set_self (by rw [wipe_length]; exact hl)]
    · rw [List.getElem?_set_ne e]
      exact wipe_in ((List.mem_cons.mp h).resolve_left (Ne.symm e)) hl
theorem Slots.wipe {ρ : Fr} {σ : St} {c : List Cell} (s : Slots ad K G ρ σ c) : ∀ own : List Nat, ∃ g c', Slots ad K G (wipeF ρ own) (L2.wipe σ own) c' ∧ c.Perm (g ++ c')
  | [] => ⟨[], c, s, List.Perm.refl _⟩
  | i :: r => by
    obtain ⟨g, c1, s1, p1⟩ := Slots.wipe s r
    obtain ⟨d, c2, s2, p2⟩ := s1.drop i
    refine ⟨g ++ d, c2, ?_, ?_⟩
    · refine Slots.congr s2 (show ((L2.wipe σ r).set i Option.none).length = _ from by rw [List.length_set]) fun j p e => ?_
      have e' : Fr.at ((wipeF ρ r).set i Option.none) j = Option.some p := e
      have hj : j ≠ i := fun z => by subst z; rw [at_set_none] at e'; cases e'
      show ((L2.wipe σ r).set i Option.none)[j]? = _
      rw [List.getElem?_set_ne (Ne.symm hj)]
    · refine p1.trans ?_
      rw [List.append_assoc]
      exact p2.append_left g
theorem Slots.unwipe {ρ : Fr} {σ : St} {c : List Cell} {own : List Nat} (s : Slots ad K G (wipeF ρ own) (L2.wipe σ own) c) : Slots ad K G (wipeF ρ own) σ c :=
  s.congr (by rw [wipe_length]) fun i p e => by
    obtain ⟨h1, _⟩ := wipeF_at e
    rw [wipe_out h1]
theorem Slots.freeze {ρ : Fr} {σ : St} {c : List Cell} (s : Slots ad K G ρ σ c) (hh : Hold G c H) : ∀ own : List Nat, ∃ G' c', Step G c H G' c' H ∧ Hold G' c' H ∧ Slots ad K G' (frzAt ρ own) σ c'
  | [] => ⟨G, c, Step.refl, hh, s⟩
  | i :: r => by
    obtain ⟨G1, c1, st1, h1, s1⟩ := Slots.freeze s hh r
    unfold frzAt
    cases e : (frzAt ρ r).at i with
    | none =>
      obtain ⟨d, c2, s2, p2⟩ := s1.drop i
      refine ⟨G1, c2, (st1.perm (List.Perm.refl _) p2).less fun z hz => List.mem_append_right _ hz, (h1.perm p2).right, ?_⟩
      exact s2
    | some p =>
      obtain ⟨v, G2, c2, e1, st2, h2, s2, r2⟩ := slot_frz s1 h1 e
      exact ⟨G2, c2, st1.trans st2 h1, h2, s2⟩
theorem frzAt_fz {ρ : Fr} {i : Nat} {p : PV} : ∀ {own : List Nat}, i ∈ own → Fr.at (frzAt ρ own) i = some p → p.fz = true
  | j :: r, h, e => by
    unfold frzAt at e
    by_cases q : i = j
    · subst q
      cases e1 : (frzAt ρ r).at i with
      | none => rw [e1] at e; rw [show Option.map PV.frz none = none from rfl, at_set_none] at e; cases e
      | some x =>
        rw [e1] at e
        rw [at_set_same (at_lt e1)] at e
        cases e
        exact PV.frz_fz x
    · rw [at_set_ne q] at e
      exact frzAt_fz ((List.mem_cons.mp h).resolve_left q) e
theorem Slots.put_back {ρ : Fr} {σ : St} {c : List Cell} (s : Slots ad K G ρ σ c) {ρ0 : Fr} : ∀ (own : List Nat), (∀ i ∈ own, ∀ p, ρ0.at i = Option.some p → ∃ v, σ[i]? = Option.some (Option.some v) ∧ Rep ad K G p v []) → ∃ g c', Slots ad K G (putAt ρ0 ρ own) σ c' ∧ c.Perm (g ++ c')
  | [], _ => ⟨[], c, s, List.Perm.refl _⟩
  | i :: r, h => by
    obtain ⟨g, c1, s1, p1⟩ := Slots.put_back s r fun j hj => h j (List.mem_cons_of_mem _ hj)
    unfold putAt
    cases e : ρ0.at i with
    | none => exact ⟨g, c1, s1, p1⟩
    | some p =>
      obtain ⟨v, e1, rp⟩ := h i List.mem_cons_self p e
      have hi : i < (putAt ρ0 ρ r).length := by
        rw [s1.length]
        exact (List.getElem?_eq_some_iff.mp e1).1
      obtain ⟨d, c2, s2, p2⟩ := s1.set hi rp
      rw [set_same e1] at s2
      refine ⟨g ++ d, c2, s2, ?_⟩
      refine p1.trans ?_
      rw [List.append_assoc]
      exact p2.append_left g
/-! ### targets -/
structure Touch (js : List Nat) (σ σ' : St) : Prop where
  len : σ'.length = σ.length
  out : ∀ j, j ∉ js → σ'[j]? = σ[j]?
theorem Touch.refl (js : List Nat) (σ : St) : Touch js σ σ := ⟨rfl, fun _ _ => rfl⟩
theorem Touch.trans {js ks : List Nat} {σ σ1 σ2 : St} (a : Touch js σ σ1) (b : Touch ks σ1 σ2) : Touch (js ++ ks) σ σ2 :=
  ⟨b.len.trans a.len, fun j hj => (b.out j fun z => hj (List.mem_append_right _ z)).trans (a.out j fun z => hj (List.mem_append_left _ z))⟩
theorem Touch.set {σ : St} {i : Nat} {x : Option V} : Touch [i] σ (σ.set i x) := ⟨by simp, fun j hj => by rw [List.getElem?_set_ne]; simpa using fun z => hj (by simp [z])⟩
theorem Touch.wipe {js own : List Nat} {σ σ' : St} (t : Touch js (L2.wipe σ own) σ') (h : ∀ j ∈ js, j ∈ own) : L2.wipe σ' own = L2.wipe σ own := by
  have hl : σ'.length = σ.length := by rw [t.len, wipe_length]
  apply List.ext_getElem?
  intro j
  by_cases hj : j ∈ own
  · by_cases hlt : j < σ.length
    · rw [wipe_in hj hlt, wipe_in hj (by rw [hl]; exact hlt)]
    · rw [List.getElem?_eq_none (by rw [wipe_length]; omega), List.getElem?_eq_none (by rw [wipe_length]; omega)]
  · rw [wipe_out hj, wipe_out hj, t.out j fun z => hj (h j z), wipe_out hj]
def rdG (ad : Str → Addr) (X : Cx) (tg : IT) : TG := fun v σ H Q => ∃ ρ G c p ρ', Slots ad X.K G ρ σ c ∧ Hold G c H ∧ Rep ad X.K G p v [] ∧ asg tg p ρ = some ρ' ∧ ∀ σ' c', Slots ad X.K G ρ' σ' c' → (∃ g, c.Perm (g ++ c')) → Touch tg.slots σ σ' → Q σ' H
def rdGs (ad : Str → Addr) (X : Cx) (ts : List IT) : TGs := fun vs σ H Q => ∃ ρ G c ps ρ', Slots ad X.K G ρ σ c ∧ Hold G c H ∧ RepL ad X.K G ps vs [] ∧ asgL ts ps ρ = some ρ' ∧ ∀ σ' c', Slots ad X.K G ρ' σ' c' → (∃ g, c.Perm (g ++ c')) → Touch (IT.slots.slotsL ts) σ σ' → Q σ' H
section
variable {X : Cx} {W : WX} {cf : Cf} {pos : Pos}
theorem _root_.L2.PG.imp {e : Expr} {t t' : TG} (h : PG X e t) (i : ∀ v σ H Q, t' v σ H Q → t v σ H Q) : PG X e t' := ⟨fun pins s σ H v u Q I r hw => h.run pins s σ H v u Q I r (i v σ H Q hw)⟩
theorem _root_.L2.PGs.imp {e : List Expr} {t t' : TGs} (h : PGs X e t) (i : ∀ v σ H Q, t' v σ H Q → t v σ H Q) : PGs X e t' := ⟨fun pins s σ H v u Q I r hw => h.run pins s σ H v u Q I r (i v σ H Q hw)⟩
theorem sg_nm {x : Str} {i : Nat} (h : PG X (.Name x pos) (gName i)) : PG X (.Name x pos) (rdG ad X (.nm i)) := h.imp fun v σ H Q hq => by
  obtain ⟨ρ, G, c, p, ρ', sl, hh, r, e, k⟩ := hq
  simp only [asg] at e
  split at e
  · rename_i hi
    cases e
    obtain ⟨g, c', s2, p2⟩ := sl.set hi r
    exact k _ c' s2 ⟨g, p2⟩ Touch.set
  · cases e
theorem sgs_nil : PGs X [] (rdGs ad X []) := pgs_nil.imp fun v σ H Q hq => by
  obtain ⟨ρ, G, c, ps, ρ', sl, hh, r, e, k⟩ := hq
  cases ps with
  | nil =>
    obtain ⟨rfl, _⟩ := r.nil'
    cases e
    exact ⟨rfl, k σ c sl ⟨[], List.Perm.refl _⟩ (Touch.refl _ _)⟩
  | cons p ps => cases e
theorem sgs_cons {e : Expr} {es : List Expr} {t : IT} {ts : List IT} (h1 : PG X e (rdG ad X t)) (h2 : PGs X es (rdGs ad X ts)) (hs : (assignEach (e :: es) X.env).map (·.2) = assign e X.env :: (assignEach es X.env).map (·.2)) : PGs X (e :: es) (rdGs ad X (t :: ts)) := (pgs_cons h1 h2 hs).imp fun v σ H Q hq => by
  obtain ⟨ρ, G, c, ps, ρ', sl, hh, r, e, k⟩ := hq
  cases ps with
  | nil => cases e
  | cons p ps =>
    obtain ⟨v0, vr, rfl, r1, r2⟩ := r.inv0'
    simp only [asgL] at e
    obtain ⟨ρ1, e1, e2⟩ := Option.bind_eq_some_iff.mp e
    refine ⟨v0, vr, rfl, ρ, G, c, p, ρ1, sl, hh, r1, e1, fun σ1 c1 s1 ⟨g1, p1⟩ t1 => ?_⟩
    refine ⟨ρ1, G, c1, ps, ρ', s1, (hh.perm p1).right, r2, e2, fun σ2 c2 s2 ⟨g2, p2⟩ t2 => ?_⟩
    refine k σ2 c2 s2 ⟨g1 ++ g2, ?_⟩ (t1.trans t2)
    refine p1.trans ?_
    rw [List.append_assoc]
    exact p2.append_left g1
theorem asgL_len : ∀ {ts : List IT} {ps : List PV} {ρ ρ' : Fr}, asgL ts ps ρ = some ρ' → ps.length = ts.length
  | [], [], _, _, _ => rfl
  | [], _ :: _, _, _, h => by simp [asgL] at h
  | _ :: _, [], _, _, h => by simp [asgL] at h
  | t :: ts, p :: ps, ρ, ρ', h => by
    simp only [asgL] at h
    obtain ⟨ρ1, _, e2⟩ := Option.bind_eq_some_iff.mp h
    simp [asgL_len e2]
theorem sg_tp {es : List Expr} {n : Nat} {ts : List IT} (hc : X.calm = true) (h : PGs X es (rdGs ad X ts)) (hn : (assignEach es X.env).length = ts.length) (hst : (assignEach es X.env).findIdx? (·.1) = none) : PG X (.Tuple es n pos) (rdG ad X (.tp ts)) := (pg_tup hc h hn hst).imp fun v σ H Q hq => by
  obtain ⟨ρ, G, c, p, ρ', sl, hh, r, e, k⟩ := hq
  simp only [asg] at e
  cases p with
  | tup xs =>
    generalize ez : ([] : List Cell) = z at r
    cases r with
    | @tup a _ vs _ g1 r1 =>
      subst ez
      refine ⟨a, vs, rfl, .of (hh.fz _ _ g1), ?_, ρ, G, c, xs, ρ', sl, hh, r1, e, k⟩
      rw [← r1.length]
      exact asgL_len e
  | _ => cases e

/-! ### what is walked -/
def Walks (ad : Str → Addr) (K : PySem.W.Frag) (J : It) (xs : List PV) (G : Hp) : Prop := ∀ (i : Nat) (H G1 : Hp) (c1 : List Cell), Sub G G1 → Hold G1 c1 H →
  (i < xs.length → J.go i H ∧ ∀ x H', J.yld i H x H' → ∃ G2 p, Step G1 c1 H G2 c1 H' ∧ Hold G2 c1 H' ∧ xs[i]? = some p ∧ Rep ad K G2 p x []) ∧ (xs.length ≤ i → J.stop i H)
def RelI (ad : Str → Addr) (K : PySem.W.Frag) : RRel (List PV) It := fun _ G xs J t => t = [] ∧ Walks ad K J xs G
theorem RepL.item {xs : List PV} {vs : List V} (r : RepL ad K G xs vs []) {i : Nat} (hi : i < xs.length) : ∃ p v, xs[i]? = some p ∧ vs[i]? = some v ∧ Rep ad K G p v [] := by
  have e : xs[i]? = some xs[i] := List.getElem?_eq_getElem hi
  obtain ⟨w, d, e1, e2, e3⟩ := r.get e
  have : d = [] := List.eq_nil_iff_forall_not_mem.mpr fun z hz => nomatch e3 z hz
  subst this
  exact ⟨_, w, e, e1, e2⟩
theorem walks_list {a : Addr} {xs : List PV} {vs : List V} (hs : SqL K G a vs) (r : RepL ad K G xs vs []) : Walks ad K (Itl K a) xs G := fun i H G1 c1 sub hh => by
  have h1 : SqL K H a vs := hh.fz.sql (sub.sql hs)
  refine ⟨fun hi => ?_, fun hi => ⟨vs, h1, by rw [← r.length]; exact hi⟩⟩
  obtain ⟨p, v, e1, e2, e3⟩ := r.item hi
  refine ⟨⟨vs, v, h1, e2⟩, fun x H' ⟨eh, hx⟩ => ?_⟩
  subst eh
  have := hx vs h1
  rw [e2] at this
  cases this
  exact ⟨G1, p, Step.refl, hh, e1, e3.mono sub⟩
theorem walks_tup {a : Addr} {xs : List PV} {vs : List V} (hs : G a = some (.tup vs)) (r : RepL ad K G xs vs []) : Walks ad K (Itt K a) xs G := fun i H G1 c1 sub hh => by
  have h1 : SqT K H a vs := .of (hh.fz _ _ (sub _ _ hs))
  refine ⟨fun hi => ?_, fun hi => ⟨vs, h1, by rw [← r.length]; exact hi⟩⟩
  obtain ⟨p, v, e1, e2, e3⟩ := r.item hi
  refine ⟨⟨vs, v, h1, e2⟩, fun x H' ⟨eh, hx⟩ => ?_⟩
  subst eh
  have := hx vs h1
  rw [e2] at this
  cases this
  exact ⟨G1, p, Step.refl, hh, e1, e3.mono sub⟩
theorem walks_str (x : Str) : Walks ad K (Its x) (x.cps.toList.map fun k => PV.str ⟨#[k]⟩) G := fun i H G1 c1 sub hh => by
  refine ⟨fun hi => ?_, fun hi => ?_⟩
  · rw [List.length_map, Array.length_toList] at hi
    refine ⟨hi, fun v H' ⟨eh, k, e1, e2⟩ => ?_⟩
    subst eh
    subst e2
    refine ⟨G1, .str ⟨#[k]⟩, Step.refl, hh, ?_, .str _⟩
    rw [List.getElem?_map, Array.getElem?_toList, e1]
    rfl
  · rw [List.length_map, Array.length_toList] at hi
    exact hi
theorem rngI_get : ∀ (n : Nat) (lo : Int) (i : Nat), i < n → (rngI lo n)[i]? = some (.int (lo + i))
  | 0, lo, i, h => by omega
  | n + 1, lo, 0, h => by simp [rngI]
  | n + 1, lo, i + 1, h => by
    simp only [rngI, List.getElem?_cons_succ]
    rw [rngI_get n (lo + 1) i (by omega)]
    congr 2
    omega
theorem rngI_len : ∀ (n : Nat) (lo : Int), (rngI lo n).length = n
  | 0, _ => rfl
  | n + 1, lo => by simp [rngI, rngI_len n]
theorem walks_rng (lo : Int) (n : Nat) : Walks ad K (Itr lo n) (rngI lo n) G := fun i H G1 c1 sub hh => by
  rw [rngI_len]
  refine ⟨fun hi => ⟨hi, fun v H' ⟨eh, e1⟩ => ?_⟩, fun hi => hi⟩
  subst eh
  subst e1
  exact ⟨G1, _, Step.refl, hh, rngI_get n lo i hi, .int _⟩
theorem enmN_get : ∀ (xs : List PV) (k : Int) (i : Nat) (p : PV), xs[i]? = some p → (enmN k xs)[i]? = some (.tup [.int (k + i), p])
  | [], _, i, _, h => by simp at h
  | x :: xs, k, 0, p, h => by simp at h; subst h; simp [enmN]
  | x :: xs, k, i + 1, p, h => by
    simp only [enmN, List.getElem?_cons_succ]
    rw [enmN_get xs (k + 1) i p (by simpa using h)]
    congr 3
    congr 1
    omega
theorem enmN_len : ∀ (xs : List PV) (k : Int), (enmN k xs).length = xs.length
  | [], _ => rfl
  | x :: xs, k => by simp [enmN, enmN_len xs]
theorem walks_enum {a : Addr} {xs : List PV} {vs : List V} (hs : SqL K G a vs) (r : RepL ad K G xs vs []) : Walks ad K (Ite K a) (enmN 0 xs) G := fun i H G1 c1 sub hh => by
  have h1 : SqL K H a vs := hh.fz.sql (sub.sql hs)
  rw [enmN_len]
  refine ⟨fun hi => ?_, fun hi => ⟨vs, h1, by rw [← r.length]; exact hi⟩⟩
  obtain ⟨p, v, e1, e2, e3⟩ := r.item hi
  refine ⟨⟨vs, v, h1, e2⟩, fun x H' ⟨T, y, ex, hT, eh, hy⟩ => ?_⟩
  subst eh
  subst ex
  have := hy vs h1
  rw [e2] at this
  cases this
  obtain ⟨q1, q2⟩ := hh.newF hT (.tup [.int (i : Nat), v])
  refine ⟨_, _, q2, q1, enmN_get xs 0 i p e1, ?_⟩
  rw [Int.zero_add]
  exact .tup upd_same (.cons0 (.int _) (.cons0 ((e3.mono sub).mono q2.fz) .nil))
theorem zipN_get : ∀ (xs ys : List PV) (i : Nat) (p q : PV), xs[i]? = some p → ys[i]? = some q → (zipN xs ys)[i]? = some (.tup [p, q])
  | [], _, i, _, _, h, _ => by simp at h
  | _ :: _, [], i, _, _, _, h => by simp at h
  | x :: xs, y :: ys, 0, p, q, h, h' => by simp at h h'; subst h h'; simp [zipN]
  | x :: xs, y :: ys, i + 1, p, q, h, h' => by
    simp only [zipN, List.getElem?_cons_succ]
    exact zipN_get xs ys i p q (by simpa using h) (by simpa using h')
theorem zipN_len : ∀ (xs ys : List PV), (zipN xs ys).length = min xs.length ys.length
  | [], _ => by simp [zipN]
  | _ :: _, [] => by simp [zipN]
  | x :: xs, y :: ys => by simp [zipN, zipN_len xs ys]
theorem walks_zip {a b : Addr} {xs ys : List PV} {vs ws : List V} (hs : SqL K G a vs) (r : RepL ad K G xs vs []) (hs2 : SqL K G b ws) (r2 : RepL ad K G ys ws []) : Walks ad K (Itz K a b) (zipN xs ys) G := fun i H G1 c1 sub hh => by
  have h1 : SqL K H a vs := hh.fz.sql (sub.sql hs)
  have h2 : SqL K H b ws := hh.fz.sql (sub.sql hs2)
  rw [zipN_len]
  refine ⟨fun hi => ?_, fun hi => ⟨vs, ws, h1, h2, ?_⟩⟩
  · obtain ⟨p, v, e1, e2, e3⟩ := r.item (i := i) (by omega)
    obtain ⟨q, w, f1, f2, f3⟩ := r2.item (i := i) (by omega)
    refine ⟨⟨vs, ws, v, w, h1, h2, e2, f2⟩, fun x H' ⟨T, y, z, ex, hT, eh, hy, hz⟩ => ?_⟩
    subst eh
    subst ex
    have := hy vs h1
    rw [e2] at this
    cases this
    have := hz ws h2
    rw [f2] at this
    cases this
    obtain ⟨q1, q2⟩ := hh.newF hT (.tup [v, w])
    exact ⟨_, _, q2, q1, zipN_get xs ys i p q e1 f1, .tup upd_same (.cons0 ((e3.mono sub).mono q2.fz) (.cons0 ((f3.mono sub).mono q2.fz) .nil))⟩
  · rw [← r.length, ← r2.length]
    omega
theorem _root_.L2.PI.or {tg it : Expr} {w w' : TI} (h : PI X tg it w) (h' : PI X tg it w') : PI X tg it (fun σ H R => w σ H R ∨ w' σ H R) := ⟨fun pins s σ H R I hq => hq.elim (fun q => h.run pins s σ H R I q) fun q => h'.run pins s σ H R I q⟩
theorem _root_.L2.PI.imp {tg it : Expr} {w w' : TI} (h : PI X tg it w) (i : ∀ σ H R, w' σ H R → w σ H R) : PI X tg it w' := ⟨fun pins s σ H R I hq => h.run pins s σ H R I (i σ H R hq)⟩
abbrev SI (ad : Str → Addr) (X : Cx) (W : WX) (tg it : Expr) (m : Fr → Res (List PV)) : Prop := PI X tg it (rd ad X W (RelI ad X.K) m)
/-- a list, a tuple, a text -/
theorem si_it {tg e : Expr} {ie : IE} (h : SE ad X W e (evE cf ie)) : SI ad X W tg e (evSrc cf (.it ie)) := (((pi_list h).or (pi_tup h)).or (pi_str h)).imp fun σ H R hq => by
  obtain ⟨ρ, G, c, sl, hh, ha⟩ := hq
  simp only [evSrc] at ha
  cases e : evE cf ie ρ with
  | bad => rw [e] at ha; exact ha.elim
  | ex x ρ1 =>
    rw [e] at ha
    exact .inl (.inl ⟨ρ, G, c, sl, hh, by rw [e]; exact ha⟩)
  | ok p ρ1 =>
    rw [e] at ha
    simp only [Res.bind] at ha
    cases e1 : srcOf p.frz with
    | none => rw [e1] at ha; exact ha.elim
    | some xs =>
      rw [e1] at ha
      have go : ∀ v H1 G1 c1 t (J : It), Step G c H G1 (c1 ++ t) H1 → Slots ad X.K G1 ρ1 σ c1 → Hold G1 (c1 ++ t) H1 → Rep ad X.K G1 p v t → (Rep ad X.K (addc G1 t) p.frz v [] → Walks ad X.K J xs (addc G1 t)) → R J H1 := fun v H1 G1 c1 t J s sl1 h1 hr hw =>
        ha J H1 (addc G1 t) c1 [] (toL (s.absorb h1)) (sl1.mono (addc_sub h1.right)) (toH h1.absorb) ⟨rfl, hw (Rep.absorb h1 hr)⟩
      have hfz := PV.frz_fz p
      cases ep : p.frz with
      | str x =>
        rw [ep] at e1
        cases e1
        refine .inr ⟨ρ, G, c, sl, hh, ?_⟩
        rw [e]
        intro v H1 G1 c1 t s sl1 h1 hr
        refine ⟨x, ?_, go v H1 G1 c1 t _ s sl1 h1 hr fun _ => walks_str x⟩
        have r' := Rep.absorb h1 hr
        rw [ep] at r'
        cases r'
        rfl
      | lst o ys =>
        rw [ep] at e1 hfz
        cases e1
        refine .inl (.inl ⟨ρ, G, c, sl, hh, ?_⟩)
        rw [e]
        intro v H1 G1 c1 t s sl1 h1 hr
        have r' := Rep.absorb h1 hr
        rw [ep] at r'
        have ho : o = false := by simpa [PV.fz] using (Bool.and_eq_true_iff.mp (show (!o && PV.fzL xs) = true from hfz)).1
        subst ho
        generalize ez : ([] : List Cell) = z at r'
        cases r' with
        | @lstF a _ vs _ g1 r1 =>
          subst ez
          have hs : SqL X.K (addc G1 t) a vs := .of g1
          exact ⟨a, rfl, ⟨vs, h1.absorb.fz.sql hs⟩, go _ H1 G1 c1 t _ s sl1 h1 hr fun _ => walks_list hs r1⟩
      | lck ys =>
        rw [ep] at e1
        cases e1
        refine .inl (.inl ⟨ρ, G, c, sl, hh, ?_⟩)
        rw [e]
        intro v H1 G1 c1 t s sl1 h1 hr
        have r' := Rep.absorb h1 hr
        rw [ep] at r'
        generalize ez : ([] : List Cell) = z at r'
        cases r' with
        | @lck a _ vs g1 r1 => exact ⟨a, rfl, ⟨vs, h1.absorb.fz.sql g1⟩, go _ H1 G1 c1 t _ s sl1 h1 hr fun _ => walks_list g1 r1⟩
      | tup ys =>
        rw [ep] at e1
        cases e1
        refine .inl (.inr ⟨ρ, G, c, sl, hh, ?_⟩)
        rw [e]
        intro v H1 G1 c1 t s sl1 h1 hr
        have r' := Rep.absorb h1 hr
        rw [ep] at r'
        generalize ez : ([] : List Cell) = z at r'
        cases r' with
        | @tup a _ vs _ g1 r1 =>
          subst ez
          exact ⟨a, rfl, ⟨vs, .of (h1.absorb.fz _ _ g1)⟩, go _ H1 G1 c1 t _ s sl1 h1 hr fun _ => walks_tup g1 r1⟩
      | _ => rw [ep] at e1; cases e1
end
end Y
end
section
set_option Elab.async false
set_option linter.all false
set_option maxRecDepth 100000
set_option maxHeartbeats 2000000
set_option autoImplicit false
/-! Y7: range, enumerate, zip; comprehensions. -/
namespace Y
open PySem L2
variable {ad : Str → Addr} {K : PySem.W.Frag} {G G' G1 G2 H H' H1 H2 : Hp}
section
variable {X : Cx} {W : WX} {cf : Cf} {pos : Pos}
theorem rngN1 {p : PV} {xs : List PV} (h : rngN [p] = some xs) : ∃ j, p = .int j ∧ -(2 ^ 62) ≤ j ∧ j < 2 ^ 62 ∧ xs = rngI 0 j.toNat := by
  unfold rngN at h
  split at h
  · rename_i j e
    cases e
    split at h
    · rename_i hj
      cases h
      have := of_decide_eq_true (show decide (-(2 ^ 62) ≤ j ∧ j < 2 ^ 62) = true from hj)
      exact ⟨j, rfl, this.1, this.2, rfl⟩
    · cases h
  · rename_i e; cases e
  · cases h
theorem rngN2 {p q : PV} {xs : List PV} (h : rngN [p, q] = some xs) : ∃ i j, p = .int i ∧ q = .int j ∧ (-(2 ^ 62) ≤ i ∧ i < 2 ^ 62 ∧ -(2 ^ 62) ≤ j ∧ j < 2 ^ 62) ∧ xs = rngI i (j - i).toNat := by
  unfold rngN at h
  split at h
  · rename_i e; cases e
  · rename_i i j e
    cases e
    split at h
    · rename_i hj
      cases h
      rw [Bool.and_eq_true] at hj
      have h1 := of_decide_eq_true (show decide (-(2 ^ 62) ≤ i ∧ i < 2 ^ 62) = true from hj.1)
      have h2 := of_decide_eq_true (show decide (-(2 ^ 62) ≤ j ∧ j < 2 ^ 62) = true from hj.2)
      exact ⟨i, j, rfl, rfl, ⟨h1.1, h1.2, h2.1, h2.2⟩, rfl⟩
    · cases h
  · cases h
theorem evO_len : ∀ {es : List IE} {ρ ρ' : Fr} {os : List OV}, evO cf es ρ = .ok os ρ' → os.length = es.length
  | [], ρ, ρ', os, h => by simp only [evO] at h; cases h; rfl
  | e :: es, ρ, ρ', os, h => by
    simp only [evO] at h
    cases e1 : opnd e (evE cf e) ρ with
    | bad => rw [e1] at h; cases h
    | ex x r => rw [e1] at h; cases h
    | ok o ρ1 =>
      rw [e1] at h
      simp only [Res.bind] at h
      cases e2 : evO cf es ρ1 with
      | bad => rw [e2] at h; cases h
      | ex x r => rw [e2] at h; cases h
      | ok os' ρ2 =>
        rw [e2] at h
        cases h
        simp [evO_len e2]
theorem rsvL_len {ρ : Fr} : ∀ {os : List OV} {ps : List PV}, rsvL ρ os = some ps → ps.length = os.length
  | [], ps, h => by cases h; rfl
  | o :: os, ps, h => by
    unfold rsvL at h
    cases e1 : rsv ρ o with
    | none => rw [e1] at h; cases h
    | some p =>
      cases e2 : rsvL ρ os with
      | none => rw [e1, e2] at h; cases h
      | some qs =>
        rw [e1, e2] at h
        cases h
        simp [rsvL_len e2]
theorem rd_rng {es : List IE} {σ : St} {H : Hp} {R : It → Hp → Prop} (h : rd ad X W (RelI ad X.K) (evSrc cf (.rng es)) σ H R) : rd ad X W (RelOs ad X.K) (evO cf es) σ H fun vs H1 => ∃ ps xs G c, VwL ad X.K G c ps vs ∧ ps.length = es.length ∧ rngN ps = some xs ∧ (∀ J, Walks ad X.K J xs G → R J H1) := by
  obtain ⟨ρ, G, c, sl, hh, ha⟩ := h
  simp only [evSrc] at ha
  refine ⟨ρ, G, c, sl, hh, ?_⟩
  cases e0 : evO cf es ρ with
  | bad => rw [e0] at ha; exact ha
  | ex x r => rw [e0] at ha; exact ha
  | ok os ρ1 =>
    rw [e0] at ha
    simp only [Res.bind] at ha
    intro vs H1 G1 c1 t s sl1 h1 ⟨et, hv⟩
    subst et
    have k1 := ha.go0 s h1
    have h1' := nilH h1
    cases e : (rsvL ρ1 os).bind rngN with
    | none => rw [e] at k1; exact k1.elim
    | some xs =>
      rw [e] at k1
      obtain ⟨ps, e1, e2⟩ := Option.bind_eq_some_iff.mp e
      exact ⟨ps, xs, G1, c1, hv.vw sl1 e1, (rsvL_len e1).trans (evO_len e0), e2, fun J hw => k1.calm sl1 h1' ⟨rfl, hw⟩⟩
theorem si_rng1 {tg a : Expr} {x : IE} {p : Pos} (hg : Gl X "range") (hm : X.mg "range" = none) (ha : SOs ad X W [a] (evO cf [x])) (hs : starEach [a] X.env = [(false, eval a X.env)]) : SI ad X W tg (.Call (.Name "range" p) [a] [] pos) (evSrc cf (.rng [x])) := (pi_range1 hg hm ha hs).imp fun σ H R hq =>
  rd_imp (rd_rng hq) fun vs H1 ⟨ps, xs, G, c, hv, el, e, k⟩ => by
    match ps, el, hv with
    | [p], _, .cons vp .nil =>
      obtain ⟨j, rfl, h1, h2, rfl⟩ := rngN1 e
      obtain rfl := vp.int
      exact ⟨j, rfl, h1, h2, k _ (walks_rng 0 _)⟩
theorem si_rng2 {tg a b : Expr} {x y : IE} {p : Pos} (hg : Gl X "range") (hm : X.mg "range" = none) (ha : SOs ad X W [a, b] (evO cf [x, y])) (hs : starEach [a, b] X.env = [(false, eval a X.env), (false, eval b X.env)]) (hs2 : starEach [b] X.env = [(false, eval b X.env)]) : SI ad X W tg (.Call (.Name "range" p) [a, b] [] pos) (evSrc cf (.rng [x, y])) := (pi_range2 hg hm ha hs hs2).imp fun σ H R hq =>
  rd_imp (rd_rng hq) fun vs H1 ⟨ps, xs, G, c, hv, el, e, k⟩ => by
    match ps, el, hv with
    | [p, q], _, .cons vp (.cons vq .nil) =>
      obtain ⟨i, j, rfl, rfl, h1, rfl⟩ := rngN2 e
      obtain rfl := vp.int
      obtain rfl := vq.int
      exact ⟨i, j, rfl, h1, k _ (walks_rng i _)⟩
theorem frz_lst {ad : Str → Addr} {p : PV} {v : V} {xs : List PV} (r : Rep ad K G p v []) (e : lstOf p = some xs) : ∃ a vs, v = .ref a ∧ SqL K G a vs ∧ RepL ad K G xs vs [] := by
  obtain ⟨o, rfl⟩ := lstOf_some e
  generalize ez : ([] : List Cell) = z at r
  cases r with
  | lstF g r => subst ez; exact ⟨_, _, rfl, .of g, r⟩
  | lstO r => cases ez
theorem enmP_some {p : PV} {xs : List PV} (h : enmP [p] = some xs) : (∃ ys, (lstOf p = some ys ∨ p = .lck ys) ∧ xs = enmN 0 ys) := by
  unfold enmP at h
  split at h
  · rename_i o ys e; cases e; cases h; exact ⟨ys, .inl rfl, rfl⟩
  · rename_i ys e; cases e; cases h; exact ⟨ys, .inr rfl, rfl⟩
  · cases h
theorem argd_fz {ie : IE} {run : Fr → Res PV} {ρ ρ1 : Fr} {a : PV × Option Nat} (h : argd false ie run ρ = .ok a ρ1) : a.1.fz = true := by
  rw [argd_val rfl] at h
  cases e : run ρ with
  | bad => rw [e] at h; cases h
  | ex x r => rw [e] at h; cases h
  | ok p r => rw [e] at h; cases h; exact PV.frz_fz p
/-- a list that is read -/
theorem lck_lst {p : PV} {v : V} {t : List Cell} {ys : List PV} (r : Rep ad K G p v t) (hf : p.fz = true) (hys : lstOf p = some ys ∨ p = .lck ys) : ∃ b vs, v = .ref b ∧ SqL K G b vs ∧ RepL ad K G ys vs [] := by
  have et := r.nocell hf
  subst et
  rcases hys with hys | rfl
  · obtain ⟨o, rfl⟩ := lstOf_some hys
    have ho : o = false := by simpa [PV.fz] using (Bool.and_eq_true_iff.mp (show (!o && PV.fzL ys) = true from hf)).1
    subst ho
    exact frz_lst r rfl
  · generalize ez : ([] : List Cell) = z at r
    cases r with
    | @lck a _ vs g1 r1 => exact ⟨a, vs, rfl, g1, r1⟩
theorem si_enm {elts : List Expr} {kk : Nat} {tpos : Pos} {a : Expr} {x : IE} {p : Pos} (hg : Gl X "enumerate") (hm : X.mg "enumerate" = none) (ha : SE ad X W a (evE cf x)) (hs : starEach [a] X.env = [(false, eval a X.env)]) : SI ad X W (.Tuple elts kk tpos) (.Call (.Name "enumerate" p) [a] [] pos) (evSrc cf (.enm x)) :=
  (pi_enum hg hm (pa_cons (sa_val (b := false) (ie := x) rfl ha) pa_nil (by rw [hs]; rfl)) hs).imp fun σ H R hq => by
    obtain ⟨ρ, G, c, sl, hh, h⟩ := hq
    simp only [evSrc] at h
    refine ⟨ρ, G, c, sl, hh, ?_⟩
    cases e0 : argd false x (evE cf x) ρ with
    | bad => rw [e0] at h; exact h
    | ex x r => rw [e0] at h; exact h
    | ok a ρ1 =>
      rw [e0] at h
      simp only [Res.bind] at h
      have hf := argd_fz e0
      intro v1 H1 G1 c1 t1 s1 sl1 h1 ⟨r1, _⟩
      have et := r1.nocell hf
      subst et
      have h1' := nilH h1
      cases e : enmP [a.1] with
      | none => rw [e] at h; exact h.elim
      | some xs =>
        rw [e] at h
        have k1 := h.go0 s1 h1
        obtain ⟨ys, hys, rfl⟩ := enmP_some e
        obtain ⟨b, vs, rfl, hb, hr⟩ := lck_lst r1 hf hys
        exact ⟨b, vs, rfl, h1'.fz.sql hb, k1.calm sl1 h1' ⟨rfl, walks_enum hb hr⟩⟩
theorem zipP_some {p q : PV} {xs : List PV} (h : zipP [p, q] = some xs) : ∃ ys zs, lstOf p = some ys ∧ lstOf q = some zs ∧ xs = zipN ys zs := by
  unfold zipP at h
  split at h
  · rename_i o ys o2 zs e; cases e; cases h; exact ⟨ys, zs, rfl, rfl, rfl⟩
  · cases h
theorem si_zip {elts : List Expr} {kk : Nat} {tpos : Pos} {a b : Expr} {x y : IE} {p : Pos} (hg : Gl X "zip") (hm : X.mg "zip" = none) (ha : SE ad X W a (evE cf x)) (hb : SE ad X W b (evE cf y)) (hs : starEach [a, b] X.env = [(false, eval a X.env), (false, eval b X.env)]) (hs2 : starEach [b] X.env = [(false, eval b X.env)]) : SI ad X W (.Tuple elts kk tpos) (.Call (.Name "zip" p) [a, b] [] pos) (evSrc cf (.zp x y)) :=
  (pi_zip hg hm (pa_cons (sa_val (b := false) (ie := x) rfl ha) (pa_cons (sa_val (b := false) (ie := y) rfl hb) pa_nil (by rw [hs2]; rfl)) (by rw [hs, hs2])) (by rw [hs, hs2]) (by rw [hs2]; rfl)).imp fun σ H R hq => by
    obtain ⟨ρ, G, c, sl, hh, h⟩ := hq
    simp only [evSrc] at h
    refine ⟨ρ, G, c, sl, hh, ?_⟩
    cases e0 : argd false x (evE cf x) ρ with
    | bad => rw [e0] at h; exact h
    | ex x r => rw [e0] at h; exact h
    | ok a ρ1 =>
      rw [e0] at h
      simp only [Res.bind] at h
      have hf := argd_fz e0
      intro v1 H1 G1 c1 t1 s1 sl1 h1 ⟨r1, _⟩
      have et := r1.nocell hf
      subst et
      have h1' := nilH h1
      have k := h.go0 s1 h1
      refine ⟨ρ1, G1, c1, sl1, h1', ?_⟩
      cases e2 : argd false y (evE cf y) ρ1 with
      | bad => rw [e2] at k; exact k
      | ex x r => rw [e2] at k; exact k
      | ok b ρ2 =>
        rw [e2] at k
        simp only at k
        have hf2 := argd_fz e2
        intro v2 H2 G2 c2 t2 s2 sl2 h2 ⟨r2, _⟩
        have et := r2.nocell hf2
        subst et
        have h2' := nilH h2
        cases e : zipP [a.1, b.1] with
        | none => rw [e] at k; exact k.elim
        | some xs =>
          rw [e] at k
          have k1 := k.go0 s2 h2
          obtain ⟨ys, zs, hys, hzs, rfl⟩ := zipP_some e
          obtain ⟨d1, vs, rfl, hb1, hr1⟩ := lck_lst (r1.mono s2.fz) hf (.inl hys)
          obtain ⟨d2, ws, rfl, hb2, hr2⟩ := lck_lst r2 hf2 (.inl hzs)
          exact ⟨d1, d2, vs, ws, rfl, h2'.fz.sql hb1, h2'.fz.sql hb2, k1.calm sl2 h2' ⟨rfl, walks_zip hb1 hr1 hb2 hr2⟩⟩
end
end Y
end
section
set_option Elab.async false
set_option linter.all false
set_option maxRecDepth 100000
set_option maxHeartbeats 2000000
set_option autoImplicit false
/-! Y8: list comprehensions. -/
namespace Y
open PySem L2
variable {ad : Str → Addr} {K : PySem.W.Frag} {G G' G1 G2 H H' H1 H2 : Hp}
abbrev W0 : WX := fun _ _ _ _ => False
/-- one turn of a comprehension -/
def turnC (cf : Cf) (elt : IE) (tg : IT) (ifs : List IE) : PV → Fr → Res (Option PV) := fun x ρ => match asg tg x ρ with
  | some ρ2 => (evIfs cf ifs ρ2).bind fun k ρ3 => if k then (evE cf elt ρ3).bind fun y ρ4 => .ok (some y) ρ4 else .ok none ρ3
  | none => .bad
theorem evE_comp {cf : Cf} {elt : IE} {tg : IT} {src : ISrc} {ifs : List IE} {own : List Nat} {ρ : Fr} : evE cf (.comp elt tg src ifs own) ρ = (evSrc cf src ρ).bind fun xs ρ1 =>
      match compL (turnC cf elt tg ifs) own xs (wipeF (frzAt ρ1 own) own) [] with
      | .ok ys ρ2 => .ok (.lst true ys) (backAt (frzAt ρ1 own) ρ2 own)
      | _ => .bad := by
  simp only [evE]
  rfl
theorem wipe_wipe (σ : St) (own : List Nat) : L2.wipe (L2.wipe σ own) own = L2.wipe σ own := (Touch.refl [] (L2.wipe σ own)).wipe (by simp)
theorem drop_cons {α : Type} {xs : List α} {i : Nat} {p : α} (h : xs[i]? = some p) : xs.drop i = p :: xs.drop (i + 1) := by
  obtain ⟨hi, e⟩ := List.getElem?_eq_some_iff.mp h
  rw [List.drop_eq_getElem_cons hi, e]
theorem perm_swap {a b t : List Cell} : ((a ++ b) ++ t).Perm ((a ++ t) ++ b) := by
  rw [List.append_assoc, List.append_assoc]
  exact List.perm_append_comm.append_left a
section
variable {X : Cx} {W : WX} {cf : Cf} {pos : Pos}
/-- what the comprehension gives, by what is left of its loop -/
def endC (ρf : Fr) (own : List Nat) (r : Res (List PV)) : Res PV := match r with
  | .ok ys ρ2 => .ok (.lst true ys) (backAt ρf ρ2 own)
  | _ => .bad
/-- one turn, then what is left -/
def stepC (turn : PV → Fr → Res (Option PV)) (own : List Nat) (F : Fr → List PV → Res PV) (p : PV) (ρ : Fr) (acc : List PV) : Res PV := match turn p ρ with
  | .ok (some y) ρ1 => if acc.length < sizeLine then F (wipeF ρ1 own) (acc ++ [y.frz]) else .bad
  | .ok none ρ1 => F (wipeF ρ1 own) acc
  | _ => .bad
theorem step_cons {turn : PV → Fr → Res (Option PV)} {own : List Nat} {ρf : Fr} {p : PV} {rest : List PV} {ρ : Fr} {acc : List PV} : endC ρf own (compL turn own (p :: rest) ρ acc) = stepC turn own (fun ρ acc => endC ρf own (compL turn own rest ρ acc)) p ρ acc := by
  simp only [compL, stepC]
  cases e : turn p ρ with
  | bad => rfl
  | ex x ρ1 => rfl
  | ok y ρ1 =>
    cases y with
    | none => rfl
    | some y =>
      dsimp only
      split <;> rfl
structure InvC (ad : Str → Addr) (K : PySem.W.Frag) (W : WX) (σ : St) (G0 : Hp) (c0 : List Cell) (H0 : Hp) (Q : VK) (D : Addr) (own : List Nat) (F : Fr → List PV → Res PV) (H : Hp) : Prop where
  ex : ∃ ρ G c t acc accV, Slots ad K G ρ (L2.wipe σ own) c ∧ RepL ad K G acc accV t ∧ Hold G (c ++ (D, HO.lst accV) :: t) H ∧ Step G0 c0 H0 G (c ++ (D, HO.lst accV) :: t) H ∧ Aft ad K W σ (RelP ad K) G0 c0 H0 Q (F ρ acc)
theorem stop_C {σ : St} {G0 : Hp} {c0 : List Cell} {H0 : Hp} {Q : VK} {D : Addr} {own : List Nat} {ρf : Fr} {F : Fr → List PV → Res PV} (h : InvC ad K W σ G0 c0 H0 Q D own F H) (hF : ∀ ρ acc, F ρ acc = endC ρf own (.ok acc ρ) ∨ F ρ acc = .bad)
    (sf : Slots ad K G0 ρf σ c0) (hf : ∀ i ∈ own, ∀ p, ρf.at i = some p → p.fz = true) : Q (.ref D) H := by
  obtain ⟨ρ, G, c, t, acc, accV, sl, r, hh, st, a⟩ := h.ex
  rcases hF ρ acc with e | e
  case inr => rw [e] at a; exact a.elim
  rw [e] at a
  simp only [endC] at a
  obtain ⟨g1, c1, sl1, p1⟩ := sl.wipe own
  rw [wipe_wipe] at sl1
  have sl2 := sl1.unwipe
  obtain ⟨g2, c2, sl3, p2⟩ := sl2.put_back (ρ0 := ρf) own fun i hi p e => by
    obtain ⟨v, d, r', e1, e2, e3, e4⟩ := sf.out e
    have := e2.nocell (hf i hi p e)
    subst this
    exact ⟨v, e1, e2.mono st.fz⟩
  have pm : (c ++ (D, HO.lst accV) :: t).Perm ((g1 ++ g2) ++ (c2 ++ (D, HO.lst accV) :: t)) := by
    rw [← List.append_assoc]
    refine List.Perm.append_right _ ?_
    refine p1.trans ?_
    rw [List.append_assoc]
    exact p2.append_left g1
  exact a (.ref D) H G c2 ((D, .lst accV) :: t) ((st.perm (List.Perm.refl _) pm).less fun z hz => List.mem_append_right _ hz) sl3 (hh.perm pm).right (.lstO r)
theorem turn_C {σ : St} {G0 : Hp} {c0 : List Cell} {H0 : Hp} {Q : VK} {D : Addr} {own : List Nat} {tg : IT} {ifs : List IE} {elt : IE} {p : PV} {F : Fr → List PV → Res PV} (hs : ∀ j ∈ tg.slots, j ∈ own)
    {ρ : Fr} {G : Hp} {c t : List Cell} {acc : List PV} {accV : List V} (sl : Slots ad X.K G ρ (L2.wipe σ own) c) (r : RepL ad X.K G acc accV t) (hh : Hold G (c ++ (D, HO.lst accV) :: t) H) (st : Step G0 c0 H0 G (c ++ (D, HO.lst accV) :: t) H)
    (a : Aft ad X.K W σ (RelP ad X.K) G0 c0 H0 Q (stepC (turnC cf elt tg ifs) own F p ρ acc)) {x : V} (rx : Rep ad X.K G p x []) :
    rdG ad X tg x (L2.wipe σ own) H fun σ2 H2 => L2.wipe σ2 own = L2.wipe σ own ∧ rd ad X W0 RelB (evIfs cf ifs) σ2 H2 fun b H3 => if b = true then rd ad X W0 (RelP ad X.K) (evE cf elt) σ2 H3 fun y H4 => ∃ acc, H4 D = some (.lst acc) ∧ acc.length < sizeLine ∧ InvC ad X.K W σ G0 c0 H0 Q D own F (upd H4 D (.lst (acc ++ [y])))
      else InvC ad X.K W σ G0 c0 H0 Q D own F H3 := by
  simp only [stepC] at a
  cases e1 : asg tg p ρ with
  | none =>
    have e : turnC cf elt tg ifs p ρ = .bad := by unfold turnC; rw [e1]
    rw [e] at a; exact a.elim
  | some ρ2 =>
    have e : turnC cf elt tg ifs p ρ = (evIfs cf ifs ρ2).bind fun k ρ3 => if k then (evE cf elt ρ3).bind fun y ρ4 => .ok (some y) ρ4 else .ok none ρ3 := by unfold turnC; rw [e1]
    rw [e] at a
    refine ⟨ρ, G, c, p, ρ2, sl, hh.left, rx, e1, fun σ2 c2 sl2 ⟨g, pm⟩ to => ⟨to.wipe hs, ?_⟩⟩
    have pm' : (c ++ (D, HO.lst accV) :: t).Perm (g ++ (c2 ++ (D, HO.lst accV) :: t)) := by
      rw [← List.append_assoc]
      exact pm.append_right _
    have hh2 := (hh.perm pm').right
    have st2 : Step G0 c0 H0 G (c2 ++ (D, HO.lst accV) :: t) H := (st.perm (List.Perm.refl _) pm').less fun z hz => List.mem_append_right _ hz
    refine ⟨ρ2, G, c2, sl2, hh2.left, ?_⟩
    cases e2 : evIfs cf ifs ρ2 with
    | bad => rw [e2] at a; exact a.elim
    | ex y ρ3 => rw [e2] at a; exact a.elim
    | ok b ρ3 =>
      rw [e2] at a
      simp only [Res.bind] at a
      intro b' H3 G3 c3 t3 s3 sl3 h3 ⟨et, eb⟩
      subst et
      subst eb
      have s3' := nilL s3
      have h3' := nilH h3
      have hh3 := hh2.frame s3' h3'
      have st3 := st2.frame s3' hh2
      cases b with
      | false =>
        simp only [Bool.false_eq_true, if_false] at a ⊢
        obtain ⟨g4, c4, sl4, p4⟩ := sl3.wipe own
        rw [to.wipe hs] at sl4
        have pm4 : (c3 ++ (D, HO.lst accV) :: t).Perm (g4 ++ (c4 ++ (D, HO.lst accV) :: t)) := by
          rw [← List.append_assoc]
          exact p4.append_right _
        exact ⟨wipeF ρ3 own, G3, c4, t, acc, accV, sl4, r.mono s3.fz, (hh3.perm pm4).right, (st3.perm (List.Perm.refl _) pm4).less fun z hz => List.mem_append_right _ hz, a⟩
      | true =>
        simp only [if_true] at a ⊢
        refine ⟨ρ3, G3, c3, sl3, h3', ?_⟩
        cases e3 : evE cf elt ρ3 with
        | bad => rw [e3] at a; exact a.elim
        | ex y ρ3 => rw [e3] at a; exact a.elim
        | ok y ρ4 =>
          rw [e3] at a
          simp only at a
          split at a
          case isFalse => exact a.elim
          rename_i hlen
          intro v H4 G4 c4 t4 s4 sl4 h4 r4
          have r4' := Rep.absorb h4 r4
          have h4' := h4.absorb
          have s4' := s4.absorb h4
          have sl4' := sl4.mono (addc_sub h4.right)
          have hh4 := hh3.frame s4' h4'
          have st4 := st3.frame s4' hh3
          have r5 := (r.mono s3.fz).mono s4'.fz
          obtain ⟨g5, c5, sl5, p5⟩ := sl4'.wipe own
          rw [to.wipe hs] at sl5
          have pm5 : (c4 ++ (D, HO.lst accV) :: t).Perm (g5 ++ ((D, HO.lst accV) :: (c5 ++ t))) := by
            refine List.Perm.trans (p5.append_right _) ?_
            rw [List.append_assoc]
            exact List.Perm.append_left g5 List.perm_middle
          have hh5 := (hh4.perm pm5).right
          have st5 : Step G0 c0 H0 _ ((D, HO.lst accV) :: (c5 ++ t)) H4 := (st4.perm (List.Perm.refl _) pm5).less fun z hz => List.mem_append_right _ hz
          obtain ⟨w1, w2⟩ := hh5.write (.lst (accV ++ [v]))
          have pm6 : ((D, HO.lst (accV ++ [v])) :: (c5 ++ t)).Perm (c5 ++ (D, HO.lst (accV ++ [v])) :: t) := List.perm_middle.symm
          refine ⟨accV, ?_, by rw [← r5.length]; exact hlen, wipeF ρ4 own, _, c5, t, acc ++ [y.frz], accV ++ [v], sl5, by simpa using r5.append (RepL.cons (c := []) (cs := []) r4' RepL.nil), w1.perm pm6, (st5.trans w2 hh5).perm (List.Perm.refl _) pm6, a⟩
          exact hh5.at_ (D, HO.lst accV) List.mem_cons_self
theorem rd_comp {σ : St} {H : Hp} {Q : VK} {own : List Nat} {ie : IE} {it : IT} {src : ISrc} {iifs : List IE} (hsl : ∀ j ∈ it.slots, j ∈ own) (hq : rd ad X W (RelP ad X.K) (evE cf (.comp ie it src iifs own)) σ H Q) :
    tLc (rd ad X W (RelI ad X.K) (evSrc cf src)) (rdG ad X it) (rd ad X W0 RelB (evIfs cf iifs)) (rd ad X W0 (RelP ad X.K) (evE cf ie)) own σ H Q := by
  obtain ⟨ρ, G, c, sl, hh, h⟩ := hq
  rw [evE_comp] at h
  refine ⟨ρ, G, c, sl, hh, h.seq fun xs ρ1 J H1 G1 c1 t s1 sl1 h1 ⟨et, hw⟩ k1 D hD => ?_⟩
  subst et
  have s1' := nilL s1
  have h1' := nilH h1
  have k2 := k1.go s1' h1'
  obtain ⟨G2, c2, st2, h2, sl2⟩ := sl1.freeze h1' own
  have k3 := k2.go st2 h2
  obtain ⟨g, c3, sl3, p3⟩ := sl2.wipe own
  obtain ⟨n1, n2⟩ := h2.newO hD (.lst [])
  have pm : (c2 ++ [(D, HO.lst [])]).Perm (g ++ (c3 ++ [(D, HO.lst [])])) := by
    rw [← List.append_assoc]
    exact p3.append_right _
  refine ⟨fun i m H' => m = xs.length - i ∧ i ≤ xs.length ∧ InvC ad X.K W σ G2 c2 H1 Q D own (fun ρ acc => endC (frzAt ρ1 own) own (compL (turnC cf ie it iifs) own (xs.drop i) ρ acc)) H', ⟨_, rfl, Nat.zero_le _, ⟨_, G2, c3, [], [], [], sl3, .nil, (n1.perm pm).right, (n2.perm (List.Perm.refl _) pm).less fun z hz => List.mem_append_right _ hz, k3⟩⟩, ?_⟩
  rintro i m H' ⟨rfl, hi, hv⟩
  have hv' := hv
  obtain ⟨ρ', G', c', t, acc, accV, sl', r', hh', st', a'⟩ := hv'
  have w := hw i H' G' _ (st2.fz.trans st'.fz) hh'
  by_cases hlt : i < xs.length
  · obtain ⟨go, yl⟩ := w.1 hlt
    refine .inr ⟨go, fun H'' => InvC ad X.K W σ G2 c2 H1 Q D own (fun ρ acc => endC (frzAt ρ1 own) own (compL (turnC cf ie it iifs) own (xs.drop (i + 1)) ρ acc)) H'', fun H'' hv2 => ⟨_, by omega, rfl, hlt, hv2⟩, fun x H'' hy => ?_⟩
    obtain ⟨G3, p, sp, hp, ep, rp⟩ := yl x H'' hy
    rw [drop_cons ep, step_cons] at a'
    exact turn_C hsl (sl'.mono sp.fz) (r'.mono sp.fz) hp (st'.trans sp hh') a' rp
  · have e : i = xs.length := by omega
    subst e
    rw [List.drop_length] at hv
    exact .inl ⟨w.2 (Nat.le_refl _), stop_C hv (fun ρ acc => .inl rfl) sl2 fun i hi p e => frzAt_fz hi e⟩
theorem se_comp {elt tg iter : Expr} {ifs : List Expr} {scope : Scope} {own : List (Str × Nat)} {ie : IE} {it : IT} {src : ISrc} {iifs : List IE} (hc : X.calm = true) (hN : X.N.Nodup) (hi : SI ad X W tg iter (evSrc cf src)) (ok : BlkOk X.N X.env.scope scope own) (hsl : ∀ j ∈ it.slots, j ∈ own.map (·.2))
    (hg : ∀ (s : Shared) (H : Hp) (C : Addr) (cl : List (Str × Addr)) (fp : List Addr), PG (X.blk s H scope (compEnvC scope cl C X.env) fp) tg (rdG ad X it))
    (ht : ∀ (s : Shared) (H : Hp) (C : Addr) (cl : List (Str × Addr)) (fp : List Addr), PTs (X.blk s H scope (compEnvC scope cl C X.env) fp) ifs (rd ad X W0 RelB (evIfs cf iifs)))
    (he : ∀ (s : Shared) (H : Hp) (C : Addr) (cl : List (Str × Addr)) (fp : List Addr), PE (X.blk s H scope (compEnvC scope cl C X.env) fp) elt (rd ad X W0 (RelP ad X.K) (evE cf ie))) (hs : ∀ x, foldedSetIterable iter X.env x = pure x) :
    PE X (.ListComp elt [⟨tg, iter, ifs, 0⟩] scope pos) (rd ad X W (RelP ad X.K) (evE cf (.comp ie it src iifs (own.map (·.2))))) := (pe_lc hc hN hi ok hg ht he hs).imp fun σ H Q hq => rd_comp hsl hq
end
end Y
end
section
set_option Elab.async false
set_option linter.all false
set_option maxRecDepth 100000
set_option maxHeartbeats 2000000
set_option autoImplicit false
/-! Y9: statements. -/
namespace Y
open PySem L2
variable {ad : Str → Addr} {K : PySem.W.Frag} {G G' G1 G2 H H' H1 H2 : Hp}
/-- the slots pr stand as at the start -/
structure Keep (pr : List Nat) (σ0 σ : St) : Prop where
  len : σ.length = σ0.length
  at_ : ∀ j ∈ pr, σ[j]? = σ0[j]?
theorem Keep.refl (pr : List Nat) (σ : St) : Keep pr σ σ := ⟨rfl, fun _ _ => rfl⟩
theorem Keep.touch {pr js : List Nat} {σ0 σ σ' : St} (k : Keep pr σ0 σ) (t : Touch js σ σ') (h : ∀ j ∈ js, j ∉ pr) : Keep pr σ0 σ' :=
  ⟨t.len.trans k.len, fun j hj => (t.out j fun z => h j z hj).trans (k.at_ j hj)⟩
theorem Keep.set {pr : List Nat} {σ0 σ : St} (k : Keep pr σ0 σ) {i : Nat} {x : Option V} (h : i ∉ pr) : Keep pr σ0 (σ.set i x) := k.touch Touch.set (by simpa using h)
structure Pt where
  pr : List Nat
  σ0 : St
abbrev Pt.kp (P : Pt) (σ : St) : Prop := Keep P.pr P.σ0 σ
/-- what is wanted behind a statement's result -/
def AftS (ad : Str → Addr) (K : PySem.W.Frag) (W : WX) (P : Pt) (D : Ends) (G : Hp) (c : List Cell) (H : Hp) : Res Fl → Prop
  | .ok .nx ρ => ∀ σ' H' G' c', P.kp σ' → Step G c H G' c' H' → Slots ad K G' ρ σ' c' → Hold G' c' H' → D.nx σ' H'
  | .ok .bk ρ => ∀ σ' H' G' c', P.kp σ' → Step G c H G' c' H' → Slots ad K G' ρ σ' c' → Hold G' c' H' → D.bk σ' H'
  | .ok .ct ρ => ∀ σ' H' G' c', P.kp σ' → Step G c H G' c' H' → Slots ad K G' ρ σ' c' → Hold G' c' H' → D.ct σ' H'
  | .ok (.rt p) ρ => ∀ v σ' H' G' c' t, P.kp σ' → Step G c H G' (c' ++ t) H' → Slots ad K G' ρ σ' c' → Hold G' (c' ++ t) H' → Rep ad K G' p v t → D.rt v H'
  | .ex x ρ => ∀ d σ' H' G' c', P.kp σ' → Step G c H G' c' H' → Slots ad K G' ρ σ' c' → Hold G' c' H' → XRep ad K G' x d → W (.ref (ad x.cls)) (some d) σ' H'
  | .bad => False
def rdS (ad : Str → Addr) (X : Cx) (W : WX) (P : Pt) (m : Fr → Res Fl) : TS := fun D σ H => ∃ ρ G c, P.kp σ ∧ Slots ad X.K G ρ σ c ∧ Hold G c H ∧ AftS ad X.K W P D G c H (m ρ)
section
variable {X : Cx} {W : WX} {P : Pt} {cf : Cf} {pos : Pos} {D : Ends}
theorem AftS.go {r : Res Fl} {c c1 : List Cell} (h : AftS ad K W P D G c H r) (s : Step G c H G1 c1 H1) (h1 : Hold G1 c1 H1) : AftS ad K W P D G1 c1 H1 r := by
  cases r with
  | ok f ρ =>
    cases f with
    | nx => exact fun σ' H' G' c' kp s2 sl hh => h σ' H' G' c' kp (s.trans s2 h1) sl hh
    | bk => exact fun σ' H' G' c' kp s2 sl hh => h σ' H' G' c' kp (s.trans s2 h1) sl hh
    | ct => exact fun σ' H' G' c' kp s2 sl hh => h σ' H' G' c' kp (s.trans s2 h1) sl hh
    | rt p => exact fun v σ' H' G' c' t kp s2 sl hh => h v σ' H' G' c' t kp (s.trans s2 h1) sl hh
  | ex x ρ => exact fun d σ' H' G' c' kp s2 sl hh => h d σ' H' G' c' kp (s.trans s2 h1) sl hh
  | bad => exact h
theorem AftS.go0 {r : Res Fl} {c c1 : List Cell} (h : AftS ad K W P D G c H r) (s : Step G c H G1 (c1 ++ []) H1) (h1 : Hold G1 (c1 ++ []) H1) : AftS ad K W P D G1 c1 H1 r := by
  rw [List.append_nil] at s h1
  exact h.go s h1
/-- an expression ahead of what the statement does -/
theorem AftS.seq {α β : Type} {R : RRel α β} {σ : St} {c : List Cell} {r : Res α} {f : α → Fr → Res Fl} {Q : β → Hp → Prop} (hp : P.kp σ) (h : AftS ad K W P D G c H (r.bind f))
    (k : ∀ a ρ v H1 G1 c1 t, Step G c H G1 (c1 ++ t) H1 → Slots ad K G1 ρ σ c1 → Hold G1 (c1 ++ t) H1 → R σ G1 a v t → AftS ad K W P D G c H (f a ρ) → Q v H1) : Aft ad K W σ R G c H Q r := by
  cases r with
  | ok a ρ => exact fun v H' G' c' t s sl hh hr => k a ρ v H' G' c' t s sl hh hr h
  | ex x ρ => exact fun d H' G' c' s sl hh hx => h d σ H' G' c' hp s sl hh hx
  | bad => exact h
theorem AftS.nx {σ : St} {c : List Cell} {ρ : Fr} (h : AftS ad K W P D G c H (.ok .nx ρ)) (hp : P.kp σ) (sl : Slots ad K G ρ σ c) (hh : Hold G c H) : D.nx σ H := h σ H G c hp Step.refl sl hh
theorem _root_.L2.PS.imp {e : Stmt} {t t' : TS} (h : PS X e t) (i : ∀ D σ H, t' D σ H → t D σ H) : PS X e t' := ⟨fun pins s σ H D I hw => h.run pins s σ H D I (i D σ H hw)⟩
theorem _root_.L2.PSs.imp {e : List Stmt} {t t' : TS} (h : PSs X e t) (i : ∀ D σ H, t' D σ H → t D σ H) : PSs X e t' := ⟨fun pins s σ H D I hw => h.run pins s σ H D I (i D σ H hw)⟩
abbrev SS (ad : Str → Addr) (X : Cx) (W : WX) (P : Pt) (st : Stmt) (m : Fr → Res Fl) : Prop := PS X st (rdS ad X W P m)
abbrev SB (ad : Str → Addr) (X : Cx) (W : WX) (P : Pt) (st : List Stmt) (m : Fr → Res Fl) : Prop := PSs X st (rdS ad X W P m)
/-! ### what a block is made of -/
theorem sb_nil : SB ad X W P [] (evB cf []) := pss_nil.imp fun D σ H ⟨ρ, G, c, kp, sl, hh, h⟩ => by
  simp only [evB] at h
  exact h.nx kp sl hh
theorem aft_seqS {c : List Cell} {r : Res Fl} {f : Fr → Res Fl} (h : AftS ad X.K W P D G c H (match r with
    | .ok .nx ρ1 => f ρ1
    | z => z)) : AftS ad X.K W P { D with nx := rdS ad X W P f D } G c H r := by
  cases r with
  | ok g ρ =>
    cases g with
    | nx => exact fun σ' H' G' c' kp s sl hh => ⟨ρ, G', c', kp, sl, hh, h.go s hh⟩
    | bk => exact h
    | ct => exact h
    | rt p => exact h
  | ex x ρ => exact h
  | bad => exact h
theorem sb_cons {st : Stmt} {rest : List Stmt} {s : IS} {r : List IS} (h1 : SS ad X W P st (evS cf s)) (h2 : SB ad X W P rest (evB cf r)) : SB ad X W P (st :: rest) (evB cf (s :: r)) := (pss_cons h1 h2).imp fun D σ H ⟨ρ, G, c, kp, sl, hh, h⟩ => by
  simp only [evB] at h
  exact ⟨ρ, G, c, kp, sl, hh, aft_seqS h⟩
theorem ss_pass : SS ad X W P (.Pass pos) (evS cf .pas) := ps_pass.imp fun D σ H ⟨ρ, G, c, kp, sl, hh, h⟩ => by
  simp only [evS] at h
  exact h.nx kp sl hh
theorem ss_doc {x : Str} {j : Nat} {pos' : Pos} : SS ad X W P (.Expr (.Constant (.str x) j pos) pos') (evS cf .pas) := ps_doc.imp fun D σ H ⟨ρ, G, c, kp, sl, hh, h⟩ => by
  simp only [evS] at h
  exact h.nx kp sl hh
theorem ss_break : SS ad X W P (.Break pos) (evS cf .brk) := ps_break.imp fun D σ H ⟨ρ, G, c, kp, sl, hh, h⟩ => by
  simp only [evS] at h
  exact h σ H G c kp Step.refl sl hh
theorem ss_continue : SS ad X W P (.Continue pos) (evS cf .cnt) := ps_continue.imp fun D σ H ⟨ρ, G, c, kp, sl, hh, h⟩ => by
  simp only [evS] at h
  exact h σ H G c kp Step.refl sl hh
theorem ss_ret {e : Expr} {ie : IE} (he : SE ad X W e (evE cf ie)) : SS ad X W P (.Return (some e) pos) (evS cf (.ret ie)) := (ps_ret he).imp fun D σ H ⟨ρ, G, c, kp, sl, hh, h⟩ => by
  simp only [evS] at h
  exact ⟨ρ, G, c, sl, hh, h.seq kp fun p ρ1 v H1 G1 c1 t s1 sl1 h1 r1 k1 => k1 v σ H1 G1 c1 t kp s1 sl1 h1 r1⟩
theorem ss_retN : SS ad X W P (.Return none pos) (evS cf .retN) := ps_retN.imp fun D σ H ⟨ρ, G, c, kp, sl, hh, h⟩ => by
  simp only [evS] at h
  exact h .non σ H G c [] kp (toL Step.refl) sl (toH hh) .non
theorem ss_expr {e : Expr} {ie : IE} (he : SE ad X W e (evE cf ie)) (hs : swapsWith e none pos.line X.env = pure false) : SS ad X W P (.Expr e pos) (evS cf (.exp ie)) := (ps_expr he hs).imp fun D σ H ⟨ρ, G, c, kp, sl, hh, h⟩ => by
  simp only [evS] at h
  refine ⟨ρ, G, c, sl, hh, h.seq kp fun p ρ1 v H1 G1 c1 t s1 sl1 h1 r1 k1 => ?_⟩
  exact k1 σ H1 G1 c1 kp (s1.less fun z hz => List.mem_append_left _ hz) sl1 h1.left
/-! ### names are stored -/
/-- a slot is written -/
theorem put_nx {σ : St} {ρ : Fr} {c c1 t : List Cell} {i : Nat} {p : PV} {v : V} (hi : i ∉ P.pr) (hl : i < ρ.length) (h : AftS ad K W P D G c H (.ok .nx (ρ.set i (some p)))) (kp : P.kp σ) (s : Step G c H G1 (c1 ++ t) H1) (sl : Slots ad K G1 ρ σ c1) (hh : Hold G1 (c1 ++ t) H1) (r : Rep ad K G1 p v t) : D.nx (σ.set i (some v)) H1 := by
  obtain ⟨d, c2, sl2, pm⟩ := sl.set hl r
  have pm' : (c1 ++ t).Perm (d ++ c2) := (List.perm_append_comm).trans pm
  exact h _ H1 G1 c2 (kp.set hi) ((s.perm (List.Perm.refl _) pm').less fun z hz => List.mem_append_right _ hz) sl2 (hh.perm pm').right
theorem aft_set {σ : St} {ρ : Fr} {c c1 t : List Cell} {i : Nat} {p : PV} {v : V} (hi : i ∉ P.pr) (h : AftS ad K W P D G c H (if i < ρ.length then .ok .nx (ρ.set i (some p)) else .bad)) (kp : P.kp σ) (s : Step G c H G1 (c1 ++ t) H1) (sl : Slots ad K G1 ρ σ c1) (hh : Hold G1 (c1 ++ t) H1) (r : Rep ad K G1 p v t) : D.nx (σ.set i (some v)) H1 := by
  split at h
  · rename_i hl
    exact put_nx hi hl h kp s sl hh r
  · exact h.elim
theorem rd_set {i : Nat} {ie : IE} {σ : St} {H : Hp} (hi : i ∉ P.pr) (hq : rdS ad X W P (evS cf (.set i ie)) D σ H) : tAsg (rd ad X W (RelP ad X.K) (evE cf ie)) (gName i) D σ H := by
  obtain ⟨ρ, G, c, kp, sl, hh, h⟩ := hq
  simp only [evS] at h
  exact ⟨ρ, G, c, sl, hh, h.seq kp fun p ρ1 v H1 G1 c1 t s1 sl1 h1 r1 k1 => aft_set hi k1 kp s1 sl1 h1 r1⟩
theorem ss_set {i : Nat} {x : Str} {e : Expr} {ie : IE} {pos' : Pos} (h : PS X (.Assign [.Name x pos'] e pos) (tAsg (rd ad X W (RelP ad X.K) (evE cf ie)) (gName i))) (hi : i ∉ P.pr) : SS ad X W P (.Assign [.Name x pos'] e pos) (evS cf (.set i ie)) := h.imp fun _ _ _ hq => rd_set hi hq
theorem ss_asg {tg e : Expr} {it : IT} {ie : IE} (h : PS X (.Assign [tg] e pos) (tAsg (rd ad X W (RelP ad X.K) (evE cf ie)) (rdG ad X it))) (hi : ∀ j ∈ it.slots, j ∉ P.pr) : SS ad X W P (.Assign [tg] e pos) (evS cf (.asg it ie)) := h.imp fun D σ H ⟨ρ, G, c, kp, sl, hh, h⟩ => by
  simp only [evS] at h
  refine ⟨ρ, G, c, sl, hh, h.seq kp fun p ρ1 v H1 G1 c1 t s1 sl1 h1 r1 k1 => ?_⟩
  cases e : asg it p.frz ρ1 with
  | none => rw [e] at k1; exact k1.elim
  | some ρ2 =>
    rw [e] at k1
    exact ⟨ρ1, addc G1 t, c1, p.frz, ρ2, sl1.mono (addc_sub h1.right), h1.absorb, Rep.absorb h1 r1, e, fun σ' c' sl2 ⟨g, pm⟩ to =>
      k1 σ' H1 _ c' (kp.touch to hi) (((s1.absorb h1).perm (List.Perm.refl _) pm).less fun z hz => List.mem_append_right _ hz) sl2 (h1.absorb.perm pm).right⟩
theorem ss_aug {i : Nat} {x : Str} {e : Expr} {ie : IE} {pos' : Pos} {op : Operator} {f : Int → Int → Int} (h : PS X (.AugAssign (.Name x pos') op e pos) (tAug i (rd ad X W (RelP ad X.K) (evE cf ie)) (ipI f))) (hi : i ∉ P.pr)
    (ho : (op = .Add ∧ f = fun a b => a + b) ∨ (op = .Sub ∧ f = fun a b => a - b)) : SS ad X W P (.AugAssign (.Name x pos') op e pos) (evS cf (.aug i op ie)) := h.imp fun D σ H ⟨ρ, G, c, kp, sl, hh, h⟩ => by
  simp only [evS] at h
  cases e0 : ρ.at i with
  | none => rw [e0] at h; exact h.elim
  | some q =>
    rw [e0] at h
    obtain ⟨v, d, r, e1, e2, e3, e4⟩ := sl.out e0
    refine ⟨v, e1, ρ, G, c, sl, hh, AftS.seq kp h fun p ρ1 w H1 G1 c1 t s1 sl1 h1 r1 k1 => ?_⟩
    have r1' : Rep ad X.K G1 p w t := r1
    cases q with
    | int a =>
      cases p with
      | int b =>
        cases e2
        cases r1'
        have hl : i < ρ1.length := by
          rw [sl1.length]
          exact (List.getElem?_eq_some_iff.mp e1).1
        rcases ho with ⟨rfl, rfl⟩ | ⟨rfl, rfl⟩
        · exact ⟨a, b, rfl, rfl, put_nx (p := .int (a + b)) hi hl k1 kp s1 sl1 h1 (.int _)⟩
        · exact ⟨a, b, rfl, rfl, put_nx (p := .int (a - b)) hi hl k1 kp s1 sl1 h1 (.int _)⟩
      | _ => exact k1.elim
    | _ => exact k1.elim
/-! ### if, while, for -/
theorem ss_if {t : Expr} {a b : List Stmt} {it : IE} {ia ib : List IS} (ht : ST ad X W t (evT cf it (evE cf it))) (ha : SB ad X W P a (evB cf ia)) (hb : SB ad X W P b (evB cf ib)) : SS ad X W P (.If t a b pos) (evS cf (.ife it ia ib)) := (ps_if ht ha hb).imp fun D σ H ⟨ρ, G, c, kp, sl, hh, h⟩ => by
  simp only [evS] at h
  refine ⟨ρ, G, c, sl, hh, AftS.seq (R := RelB) kp h fun k ρ1 k' H1 G1 c1 t s1 sl1 h1 ⟨et, ek⟩ k1 => ?_⟩
  subst et
  subst ek
  have k2 := k1.go0 s1 h1
  cases k with
  | true =>
    rw [if_pos rfl] at k2 ⊢
    exact ⟨ρ1, G1, c1, kp, sl1, nilH h1, k2⟩
  | false =>
    rw [if_neg Bool.false_ne_true] at k2 ⊢
    exact ⟨ρ1, G1, c1, kp, sl1, nilH h1, k2⟩
/-- the loop's end as its body's next turn -/
theorem aft_turn {c : List Cell} {r : Res Fl} {f : Fr → Res Fl} {N : St → Hp → Prop} (h : AftS ad K W P D G c H (match r with
    | .ok .nx ρ1 => f ρ1
    | .ok .ct ρ1 => f ρ1
    | .ok .bk ρ1 => .ok .nx ρ1
    | z => z)) (hN : ∀ σ' H' G' c' ρ', P.kp σ' → Step G c H G' c' H' → Slots ad K G' ρ' σ' c' → Hold G' c' H' → AftS ad K W P D G c H (f ρ') → N σ' H') : AftS ad K W P { D with nx := N, ct := N, bk := D.nx } G c H r := by
  cases r with
  | ok g ρ =>
    cases g with
    | nx => exact fun σ' H' G' c' kp s sl hh => hN σ' H' G' c' ρ kp s sl hh h
    | ct => exact fun σ' H' G' c' kp s sl hh => hN σ' H' G' c' ρ kp s sl hh h
    | bk => exact h
    | rt p => exact h
  | ex x ρ => exact h
  | bad => exact h
theorem ss_while {t : Expr} {body : List Stmt} {it : IE} {ib : List IS} (hp : PassesOwn (model X.prog X.w) X.A X.env X.xe) (ht : ST ad X W t (evT cf it (evE cf it))) (hb : SB ad X W P body (evB cf ib)) : SS ad X W P (.While t body [] pos) (evS cf (.whl it ib)) := (ps_while hp ht hb).imp fun D σ H h => by
  refine ⟨fun m => rdS ad X W P (whlL (evT cf it (evE cf it)) (evB cf ib) m) D, ⟨cf.fuel, ?_⟩, ?_⟩
  · obtain ⟨ρ, G, c, kp, sl, hh, h⟩ := h
    simp only [evS] at h
    exact ⟨ρ, G, c, kp, sl, hh, h⟩
  rintro m σ' H' ⟨ρ', G', c', kp', sl', hh', a⟩
  cases m with
  | zero => exact a.elim
  | succ n =>
    simp only [whlL] at a
    refine ⟨ρ', G', c', sl', hh', AftS.seq (R := RelB) kp' a fun k ρ1 k' H1 G1 c1 t s1 sl1 h1 ⟨et, ek⟩ k1 => ?_⟩
    subst et
    subst ek
    have s1' := nilL s1
    have h1' := nilH h1
    have k2 := k1.go s1' h1'
    cases k with
    | false =>
      rw [if_neg Bool.false_ne_true] at k2 ⊢
      exact k2.nx kp' sl1 h1'
    | true =>
      rw [if_pos rfl] at k2 ⊢
      exact ⟨rdS ad X W P (whlL (evT cf it (evE cf it)) (evB cf ib) n) D, fun σ2 H2 hw => ⟨n, Nat.lt_succ_self n, hw⟩, ρ1, G1, c1, kp', sl1, h1', aft_turn k2 fun σ2 H2 G2 c2 ρ2 kp2 s2 sl2 h2 a2 => ⟨ρ2, G2, c2, kp2, sl2, h2, a2.go s2 h2⟩⟩
def turnF (cf : Cf) (tg : IT) (body : List IS) : PV → Fr → Res Fl := fun x ρ => match asg tg x ρ with
  | some ρ2 => evB cf body ρ2
  | none => .bad
theorem ss_for {tg iter : Expr} {body : List Stmt} {it : IT} {src : ISrc} {ib : List IS} (hp : PassesOwn (model X.prog X.w) X.A X.env X.xe) (hc : X.calm = true) (hi : SI ad X W tg iter (evSrc cf src)) (hg : PG X tg (rdG ad X it)) (hb : SB ad X W P body (evB cf ib)) (hs : ∀ x, foldedSetIterable iter X.env x = pure x)
    (hj : ∀ j ∈ it.slots, j ∉ P.pr) : SS ad X W P (.For tg iter body [] pos) (evS cf (.fors it src ib)) := (ps_for hp hc hi hg hb hs).imp fun D σ H ⟨ρ, G, c, kp, sl, hh, h⟩ => by
  simp only [evS] at h
  change AftS ad X.K W P D G c H ((evSrc cf src ρ).bind fun xs ρ1 => forL (turnF cf it ib) xs ρ1) at h
  refine ⟨ρ, G, c, sl, hh, AftS.seq (R := RelI ad X.K) kp h fun xs ρ1 J H1 G1 c1 t s1 sl1 h1 ⟨et, hw⟩ k1 => ?_⟩
  subst et
  have h1' := nilH h1
  refine ⟨fun i m σ' H' => m = xs.length - i ∧ i ≤ xs.length ∧ ∃ ρ' G' c', P.kp σ' ∧ Slots ad X.K G' ρ' σ' c' ∧ Hold G' c' H' ∧ Sub G1 G' ∧ AftS ad X.K W P D G' c' H' (forL (turnF cf it ib) (xs.drop i) ρ'), ⟨_, rfl, Nat.zero_le _, ρ1, G1, c1, kp, sl1, h1', Sub.refl _, k1.go0 s1 h1⟩, ?_⟩
  rintro i m σ' H' ⟨rfl, hi, ρ', G', c', kp', sl', hh', sb, a⟩
  have w := hw i H' G' c' sb hh'
  by_cases hlt : i < xs.length
  · obtain ⟨go, yl⟩ := w.1 hlt
    refine .inr ⟨go, fun σ2 H2 => ∃ ρ2 G2 c2, P.kp σ2 ∧ Slots ad X.K G2 ρ2 σ2 c2 ∧ Hold G2 c2 H2 ∧ Sub G1 G2 ∧ AftS ad X.K W P D G2 c2 H2 (forL (turnF cf it ib) (xs.drop (i + 1)) ρ2), fun σ2 H2 hv2 => ⟨_, by omega, rfl, hlt, hv2⟩, fun x H'' hy => ?_⟩
    obtain ⟨G3, p, sp, hp3, ep, rp⟩ := yl x H'' hy
    rw [drop_cons ep] at a
    simp only [forL] at a
    have a3 := a.go sp hp3
    have sl3 := sl'.mono sp.fz
    have sb3 := sb.trans sp.fz
    cases e1 : asg it p ρ' with
    | none =>
      have e : turnF cf it ib p ρ' = .bad := by unfold turnF; rw [e1]
      rw [e] at a3; exact a3.elim
    | some ρ2 =>
      have e : turnF cf it ib p ρ' = evB cf ib ρ2 := by unfold turnF; rw [e1]
      rw [e] at a3
      refine ⟨ρ', G3, c', p, ρ2, sl3, hp3, rp, e1, fun σ2 c2 sl2 ⟨g, pm⟩ to => ?_⟩
      have hh2 := (hp3.perm pm).right
      have st2 : Step G3 c' H'' G3 c2 H'' := ((Step.refl (c := c')).perm (List.Perm.refl _) pm).less fun z hz => List.mem_append_right _ hz
      refine ⟨ρ2, G3, c2, kp'.touch to hj, sl2, hh2, aft_turn (a3.go st2 hh2) fun σ4 H4 G4 c4 ρ4 kp4 s4 sl4 h4 a4 => ⟨ρ4, G4, c4, kp4, sl4, h4, sb3.trans s4.fz, a4.go s4 h4⟩⟩
  · have e : i = xs.length := by omega
    subst e
    rw [List.drop_length] at a
    simp only [forL] at a
    exact .inl ⟨w.2 (Nat.le_refl _), a.nx kp' sl' hh'⟩
end
end Y
end
section
set_option Elab.async false
set_option linter.all false
set_option maxRecDepth 100000
set_option maxHeartbeats 2000000
set_option autoImplicit false
/-! Y9v: the list in a slot is walked as it stands at each turn. -/
namespace Y
open PySem L2
variable {ad : Str → Addr} {K : PySem.W.Frag} {G G' G1 G2 H H' H1 H2 : Hp}
theorem view_lst {ρ : Fr} {σ : St} {c : List Cell} {i : Nat} {o : Bool} {xs : List PV} (sl : Slots ad K G ρ σ c) (hh : Hold G c H) (e : ρ.at i = some (.lst o xs)) : ∃ a vs d, σ[i]? = some (some (.ref a)) ∧ SqL K H a vs ∧ RepL ad K G xs vs d := by
  obtain ⟨v, d, r, e1, e2, e3, e4⟩ := sl.out e
  have vw : Vw ad K G c (.lst o xs) v := ⟨d, e2, fun z hz => e4.symm.mem_iff.mp (List.mem_append_left _ hz)⟩
  obtain ⟨a, vs, d', rfl, h1, h2, _⟩ := vw.lst hh
  exact ⟨a, vs, d', e1, .of h1, h2⟩
theorem view_len {ρ : Fr} {σ : St} {c : List Cell} {i n : Nat} {a : Addr} (sl : Slots ad K G ρ σ c) (hh : Hold G c H) (hσ : σ[i]? = some (some (.ref a))) (e : vwLen ρ i n = true) : ∃ vs, SqL K H a vs ∧ vs.length = n := by
  unfold vwLen at e
  split at e
  · rename_i o xs e1
    obtain ⟨a', vs, d, h1, h2, h3⟩ := view_lst sl hh e1
    rw [hσ] at h1
    cases h1
    exact ⟨vs, h2, by rw [← h3.length]; exact of_decide_eq_true e⟩
  · cases e
theorem view_at {ρ : Fr} {σ : St} {c : List Cell} {i n j : Nat} {a : Addr} {x : PV} (sl : Slots ad K G ρ σ c) (hh : Hold G c H) (hσ : σ[i]? = some (some (.ref a))) (e : vwAt ρ i n j = some x) : ∃ vs v, SqL K H a vs ∧ vs[j]? = some v ∧ Rep ad K G x v [] := by
  unfold vwAt at e
  split at e
  · rename_i o xs e1
    split at e
    · split at e
      · rename_i y e2
        split at e
        · rename_i hf
          cases e
          obtain ⟨a', vs, d, h1, h2, h3⟩ := view_lst sl hh e1
          rw [hσ] at h1
          cases h1
          obtain ⟨w, d2, q1, q2, _⟩ := h3.get e2
          have := q2.nocell hf
          subst this
          exact ⟨vs, w, h2, q1, q2⟩
        · cases e
      · cases e
    · cases e
  · cases e
theorem len_start {ρ : Fr} {σ : St} {c : List Cell} {i n : Nat} (sl : Slots ad K G ρ σ c) (hh : Hold G c H) (e : lenAt ρ i = some n) : ∃ a vs, σ[i]? = some (some (.ref a)) ∧ SqL K H a vs := by
  unfold lenAt at e
  split at e
  · rename_i o xs e1
    obtain ⟨a, vs, d, h1, h2, _⟩ := view_lst sl hh e1
    exact ⟨a, vs, h1, h2⟩
  · cases e
theorem stepV {turn : PV → Fr → Res (Option PV)} {own : List Nat} {ρf : Fr} {i n k : Nat} {p : PV} {ρ : Fr} {acc : List PV} (e : vwAt ρ i n (n - (k + 1)) = some p) : endC ρf own (compV turn own i n (k + 1) ρ acc) = stepC turn own (fun ρ acc => endC ρf own (compV turn own i n k ρ acc)) p ρ acc := by
  simp only [compV, stepC, e]
  cases e : turn p ρ with
  | bad => rfl
  | ex x ρ1 => rfl
  | ok y ρ1 =>
    cases y with
    | none => rfl
    | some y =>
      dsimp only
      split <;> rfl
section
variable {X : Cx} {W : WX} {P : Pt} {cf : Cf} {pos : Pos} {D : Ends}
theorem rd_compv {σ : St} {H : Hp} {Q : VK} {own : List Nat} {ie : IE} {it : IT} {i : Nat} {iifs : List IE} (hsl : ∀ j ∈ it.slots, j ∈ own) (hq : rd ad X W (RelP ad X.K) (evE cf (.compv ie it i iifs own)) σ H Q) :
    tLc (iList X.K (tVar i)) (rdG ad X it) (rd ad X W0 RelB (evIfs cf iifs)) (rd ad X W0 (RelP ad X.K) (evE cf ie)) own σ H Q := by
  obtain ⟨ρ, G, c, sl, hh, h⟩ := hq
  simp only [evE] at h
  cases en : lenAt ρ i with
  | none => rw [en] at h; exact h.elim
  | some n =>
    cases eo : own.contains i with
    | true => rw [en, eo] at h; exact h.elim
    | false =>
      rw [en, eo] at h
      change Aft ad X.K W σ (RelP ad X.K) G c H Q (endC (frzAt ρ own) own (compV (turnC cf ie it iifs) own i n n (wipeF (frzAt ρ own) own) [])) at h
      have hi : i ∉ own := fun z => by rw [List.contains_iff_mem.mpr z] at eo; cases eo
      obtain ⟨a, vs0, hσ, hs0⟩ := len_start sl hh en
      refine ⟨_, hσ, a, rfl, ⟨vs0, hs0⟩, fun D hD => ?_⟩
      obtain ⟨G2, c2, st2, h2, sl2⟩ := sl.freeze hh own
      have k3 := h.go st2 h2
      obtain ⟨g, c3, sl3, p3⟩ := sl2.wipe own
      obtain ⟨n1, n2⟩ := h2.newO hD (.lst [])
      have pm : (c2 ++ [(D, HO.lst [])]).Perm (g ++ (c3 ++ [(D, HO.lst [])])) := by
        rw [← List.append_assoc]
        exact p3.append_right _
      have hw : (L2.wipe σ own)[i]? = some (some (.ref a)) := by rw [wipe_out hi]; exact hσ
      refine ⟨fun j m H' => m = n - j ∧ j ≤ n ∧ InvC ad X.K W σ G2 c2 H Q D own (fun ρ' acc => endC (frzAt ρ own) own (compV (turnC cf ie it iifs) own i n (n - j) ρ' acc)) H', ⟨_, rfl, Nat.zero_le _, ⟨_, G2, c3, [], [], [], sl3, .nil, (n1.perm pm).right, (n2.perm (List.Perm.refl _) pm).less fun z hz => List.mem_append_right _ hz, k3⟩⟩, ?_⟩
      rintro j m H' ⟨rfl, hj, hv⟩
      have hv' := hv
      obtain ⟨ρ', G', c', t, acc, accV, sl', r', hh', st', a'⟩ := hv'
      by_cases hlt : j < n
      · obtain ⟨k, hk⟩ : ∃ k, n - j = k + 1 := ⟨n - j - 1, by omega⟩
        have hjk : n - (k + 1) = j := by omega
        have hk2 : n - (j + 1) = k := by omega
        rw [hk] at a'
        cases ev : vwAt ρ' i n (n - (k + 1)) with
        | none =>
          simp only [compV, ev] at a'
          exact a'.elim
        | some p =>
          rw [stepV ev] at a'
          rw [hjk] at ev
          obtain ⟨vs, v, q1, q2, q3⟩ := view_at sl' hh'.left hw ev
          refine .inr ⟨⟨vs, v, q1, q2⟩, fun H'' => InvC ad X.K W σ G2 c2 H Q D own (fun ρ' acc => endC (frzAt ρ own) own (compV (turnC cf ie it iifs) own i n (n - (j + 1)) ρ' acc)) H'', fun H'' hv2 => ⟨_, by omega, rfl, hlt, hv2⟩, fun x H'' hy => ?_⟩
          obtain ⟨eh, hx⟩ := hy
          subst eh
          have hx2 := hx vs q1
          rw [q2] at hx2
          cases hx2
          rw [hk2]
          exact turn_C hsl sl' r' hh' st' a' q3
      · have e : j = n := by omega
        subst e
        rw [Nat.sub_self] at hv a'
        simp only [compV] at a'
        by_cases hl : vwLen ρ' i j = true
        · obtain ⟨vs, q1, q2⟩ := view_len sl' hh'.left hw hl
          refine .inl ⟨⟨vs, q1, by omega⟩, stop_C hv (fun ρ' acc => ?_) sl2 fun i hi p e => frzAt_fz hi e⟩
          simp only [compV]
          split
          · exact .inl rfl
          · exact .inr rfl
        · rw [if_neg hl] at a'
          exact a'.elim
theorem AftS.keep {P P' : Pt} {r : Res Fl} {c : List Cell} (hk : ∀ σ', P'.kp σ' → P.kp σ') (h : AftS ad K W P D G c H r) : AftS ad K W P' D G c H r := by
  cases r with
  | ok f ρ =>
    cases f with
    | nx => exact fun σ' H' G' c' kp s2 sl hh => h σ' H' G' c' (hk _ kp) s2 sl hh
    | bk => exact fun σ' H' G' c' kp s2 sl hh => h σ' H' G' c' (hk _ kp) s2 sl hh
    | ct => exact fun σ' H' G' c' kp s2 sl hh => h σ' H' G' c' (hk _ kp) s2 sl hh
    | rt p => exact fun v σ' H' G' c' t kp s2 sl hh => h v σ' H' G' c' t (hk _ kp) s2 sl hh
  | ex x ρ => exact fun d σ' H' G' c' kp s2 sl hh => h d σ' H' G' c' (hk _ kp) s2 sl hh
  | bad => exact h
theorem ss_forv {x : Str} {p0 : Pos} {tg : Expr} {body : List Stmt} {it : IT} {i : Nat} {ib : List IS} (hp : PassesOwn (model X.prog X.w) X.A X.env X.xe) (hc : X.calm = true) (hx : PE X (.Name x p0) (tVar i)) (hg : PG X tg (rdG ad X it)) (hb : ∀ σ0, SB ad X W ⟨i :: P.pr, σ0⟩ body (evB cf ib))
    (hj : ∀ j ∈ it.slots, j ∉ P.pr) (hj2 : i ∉ it.slots) : SS ad X W P (.For tg (.Name x p0) body [] pos) (evS cf (.forv it i ib)) := by
  have hb' : PSs X body (fun D σ H => ∃ σ0, rdS ad X W ⟨i :: P.pr, σ0⟩ (evB cf ib) D σ H) := ⟨fun pins s σ H D I ⟨σ0, q⟩ => (hb σ0).run pins s σ H D I q⟩
  refine (ps_for hp hc (pi_list hx) hg hb' (fun _ => rfl)).imp fun D σ H ⟨ρ, G, c, kp, sl, hh, h⟩ => ?_
  simp only [evS] at h
  cases en : lenAt ρ i with
  | none => rw [en] at h; exact h.elim
  | some n =>
    rw [en] at h
    change AftS ad X.K W P D G c H (forV (turnF cf it ib) i n n ρ) at h
    obtain ⟨a, vs0, hσ, hs0⟩ := len_start sl hh en
    refine ⟨_, hσ, a, rfl, ⟨vs0, hs0⟩, ?_⟩
    have hk : ∀ σ', (Pt.mk (i :: P.pr) σ).kp σ' → P.kp σ' := fun σ' k => ⟨k.len.trans kp.len, fun j hj => (k.at_ j (List.mem_cons_of_mem _ hj)).trans (kp.at_ j hj)⟩
    refine ⟨fun j m σ' H' => m = n - j ∧ j ≤ n ∧ ∃ ρ' G' c', (Pt.mk (i :: P.pr) σ).kp σ' ∧ Slots ad X.K G' ρ' σ' c' ∧ Hold G' c' H' ∧ AftS ad X.K W ⟨i :: P.pr, σ⟩ D G' c' H' (forV (turnF cf it ib) i n (n - j) ρ'), ⟨_, rfl, Nat.zero_le _, ρ, G, c, Keep.refl _ _, sl, hh, h.keep hk⟩, ?_⟩
    rintro j m σ' H' ⟨rfl, hjn, ρ', G', c', kp', sl', hh', a'⟩
    have hw : σ'[i]? = some (some (.ref a)) := by rw [kp'.at_ i List.mem_cons_self]; exact hσ
    by_cases hlt : j < n
    · obtain ⟨k, hk1⟩ : ∃ k, n - j = k + 1 := ⟨n - j - 1, by omega⟩
      have hjk : n - (k + 1) = j := by omega
      have hk2 : n - (j + 1) = k := by omega
      rw [hk1] at a'
      simp only [forV] at a'
      rw [hjk] at a'
      cases ev : vwAt ρ' i n j with
      | none => rw [ev] at a'; exact a'.elim
      | some p =>
        rw [ev] at a'
        obtain ⟨vs, v, q1, q2, q3⟩ := view_at sl' hh' hw ev
        refine .inr ⟨⟨vs, v, q1, q2⟩, fun σ2 H2 => ∃ ρ2 G2 c2, (Pt.mk (i :: P.pr) σ).kp σ2 ∧ Slots ad X.K G2 ρ2 σ2 c2 ∧ Hold G2 c2 H2 ∧ AftS ad X.K W ⟨i :: P.pr, σ⟩ D G2 c2 H2 (forV (turnF cf it ib) i n (n - (j + 1)) ρ2), fun σ2 H2 hv2 => ⟨_, by omega, rfl, hlt, hv2⟩, fun y H'' hy => ?_⟩
        obtain ⟨eh, hx'⟩ := hy
        subst eh
        have hx2 := hx' vs q1
        rw [q2] at hx2
        cases hx2
        cases e1 : asg it p ρ' with
        | none =>
          have e : turnF cf it ib p ρ' = .bad := by unfold turnF; rw [e1]
          dsimp only at a'
          rw [e] at a'; exact a'.elim
        | some ρ2 =>
          have e : turnF cf it ib p ρ' = evB cf ib ρ2 := by unfold turnF; rw [e1]
          dsimp only at a'
          rw [e] at a'
          refine ⟨ρ', G', c', p, ρ2, sl', hh', q3, e1, fun σ2 c2 sl2 ⟨g, pm⟩ to => ⟨σ, ?_⟩⟩
          have hh2 := (hh'.perm pm).right
          have st2 : Step G' c' H'' G' c2 H'' := ((Step.refl (c := c')).perm (List.Perm.refl _) pm).less fun z hz => List.mem_append_right _ hz
          have kp2 : (Pt.mk (i :: P.pr) σ).kp σ2 := kp'.touch to fun l hl z => by
            rcases List.mem_cons.mp z with z | z
            · subst z; exact hj2 hl
            · exact hj l hl z
          exact ⟨ρ2, G', c2, kp2, sl2, hh2, aft_turn (a'.go st2 hh2) fun σ4 H4 G4 c4 ρ4 kp4 s4 sl4 h4 a4 => ⟨ρ4, G4, c4, kp4, sl4, h4, by rw [hk2]; exact a4.go s4 h4⟩⟩
    · have e : j = n := by omega
      subst e
      rw [Nat.sub_self] at a'
      simp only [forV] at a'
      by_cases hl : vwLen ρ' i j = true
      · rw [if_pos hl] at a'
        obtain ⟨vs, q1, q2⟩ := view_len sl' hh' hw hl
        exact .inl ⟨⟨vs, q1, by omega⟩, a'.nx kp' sl' hh'⟩
      · rw [if_neg hl] at a'
        exact a'.elim
end
end Y
end
section
set_option Elab.async false
set_option linter.all false
set_option maxRecDepth 100000
set_option maxHeartbeats 2000000
set_option autoImplicit false
/-! Y10: statements that write: append, extend, an item, several names at once. -/
namespace Y
open PySem L2
variable {ad : Str → Addr} {K : PySem.W.Frag} {G G' G1 G2 H H' H1 H2 : Hp}
theorem RepL.setG : ∀ (i : Nat) {p : List PV} {v : List V} {c : List Cell} {x : PV} {w : V}, RepL ad K G p v c → Rep ad K G x w [] → ∃ g d, RepL ad K G (p.set i x) (v.set i w) d ∧ c.Perm (g ++ d)
  | _, _, _, _, _, _, .nil, _ => ⟨[], [], .nil, List.Perm.refl _⟩
  | 0, _, _, _, _, _, .cons (c := c) (cs := cs) r t, q => ⟨c, cs, by simpa using RepL.cons (c := []) q t, List.Perm.refl _⟩
  | i + 1, _, _, _, _, _, .cons (c := c) (cs := cs) r t, q => by
    obtain ⟨g, d, h, e⟩ := RepL.setG i t q
    refine ⟨g, c ++ d, .cons r h, ?_⟩
    refine (e.append_left c).trans ?_
    rw [← List.append_assoc, ← List.append_assoc]
    exact List.perm_append_comm.append_right d
/-- a list that is held alone in a slot is written -/
theorem write_slot {σ : St} {ρ : Fr} {c : List Cell} {i : Nat} {xs : List PV} (sl : Slots ad K G ρ σ c) (hh : Hold G c H) (e : ρ.at i = some (.lst true xs)) :
    ∃ l vs d, σ[i]? = some (some (.ref l)) ∧ H l = some (.lst vs) ∧ RepL ad K G xs vs d ∧ ∀ ys ws d2 g, RepL ad K G ys ws d2 → d.Perm (g ++ d2) →
      ∃ c2, Slots ad K G (ρ.set i (some (.lst true ys))) σ c2 ∧ Hold G c2 (upd H l (.lst ws)) ∧ Step G c H G c2 (upd H l (.lst ws)) := by
  obtain ⟨v, d, r, e1, e2, e3, e4⟩ := sl.out e
  cases e2 with
  | @lstO l _ vs cs r1 =>
    have hc : c.Perm ((l, HO.lst vs) :: (cs ++ r)) := e4
    have h1 := hh.perm hc
    refine ⟨l, vs, cs, e1, h1.at_ (l, HO.lst vs) List.mem_cons_self, r1, fun ys ws d2 g r2 pm => ?_⟩
    obtain ⟨w1, w2⟩ := h1.write (.lst ws)
    obtain ⟨c2, s2, p2⟩ := e3.put (i := i) at_set_none (by simpa using at_lt e) (.lstO r2 : Rep ad K G (.lst true ys) (.ref l) ((l, .lst ws) :: d2))
    rw [set_set_none, set_same e1] at s2
    have pm2 : ((l, HO.lst ws) :: (cs ++ r)).Perm (g ++ c2) := by
      refine List.Perm.trans ?_ (p2.symm.append_left g)
      refine List.Perm.trans (List.Perm.cons _ (pm.append_right r)) ?_
      rw [List.append_assoc]
      exact List.perm_middle.symm
    refine ⟨c2, s2, (w1.perm pm2).right, ?_⟩
    have st : Step G c H G ((l, HO.lst ws) :: (cs ++ r)) (upd H l (.lst ws)) := w2.perm hc.symm (List.Perm.refl _)
    exact (st.perm (List.Perm.refl _) pm2).less fun z hz => List.mem_append_right _ hz
section
variable {X : Cx} {W : WX} {P : Pt} {cf : Cf} {pos : Pos} {D : Ends}
/-- the slot's list, as a type -/
theorem isLst_ty {σ : St} {ρ : Fr} {c : List Cell} {i : Nat} (sl : Slots ad K G ρ σ c) (hh : Hold G c H) (e : isLst (ρ.at i) = true) : ∃ v, σ[i]? = some (some v) ∧ tyV K "list" v H := by
  cases e0 : ρ.at i with
  | none => rw [e0] at e; cases e
  | some p =>
    rw [e0] at e
    cases p with
    | lst o xs =>
      obtain ⟨v, d, r, e1, e2, e3, e4⟩ := sl.out e0
      refine ⟨v, e1, ?_⟩
      have vw : Vw ad K G c (.lst o xs) v := ⟨d, e2, fun z hz => e4.symm.mem_iff.mp (List.mem_append_left _ hz)⟩
      obtain ⟨a, vs, d', rfl, h1, _, _⟩ := vw.lst hh
      exact .inl ⟨rfl, vs, .of h1⟩
    | _ => cases e
theorem rd_app {i : Nat} {ie : IE} {σ : St} {H : Hp} (hq : rdS ad X W P (evS cf (.app i ie)) D σ H) : tDrop (tBM X.K "list" rAppend (tVar i) (tCons (rd ad X W (RelP ad X.K) (evE cf ie)) tNil)) D σ H := by
  obtain ⟨ρ, G, c, kp, sl, hh, h⟩ := hq
  simp only [evS] at h
  split at h
  case isFalse => exact h.elim
  rename_i ty
  obtain ⟨v, e1, tv⟩ := isLst_ty sl hh ty
  refine ⟨v, e1, tv, ρ, G, c, sl, hh, AftS.seq kp h fun p ρ1 w H1 G1 c1 t s1 sl1 h1 r1 k1 => ?_⟩
  cases e : ρ1.at i with
  | none => rw [e] at k1; exact k1.elim
  | some q =>
    rw [e] at k1
    cases q with
    | lst o xs =>
      cases o with
      | false => exact k1.elim
      | true =>
        dsimp only at k1
        split at k1
        case isFalse => exact k1.elim
        rename_i hl
        have h1' := h1.absorb
        have k2 := k1.go (s1.absorb h1) h1'
        obtain ⟨l, vs, d, f1, f2, f3, f4⟩ := write_slot (sl1.mono (addc_sub h1.right)) h1' e
        rw [e1] at f1
        cases f1
        obtain ⟨c2, q1, q2, q3⟩ := f4 (xs ++ [p.frz]) (vs ++ [w]) d [] (by simpa using f3.append (RepL.cons (c := []) (cs := []) (Rep.absorb h1 r1) .nil)) (List.Perm.refl _)
        exact ⟨l, vs, w, rfl, rfl, f2, by rw [← f3.length]; exact hl, k2 σ _ _ c2 kp q3 q1 q2⟩
    | _ => exact k1.elim
theorem rd_ext {i : Nat} {ie : IE} {σ : St} {H : Hp} (hq : rdS ad X W P (evS cf (.ext i ie)) D σ H) : tDrop (tBM X.K "list" rExtend (tVar i) (tCons (rd ad X W (RelP ad X.K) (evE cf ie)) tNil)) D σ H := by
  obtain ⟨ρ, G, c, kp, sl, hh, h⟩ := hq
  simp only [evS] at h
  split at h
  case isFalse => exact h.elim
  rename_i ty
  obtain ⟨v, e1, tv⟩ := isLst_ty sl hh ty
  refine ⟨v, e1, tv, ρ, G, c, sl, hh, AftS.seq kp h fun p ρ1 w H1 G1 c1 t s1 sl1 h1 r1 k1 => ?_⟩
  cases e : ρ1.at i with
  | none => rw [e] at k1; exact k1.elim
  | some q =>
    rw [e] at k1
    cases q with
    | lst o xs =>
      cases o with
      | false => exact k1.elim
      | true =>
        have h1' := h1.absorb
        have k2 := k1.go (s1.absorb h1) h1'
        have rp := Rep.absorb h1 r1
        have hfz := PV.frz_fz p
        cases ep : p.frz with
        | lst o ys =>
          rw [ep] at k2 rp hfz
          dsimp only at k2
          split at k2
          case isFalse => exact k2.elim
          rename_i hl
          have ho : o = false := by simpa [PV.fz] using (Bool.and_eq_true_iff.mp (show (!o && PV.fzL ys) = true from hfz)).1
          subst ho
          obtain ⟨b, ws, rfl, g1, g2⟩ : ∃ b ws, w = .ref b ∧ addc G1 t b = some (.lst ws) ∧ RepL ad X.K (addc G1 t) ys ws [] := by
            generalize ez : ([] : List Cell) = z at rp
            cases rp with
            | lstF g3 r3 => subst ez; exact ⟨_, _, rfl, g3, r3⟩
          obtain ⟨l, vs, d, f1, f2, f3, f4⟩ := write_slot (sl1.mono (addc_sub h1.right)) h1' e
          rw [e1] at f1
          cases f1
          obtain ⟨c2, q1, q2, q3⟩ := f4 (xs ++ ys) (vs ++ ws) d [] (by simpa using f3.append g2) (List.Perm.refl _)
          have hb := h1'.fz _ _ g1
          exact ⟨l, b, vs, ws, rfl, rfl, f2, hb, by rw [← f3.length, ← g2.length]; exact hl, k2 σ _ _ c2 kp q3 q1 q2⟩
        | _ => rw [ep] at k2; exact k2.elim
    | _ => exact k1.elim
theorem rd_sub {i : Nat} {ix ie : IE} {σ : St} {H : Hp} (hq : rdS ad X W P (evS cf (.sub i ix ie)) D σ H) : tAsg (rd ad X W (RelP ad X.K) (evE cf ie)) (gSub (tVar i) (rd ad X W (RelO ad X.K) (opnd ix (evE cf ix))) rSetL) D σ H := by
  obtain ⟨ρ, G, c, kp, sl, hh, h⟩ := hq
  simp only [evS] at h
  refine ⟨ρ, G, c, sl, hh, h.seq kp fun p ρ1 w H1 G1 c1 t s1 sl1 h1 r1 k1 => ?_⟩
  have h1' := h1.absorb
  have k1' := k1.go (s1.absorb h1) h1'
  have sl1' := sl1.mono (addc_sub h1.right)
  have rp := Rep.absorb h1 r1
  split at k1'
  case isFalse => exact k1'.elim
  rename_i ty
  obtain ⟨v, e1, tv⟩ := isLst_ty sl1' h1' ty
  · refine ⟨v, e1, ρ1, addc G1 t, c1, sl1', h1', AftS.seq (R := RelO ad X.K) kp k1' fun o ρ2 y H2 G2 c2 t2 s2 sl2 h2 ⟨et, hv⟩ k2 => ?_⟩
    subst et
    have h2' := nilH h2
    have k2' := k2.go0 s2 h2
    cases e : ρ2.at i with
    | none => rw [e] at k2'; exact k2'.elim
    | some q =>
      rw [e] at k2'
      cases q with
      | lst o' xs =>
        cases o' with
        | false => exact k2'.elim
        | true =>
          cases ey : rsv ρ2 o with
          | none => rw [ey] at k2'; exact k2'.elim
          | some pj =>
            rw [ey] at k2'
            cases pj with
            | int k =>
              dsimp only at k2'
              cases ej : L2.ixN xs.length k with
              | none => rw [ej] at k2'; exact k2'.elim
              | some j =>
                rw [ej] at k2'
                obtain rfl := (hv.vw sl2 ey).int
                obtain ⟨l, vs, d, f1, f2, f3, f4⟩ := write_slot sl2 h2' e
                rw [e1] at f1
                cases f1
                obtain ⟨g, d2, r2, pm⟩ := f3.setG j (rp.mono s2.fz)
                obtain ⟨c3, q1, q2, q3⟩ := f4 _ _ d2 g r2 pm
                exact ⟨l, vs, k, j, rfl, rfl, f2, by rw [← f3.length]; exact ej, k2' σ _ _ c3 kp q3 q1 q2⟩
            | _ => exact k2'.elim
      | _ => exact k2'.elim
/-- several slots at once -/
def setL : List Nat → List V → St → St
  | i :: is, v :: vs, σ => setL is vs (σ.set i (some v))
  | _, _, σ => σ
theorem put_all {c : List Cell} : ∀ {is : List Nat} {ps : List PV} {vs : List V} {ρ ρ2 : Fr} {σ : St} {c1 t : List Cell}, (∀ j ∈ is, j ∉ P.pr) → putL is ps ρ = some ρ2 → P.kp σ → Step G c H G1 (c1 ++ t) H1 → Slots ad K G1 ρ σ c1 → Hold G1 (c1 ++ t) H1 → RepL ad K G1 ps vs t →
    ∃ c2, P.kp (setL is vs σ) ∧ Step G c H G1 c2 H1 ∧ Slots ad K G1 ρ2 (setL is vs σ) c2 ∧ Hold G1 c2 H1
  | [], [], _, ρ, ρ2, σ, c1, t, hi, e, kp, s, sl, hh, r => by
    obtain ⟨rfl, rfl⟩ := r.nil'
    cases e
    exact ⟨c1, kp, nilL s, sl, nilH hh⟩
  | [], _ :: _, _, ρ, ρ2, σ, c1, t, hi, e, kp, s, sl, hh, r => by simp [putL] at e
  | _ :: _, [], _, ρ, ρ2, σ, c1, t, hi, e, kp, s, sl, hh, r => by simp [putL] at e
  | i :: is, p :: ps, _, ρ, ρ2, σ, c1, t, hi, e, kp, s, sl, hh, r => by
    cases r with
    | @cons _ _ v vs t1 t2 r1 r2 =>
      simp only [putL] at e
      split at e
      case isFalse => cases e
      rename_i hl
      obtain ⟨d, c2, sl2, pm⟩ := sl.set hl r1
      have pm' : (c1 ++ (t1 ++ t2)).Perm (d ++ (c2 ++ t2)) := by
        rw [← List.append_assoc, ← List.append_assoc]
        exact (List.perm_append_comm.trans pm).append_right t2
      exact put_all (is := is) (fun k hk => hi k (List.mem_cons_of_mem _ hk)) e (kp.set (hi i List.mem_cons_self)) ((s.perm (List.Perm.refl _) pm').less fun z hz => List.mem_append_right _ hz) sl2 (hh.perm pm').right r2
theorem putL_len : ∀ {is : List Nat} {ps : List PV} {ρ ρ2 : Fr}, putL is ps ρ = some ρ2 → ps.length = is.length
  | [], [], _, _, _ => rfl
  | [], _ :: _, _, _, h => by simp [putL] at h
  | _ :: _, [], _, _, h => by simp [putL] at h
  | i :: is, p :: ps, ρ, ρ2, h => by
    simp only [putL] at h
    split at h
    · simp [putL_len h]
    · cases h
theorem rd_par {is : List Nat} {ies : List IE} {σ : St} {H : Hp} (hi : ∀ j ∈ is, j ∉ P.pr) (hq : rdS ad X W P (evS cf (.par is ies)) D σ H) : rd ad X W (RelL ad X.K) (evL cf ies) σ H fun vs H1 => vs.length = is.length ∧ D.nx (setL is vs σ) H1 := by
  obtain ⟨ρ, G, c, kp, sl, hh, h⟩ := hq
  simp only [evS] at h
  refine ⟨ρ, G, c, sl, hh, AftS.seq (R := RelL ad X.K) kp h fun ps ρ1 vs H1 G1 c1 t s1 sl1 h1 r1 k1 => ?_⟩
  have r1' : RepL ad X.K G1 ps vs t := r1
  cases e : putL is ps ρ1 with
  | none => rw [e] at k1; exact k1.elim
  | some ρ2 =>
    rw [e] at k1
    obtain ⟨c2, q1, q2, q3, q4⟩ := put_all hi e kp s1 sl1 h1 r1'
    exact ⟨by rw [← r1'.length]; exact putL_len e, k1 _ H1 G1 c2 q1 q2 q3 q4⟩
theorem rd_par2 {i j : Nat} {ies : List IE} {σ : St} {H : Hp} (hi : ∀ k ∈ [i, j], k ∉ P.pr) (hq : rdS ad X W P (evS cf (.par [i, j] ies)) D σ H) : tPar i j (rd ad X W (RelL ad X.K) (evL cf ies)) D σ H :=
  rd_imp (rd_par hi hq) fun vs H1 ⟨hl, h⟩ => by
    match vs, hl with
    | [v, w], _ => exact ⟨v, w, rfl, h⟩
theorem rd_par3 {i j k : Nat} {ies : List IE} {σ : St} {H : Hp} (hi : ∀ l ∈ [i, j, k], l ∉ P.pr) (hq : rdS ad X W P (evS cf (.par [i, j, k] ies)) D σ H) : tPar3 i j k (rd ad X W (RelL ad X.K) (evL cf ies)) D σ H :=
  rd_imp (rd_par hi hq) fun vs H1 ⟨hl, h⟩ => by
    match vs, hl with
    | [u, v, w], _ => exact ⟨u, v, w, rfl, h⟩
end
end Y
end
section
set_option Elab.async false
set_option linter.all false
set_option maxRecDepth 100000
set_option maxHeartbeats 2000000
set_option autoImplicit false
/-! Y11: a def keeps what the evaluator says of it. -/
namespace Y
open PySem L2
variable {ad : Str → Addr} {K : PySem.W.Frag} {G G' G1 G2 H H' H1 H2 : Hp}
theorem Slots.take : ∀ (n : Nat) {ρ : Fr} {σ : St} {c : List Cell}, Slots ad K G ρ σ c → ∃ g c', Slots ad K G (ρ.take n) (σ.take n) c' ∧ c.Perm (g ++ c')
  | 0, _, _, c, _ => ⟨c, [], by simpa using Slots.nil, by simp⟩
  | n + 1, _, _, _, .nil => ⟨[], [], .nil, List.Perm.refl _⟩
  | n + 1, _, _, _, .none t => by
    obtain ⟨g, c', h, e⟩ := Slots.take n t
    exact ⟨g, c', .none h, e⟩
  | n + 1, _, _, _, .some (c := c) (cs := cs) r t => by
    obtain ⟨g, c', h, e⟩ := Slots.take n t
    refine ⟨g, c ++ c', .some r h, ?_⟩
    refine (e.append_left c).trans ?_
    rw [← List.append_assoc, ← List.append_assoc]
    exact List.perm_append_comm.append_right c'
theorem maskF_nil (ls : List Bool) : maskF ls [] = [] := by cases ls <;> rfl
theorem maskF_cons (ls : List Bool) (x : Option PV) (r : Fr) : maskF ls (x :: r) = (if ls.headD false then x else none) :: maskF ls.tail r := by cases ls <;> rfl
theorem Slots.mask : ∀ {ρ : Fr} {σ : St} {c : List Cell}, Slots ad K G ρ σ c → ∀ ls : List Bool, ∃ g c', Slots ad K G (maskF ls ρ) σ c' ∧ c.Perm (g ++ c')
  | _, _, _, .nil, ls => ⟨[], [], by rw [maskF_nil]; exact .nil, List.Perm.refl _⟩
  | _, _, _, .none t, ls => by
    obtain ⟨g, c', h, e⟩ := Slots.mask t ls.tail
    rw [maskF_cons]
    refine ⟨g, c', ?_, e⟩
    rw [show (if ls.headD false = true then Option.none else Option.none) = (Option.none : Option PV) from by split <;> rfl]
    exact .none h
  | _, _, _, .some (c := c) (cs := cs) r t, ls => by
    obtain ⟨g, c', h, e⟩ := Slots.mask t ls.tail
    rw [maskF_cons]
    cases ls.headD false with
    | true =>
      refine ⟨g, c ++ c', by rw [if_pos rfl]; exact .some r h, ?_⟩
      refine (e.append_left c).trans ?_
      rw [← List.append_assoc, ← List.append_assoc]
      exact List.perm_append_comm.append_right c'
    | false =>
      refine ⟨c ++ g, c', by rw [if_neg Bool.false_ne_true]; exact .none h, ?_⟩
      rw [List.append_assoc]
      exact e.append_left c
theorem maskF_at : ∀ {ρ : Fr} {ls : List Bool} {i : Nat} {p : PV}, Fr.at (maskF ls ρ) i = some p → ls.getD i false = true
  | [], ls, i, p, h => by rw [maskF_nil] at h; simp [Fr.at] at h
  | x :: r, [], 0, p, h => by rw [maskF_cons, at_cons_zero] at h; simp at h
  | x :: r, b :: bs, 0, p, h => by
    rw [maskF_cons, at_cons_zero] at h
    cases b with
    | true => rfl
    | false => simp at h
  | x :: r, [], i + 1, p, h => by
    rw [maskF_cons, at_cons_succ] at h
    have := maskF_at (ls := []) h
    simpa using this
  | x :: r, b :: bs, i + 1, p, h => by
    rw [maskF_cons, at_cons_succ] at h
    have := maskF_at (ls := bs) h
    simpa using this
theorem slots_none : ∀ n : Nat, Slots ad K G (List.replicate n none) (List.replicate n none) []
  | 0 => .nil
  | n + 1 => .none (slots_none n)
theorem slots_start : ∀ {ps : List PV} {vs : List V} {c : List Cell} (n : Nat), RepL ad K G ps vs c → Slots ad K G (ps.map some ++ List.replicate n none) (vs.map some ++ List.replicate n none) c
  | _, _, _, n, .nil => slots_none n
  | _, _, _, n, .cons r t => .some r (slots_start n t)
/-- the parameters that the def never stores -/
def protOf (d : Fd) : List Nat := (List.range d.ps).filter fun i => d.lend.getD i false
/-- the parameters' slots behind the body -/
theorem end_slots {d : Fd} {ρ : Fr} {σ σ0 : St} {c : List Cell} {vs : List V} (hv : vs.length = d.ps) (h0 : σ0 = vs.map some ++ List.replicate (d.n - d.ps) none) (kp : Keep (protOf d) σ0 σ) (sl : Slots ad K G ρ σ c) :
    ∃ g c', Slots ad K G (maskF d.lend (ρ.take d.ps)) (vs.map some) c' ∧ c.Perm (g ++ c') := by
  obtain ⟨g, c1, s1, p1⟩ := sl.take d.ps
  obtain ⟨g2, c2, s2, p2⟩ := s1.mask d.lend
  have hlen : σ.length = σ0.length := kp.len
  refine ⟨g ++ g2, c2, s2.congr ?_ fun i p e => ?_, ?_⟩
  · rw [List.length_map, List.length_take, hlen, h0, List.length_append, List.length_map, hv]
    omega
  · have hl := maskF_at e
    have hi : i < d.ps := by
      have h1 := at_lt e
      have h2 := s2.length
      rw [h2, List.length_take] at h1
      omega
    have hm : i ∈ protOf d := List.mem_filter.mpr ⟨List.mem_range.mpr hi, hl⟩
    have := kp.at_ i hm
    rw [List.getElem?_take_of_lt hi, this, h0, List.getElem?_append_left (by rw [List.length_map, hv]; exact hi)]
  · refine p1.trans ?_
    rw [List.append_assoc]
    exact p2.append_left g
section
variable {P : Program} {w : World} {mg : Str → Option Value} {base : Heap}
theorem runF_len {cf : Cf} {d : Fd} {as : List PV} (h : as.length ≠ d.ps) : runF cf d as = .bad := by unfold runF; rw [if_neg h]
/-- a def's promise, by the evaluator's run of its body -/
theorem fn_run {cf : Cf} {d : Fd} {x qual : Str} {st : Stmt} {f : Addr} {fd : FuncData} {N ps : List Str} {k : Nat} (F : Fun K x qual st f fd) (S : FnScope N ps (defScope st)) (hn : d.n = N.length) (hps : d.ps = ps.length)
    (hb : ∀ (X : Cx) (cdv : Value) (A : Around) (outer : List Env) (s : Shared) (H : Hp) (vs : List V) (E : XK), X = cxOf (L2.CX P w) P w K mg base N qual (defScope st) f cdv A outer s H E → Room k X.A → Takes X (fun cls d _ H => E cls d H) → PassesOwn (model X.prog X.w) X.A X.env X.xe →
      PSs X (defBody st) (rdS ad X (fun cls d _ H => E cls d H) ⟨protOf d, L2.start N vs⟩ (evB cf d.body))) : FnOk P w K mg base (L2.CX P w) (k + 1) f fd ps (SpOf ad K (runF cf d)) := by
  have len : ∀ vs H Q E, SpOf ad K (runF cf d) vs H Q E → vs.length = ps.length := fun vs H Q E ⟨as, G, c, r, hh, a⟩ => by
    by_cases hl : as.length = d.ps
    · rw [← r.length, hl, hps]
    · rw [runF_len hl] at a
      exact a.elim
  refine F.okX S len fun cdv A outer s H vs Q E hr hsp => ?_
  have hl := len _ _ _ _ hsp
  obtain ⟨as, G, c, r, hh, a⟩ := hsp
  have hla : as.length = d.ps := by rw [r.length, hl, hps]
  refine ⟨_, hb _ cdv A outer s H vs E rfl hr (takes_of rfl rfl rfl rfl) (passes_of rfl), ?_⟩
  have h0 : L2.start N vs = vs.map some ++ List.replicate (d.n - d.ps) none := by
    rw [L2.start, hn, hps, hl]
  refine ⟨as.map some ++ List.replicate (d.n - d.ps) none, G, c, Keep.refl _ _, by rw [h0]; exact slots_start _ r, hh, ?_⟩
  unfold runF at a
  rw [if_pos hla] at a
  cases e : evB cf d.body (as.map some ++ List.replicate (d.n - d.ps) none) with
  | bad => rw [e] at a; exact a.elim
  | ex y ρ =>
    rw [e] at a
    intro dd σ' H' G' c' kp s' sl h' hx
    obtain ⟨g, c2, s2, p2⟩ := end_slots (by rw [hl, hps]) h0 kp sl
    exact a dd H' G' c2 ((s'.perm (List.Perm.refl _) p2).less fun z hz => List.mem_append_right _ hz) s2 (h'.perm p2).right hx
  | ok f ρ =>
    rw [e] at a
    cases f with
    | bk => exact a.elim
    | ct => exact a.elim
    | nx =>
      intro σ' H' G' c' kp s' sl h'
      obtain ⟨g, c2, s2, p2⟩ := end_slots (by rw [hl, hps]) h0 kp sl
      exact a .non H' G' c2 [] (toL ((s'.perm (List.Perm.refl _) p2).less fun z hz => List.mem_append_right _ hz)) s2 (toH (h'.perm p2).right) .non
    | rt p =>
      intro v σ' H' G' c' t kp s' sl h' hr'
      obtain ⟨g, c2, s2, p2⟩ := end_slots (by rw [hl, hps]) h0 kp sl
      have p3 : (c' ++ t).Perm (g ++ (c2 ++ t)) := by
        rw [← List.append_assoc]
        exact p2.append_right t
      exact a v H' G' c2 t ((s'.perm (List.Perm.refl _) p3).less fun z hz => List.mem_append_right _ hz) s2 (h'.perm p3).right hr'
end
end Y
end
section
set_option Elab.async false
set_option linter.all false
set_option maxRecDepth 100000
set_option maxHeartbeats 4000000
set_option autoImplicit false
/-! Y12: a checker: does this expression of the text stand for that expression of the small language? -/
namespace Y
open PySem L2
/-- what a global name stands for -/
inductive GE where
  | fn (k : Str)
  | cst (p : PV)
/-- what the checker knows of a block -/
structure Sc where
  N : List Str
  scope : Scope
  fnS : Str → Bool
  gl : List (Str × GE)
  bl : List Str
  lend : Str → List Bool
  pr : List Nat
def GlOk (ad : Str → Addr) (X : Cx) (cf : Cf) (x : Str) : GE → Prop
  | .fn k => ∃ kk fd ps, FnOk X.prog X.w X.K X.mg X.base (L2.CX X.prog X.w) kk (ad k) fd ps (SpOf ad X.K (cf.call k)) ∧ Room kk X.A ∧ X.mg x = some (.ref (ad k)) ∧ PySem.W.keepIn X.K (.ref (ad k)) = true ∧ Binds X.K fd ps []
  | .cst p => ∃ u v, X.mg x = some u ∧ RelV v u ∧ ∀ G, Rep ad X.K G p v []
structure Good (ad : Str → Addr) (X : Cx) (W : WX) (cf : Cf) (sc : Sc) : Prop where
  hN : X.N = sc.N
  nd : X.N.Nodup
  hsc : X.env.scope = sc.scope
  hfn : ∀ x, sc.fnS x = true → X.fn x = true
  calm : X.calm = true
  hu : X.A.units + 65 < cLine
  tk : Takes X W
  blt : ∀ x ∈ sc.bl, X.mg x = none
  glob : ∀ x g, sc.gl.lookup x = some g → GlOk ad X cf x g
  lend : cf.lend = sc.lend
variable {ad : Str → Addr}

/-! ### names -/
def visC (sc : Sc) (x : Str) : Bool := match sc.scope.names.lookup x with
  | some .local => true
  | some .cell => true
  | some .free => true
  | _ => false
def nameC (sc : Sc) (x : Str) (i : Nat) : Bool := decide (sc.N[i]? = some x) && visC sc x && !(x == ("__debug__" : Str)) && !(x == ("__classdict__" : Str))
def globC (sc : Sc) (x : Str) : Bool := decide (sc.scope.names.lookup x = some .globalImplicit) && !(x == ("__debug__" : Str)) && decide (x ≠ ("__name__" : Str))
def bltC (sc : Sc) (x : Str) (y : Str) : Bool := decide (x = y) && globC sc x && sc.bl.contains x
def plainE : Expr → Bool
  | .Starred _ _ => false
  | _ => true
def plainEs : List Expr → Bool
  | [] => true
  | e :: r => plainE e && plainEs r
/-- an expression whose test is its value's -/
def valueE : Expr → Bool
  | .Name _ _ => true
  | .Call _ _ _ _ => true
  | .Subscript _ _ _ => true
  | .Attribute _ _ _ => true
  | .Constant _ _ _ => true
  | .List _ _ => true
  | .Tuple _ _ _ => true
  | .ListComp _ _ _ _ => true
  | .BinOp _ _ _ _ => true
  | _ => false
theorem valueE_true {e : Expr} (h : valueE e = true) (env : Env) (whole : Sem Value) : isTrue e env whole = (do let v ← whole; standAt e.pos; holding [v] (truthy v)) := by
  cases e <;> first
    | rfl
    | cases h
theorem star_cons {e : Expr} {es : List Expr} (h : plainE e = true) (env : Env) : starEach (e :: es) env = (false, eval e env) :: starEach es env := by
  cases e <;> first
    | rfl
    | cases h
theorem back_plain {pos : Pos} {env : Env} : ∀ {es : List Expr}, plainEs es = true → (backTo pos (starEach es env)).any (·.1) = false
  | [], _ => rfl
  | e :: es, h => by
    unfold plainEs at h
    rw [Bool.and_eq_true] at h
    rw [star_cons h.1]
    have := back_plain (pos := pos) (env := env) h.2
    unfold backTo at this ⊢
    rw [List.map_cons, List.any_cons, this]
    rfl
theorem all_plain {pos : Pos} {env : Env} : ∀ {es : List Expr}, plainEs es = true → (backTo pos (starEach es env)).all (fun x => !x.1) = true
  | [], _ => rfl
  | e :: es, h => by
    unfold plainEs at h
    rw [Bool.and_eq_true] at h
    rw [star_cons h.1]
    have := all_plain (pos := pos) (env := env) h.2
    unfold backTo at this ⊢
    rw [List.map_cons, List.all_cons, this]
    rfl
section
variable {X : Cx} {W : WX} {cf : Cf} {sc : Sc} {pos : Pos}
theorem Good.vis (g : Good ad X W cf sc) {x : Str} (h : visC sc x = true) : Vis X.env.scope x := by
  rw [g.hsc]
  unfold visC at h
  split at h
  · exact .inl (by assumption)
  · exact .inr (.inl (by assumption))
  · exact .inr (.inr (by assumption))
  · cases h
theorem Good.name (g : Good ad X W cf sc) {x : Str} {i : Nat} (h : nameC sc x i = true) : PE X (.Name x pos) (tVar i) := by
  unfold nameC at h
  simp only [Bool.and_eq_true, decide_eq_true_eq, Bool.not_eq_true'] at h
  obtain ⟨⟨⟨h1, h2⟩, h3⟩, h4⟩ := h
  exact pe_var (by rw [g.hN]; exact h1) (g.vis h2) h3 h4
theorem Good.gl (g : Good ad X W cf sc) {x : Str} (h : globC sc x = true) : Gl X x ∧ (x == ("__debug__" : Str)) = false ∧ x ≠ ("__name__" : Str) := by
  unfold globC at h
  simp only [Bool.and_eq_true, decide_eq_true_eq, Bool.not_eq_true'] at h
  refine ⟨?_, h.1.2, h.2⟩
  show X.env.scope.names.lookup x = _
  rw [g.hsc]
  exact h.1.1
theorem Good.bt (g : Good ad X W cf sc) {x y : Str} (h : bltC sc x y = true) : x = y ∧ Gl X x ∧ X.mg x = none ∧ (x == ("__debug__" : Str)) = false ∧ x ≠ ("__name__" : Str) := by
  unfold bltC at h
  simp only [Bool.and_eq_true, decide_eq_true_eq] at h
  obtain ⟨h1, h2, h3⟩ := g.gl h.1.2
  exact ⟨h.1.1, h1, g.blt x (List.contains_iff_mem.mp h.2), h2, h3⟩
end
/-- what is claimed of a pair: as a value, as a test -/
def Snd (ad : Str → Addr) : Bool → Sc → Expr → IE → Prop
  | false, sc, e, ie => ∀ X W cf, Good ad X W cf sc → SE ad X W e (evE cf ie)
  | true, sc, e, ie => ∀ X W cf, Good ad X W cf sc → ST ad X W e (evT cf ie (evE cf ie))
abbrev Rec := Bool → Sc → Expr → IE → Bool
abbrev RecOk (ad : Str → Addr) (rec : Rec) : Prop := ∀ m sc e ie, rec m sc e ie = true → Snd ad m sc e ie

/-! ### constants -/
def tyNames : List String := ["int", "str", "bool", "list", "tuple"]
def cstC (sc : Sc) : Expr → PV → Bool
  | .Constant (.int i) _ _, .int j => decide (i = j)
  | .Constant (.bool i) _ _, .bl j => decide (i = j)
  | .Constant .none _ _, .non => true
  | .Constant (.str i) _ _, .str j => decide (i = j)
  | .Name x _, .ty t => tyNames.contains t && bltC sc x (Str.ofString t)
  | .Name x _, .int j => globC sc x && (match sc.gl.lookup x with
    | some (.cst (.int i)) => decide (i = j)
    | _ => false)
  | .Name x _, .str j => globC sc x && (match sc.gl.lookup x with
    | some (.cst (.str i)) => decide (i = j)
    | _ => false)
  | .Name x _, .fn k => globC sc x && (match sc.gl.lookup x with
    | some (.fn k') => decide (k = k')
    | _ => false)
  | _, _ => false
theorem boot_ty : ∀ t ∈ tyNames, bootBuiltins (Str.ofString t) = some (.type t) := by decide +kernel
theorem cst_ok {sc : Sc} {e : Expr} {p : PV} (h : cstC sc e p = true) : Snd ad false sc e (.cst p) := fun X W cf g => by
  unfold cstC at h
  split at h
  · cases of_decide_eq_true h
    exact se_cst pe_int fun _ => .int _
  · cases of_decide_eq_true h
    exact se_cst pe_bl fun _ => .bl _
  · exact se_cst pe_non fun _ => .non
  · cases of_decide_eq_true h
    exact se_cst pe_str fun _ => .str _
  · rw [Bool.and_eq_true] at h
    obtain ⟨rfl, h1, h2, h3, h4⟩ := g.bt h.2
    exact se_cst (pe_bltn (v := .ty _) h1 h2 (boot_ty _ (List.contains_iff_mem.mp h.1)) rfl h4 h3) fun _ => .ty _
  · rw [Bool.and_eq_true] at h
    obtain ⟨h1, h2, h3⟩ := g.gl h.1
    have h := h.2
    split at h
    · rename_i i e
      cases of_decide_eq_true h
      obtain ⟨u, v, m, r, z⟩ := g.glob _ _ e
      exact se_cst (pe_glob h1 m r h2) z
    · cases h
  · rw [Bool.and_eq_true] at h
    obtain ⟨h1, h2, h3⟩ := g.gl h.1
    have h := h.2
    split at h
    · rename_i i e
      cases of_decide_eq_true h
      obtain ⟨u, v, m, r, z⟩ := g.glob _ _ e
      exact se_cst (pe_glob h1 m r h2) z
    · cases h
  · rw [Bool.and_eq_true] at h
    obtain ⟨h1, h2, h3⟩ := g.gl h.1
    have h := h.2
    split at h
    · rename_i i e
      cases of_decide_eq_true h
      obtain ⟨kk, fd, ps, F, hr, m, hk, hb⟩ := g.glob _ _ e
      exact se_cst (pe_glob (v := .ref (ad _)) h1 m rfl h2) fun _ => .fn _
    · cases h
  · cases h

/-! ### operands and lists -/
def opndC (rec : Rec) (sc : Sc) (e : Expr) : IE → Bool
  | .loc i => (match e with
    | .Name x _ => nameC sc x i
    | _ => false)
  | ie => rec false sc e ie
theorem opnd_ok {rec : Rec} (hr : RecOk ad rec) {sc : Sc} {e : Expr} {ie : IE} (h : opndC rec sc e ie = true) {X : Cx} {W : WX} {cf : Cf} (g : Good ad X W cf sc) : SO ad X W e (opnd ie (evE cf ie)) := by
  by_cases hl : isLoc ie = true
  · cases ie with
    | loc i =>
      simp only [opndC] at h
      split at h
      · exact so_loc (g.name h)
      · cases h
    | _ => cases hl
  · have hl : isLoc ie = false := by simpa using hl
    refine so_val hl ?_
    have h' : rec false sc e ie = true := by
      cases ie <;> first
        | exact h
        | cases hl
    exact hr _ _ _ _ h' X W cf g
def opndsC (rec : Rec) (sc : Sc) : List Expr → List IE → Bool
  | [], [] => true
  | e :: es, ie :: ies => plainE e && opndC rec sc e ie && opndsC rec sc es ies
  | _, _ => false
theorem opndsC_plain {rec : Rec} {sc : Sc} : ∀ {es : List Expr} {ies : List IE}, opndsC rec sc es ies = true → plainEs es = true
  | [], _, _ => rfl
  | e :: es, [], h => by cases h
  | e :: es, ie :: ies, h => by
    simp only [opndsC, Bool.and_eq_true] at h
    simp only [plainEs, Bool.and_eq_true]
    exact ⟨h.1.1, opndsC_plain h.2⟩
theorem opnds_ok {rec : Rec} (hr : RecOk ad rec) {sc : Sc} {X : Cx} {W : WX} {cf : Cf} (g : Good ad X W cf sc) : ∀ {es : List Expr} {ies : List IE}, opndsC rec sc es ies = true → SOs ad X W es (evO cf ies)
  | [], [], _ => sos_nil
  | [], _ :: _, h => by cases h
  | e :: es, [], h => by cases h
  | e :: es, ie :: ies, h => by
    simp only [opndsC, Bool.and_eq_true] at h
    exact sos_cons (opnd_ok hr h.1.2 g) (opnds_ok hr g h.2) (star_cons h.1.1 _)
def listC (rec : Rec) (sc : Sc) : List Expr → List IE → Bool
  | [], [] => true
  | e :: es, ie :: ies => plainE e && rec false sc e ie && listC rec sc es ies
  | _, _ => false
theorem list_ok {rec : Rec} (hr : RecOk ad rec) {sc : Sc} {X : Cx} {W : WX} {cf : Cf} (g : Good ad X W cf sc) : ∀ {es : List Expr} {ies : List IE}, listC rec sc es ies = true → SLs ad X W es (evL cf ies)
  | [], [], _ => sls_nil
  | [], _ :: _, h => by cases h
  | e :: es, [], h => by cases h
  | e :: es, ie :: ies, h => by
    simp only [listC, Bool.and_eq_true] at h
    exact sls_cons (hr _ _ _ _ h.1.2 X W cf g) (list_ok hr g h.2) (star_cons h.1.1 _)
def argC (rec : Rec) (sc : Sc) (ln : Bool) (e : Expr) : IE → Bool
  | .loc i => if ln then (match e with
    | .Name x _ => nameC sc x i
    | _ => false) else rec false sc e (.loc i)
  | ie => rec false sc e ie
theorem arg_ok {rec : Rec} (hr : RecOk ad rec) {sc : Sc} {ln : Bool} {e : Expr} {ie : IE} (h : argC rec sc ln e ie = true) {X : Cx} {W : WX} {cf : Cf} (g : Good ad X W cf sc) : SO ad X W e (opA ln ie (evE cf ie)) := by
  refine so_opA (fun hb => ?_) fun hb => ?_
  · subst hb
    refine opnd_ok hr ?_ g
    cases ie <;> first
      | exact h
      | (simp only [argC, if_true] at h; exact h)
  · subst hb
    have h' : rec false sc e ie = true := by
      cases ie <;> exact h
    exact hr _ _ _ _ h' X W cf g
def argsC (rec : Rec) (sc : Sc) : List Bool → List Expr → List IE → Bool
  | _, [], [] => true
  | ls, e :: es, ie :: ies => plainE e && argC rec sc (ls.headD false) e ie && argsC rec sc ls.tail es ies
  | _, _, _ => false
theorem argsC_plain {rec : Rec} {sc : Sc} : ∀ {ls : List Bool} {es : List Expr} {ies : List IE}, argsC rec sc ls es ies = true → plainEs es = true
  | _, [], _, _ => rfl
  | _, e :: es, [], h => by cases h
  | ls, e :: es, ie :: ies, h => by
    simp only [argsC, Bool.and_eq_true] at h
    simp only [plainEs, Bool.and_eq_true]
    exact ⟨h.1.1, argsC_plain h.2⟩
theorem args_ok {rec : Rec} (hr : RecOk ad rec) {sc : Sc} {X : Cx} {W : WX} {cf : Cf} (g : Good ad X W cf sc) : ∀ {ls : List Bool} {es : List Expr} {ies : List IE}, argsC rec sc ls es ies = true → SAs ad X W es (evA cf ls ies)
  | _, [], [], _ => sas_nil
  | _, [], _ :: _, h => by cases h
  | _, e :: es, [], h => by cases h
  | ls, e :: es, ie :: ies, h => by
    simp only [argsC, Bool.and_eq_true] at h
    exact sas_cons (arg_ok hr h.1.2 g) (args_ok hr g h.2) (star_cons h.1.1 _)
end Y
end
section
set_option Elab.async false
set_option linter.all false
set_option maxRecDepth 100000
set_option maxHeartbeats 4000000
set_option autoImplicit false
/-! Y13: the checker: operations, targets, what is walked. -/
namespace Y
open PySem L2
variable {ad : Str → Addr} {K : PySem.W.Frag} {G G' G1 G2 H H' H1 H2 : Hp}
section
variable {X : Cx} {W : WX} {cf : Cf} {sc : Sc} {rec : Rec}
/-! ### operations -/
def binC (rec : Rec) (sc : Sc) (o : Operator) (e : Expr) (es : List IE) : Bool := match e, es with
  | .BinOp a o' b _, [x, y] => decide (o = o') && opndC rec sc a x && opndC rec sc b y
  | _, _ => false
theorem bin_ok (hr : RecOk ad rec) {o : Operator} {e : Expr} {es : List IE} (h : binC rec sc o e es = true) (g : Good ad X W cf sc) : SE ad X W e (evE cf (.op (.bin o) es)) := by
  unfold binC at h
  split at h
  · simp only [Bool.and_eq_true, decide_eq_true_eq] at h
    obtain ⟨⟨rfl, h1⟩, h2⟩ := h
    exact (pe_op (op_bin o) (opnd_ok hr h1 g) (opnd_ok hr h2 g)).imp fun _ _ _ q => rd_op2 q
  · cases h
def cmpC (rec : Rec) (sc : Sc) (o : CmpOp) (e : Expr) (es : List IE) : Bool := match e, es with
  | .Compare a [o'] [b] _, [x, y] => decide (o = o') && !behindInMarks o b && opndC rec sc a x && opndC rec sc b y
  | _, _ => false
theorem cmp_ok (hr : RecOk ad rec) {o : CmpOp} {e : Expr} {es : List IE} (h : cmpC rec sc o e es = true) (g : Good ad X W cf sc) : SE ad X W e (evE cf (.op (.cmp o) es)) := by
  unfold cmpC at h
  split at h
  · simp only [Bool.and_eq_true, decide_eq_true_eq, Bool.not_eq_true'] at h
    obtain ⟨⟨⟨rfl, h0⟩, h1⟩, h2⟩ := h
    exact (pe_cmpR (op_cmpN g.hu o) (opnd_ok hr h1 g) (opnd_ok hr h2 g) h0).imp fun _ _ _ q => rd_op2 q
  · cases h
/-- .. as a test -/
theorem cmp_okT (hr : RecOk ad rec) {o : CmpOp} {e : Expr} {es : List IE} (h : cmpC rec sc o e es = true) (g : Good ad X W cf sc) : ST ad X W e (evT cf (.op (.cmp o) es) (evE cf (.op (.cmp o) es))) := by
  unfold cmpC at h
  split at h
  · simp only [Bool.and_eq_true, decide_eq_true_eq, Bool.not_eq_true'] at h
    obtain ⟨⟨⟨rfl, h0⟩, h1⟩, h2⟩ := h
    exact (pt_cmpR (op_cmpN g.hu o) (opnd_ok hr h1 g) (opnd_ok hr h2 g) h0).imp fun _ _ _ q => rd_op2 (rd_asB (by simpa only [evT] using q))
  · cases h
def negC (rec : Rec) (sc : Sc) (e : Expr) (es : List IE) : Bool := match e, es with
  | .UnaryOp .USub a _, [x] => opndC rec sc a x
  | _, _ => false
theorem neg_ok (hr : RecOk ad rec) {e : Expr} {es : List IE} (h : negC rec sc e es = true) (g : Good ad X W cf sc) : SE ad X W e (evE cf (.op .neg es)) := by
  unfold negC at h
  split at h
  · refine (pe_un un_neg (opnd_ok hr h g)).imp fun _ _ _ q => rd_imp (rd_op1 q) fun v H1 q => ?_
    obtain ⟨p, G, c, r, vp, hh, e, k⟩ := rn1 (c := []) q
    cases p with
    | int i =>
      cases e
      exact ⟨i, vp.int, done0 hh k (.int _)⟩
    | _ => cases e
  · cases h
def notC (rec : Rec) (sc : Sc) (e : Expr) (es : List IE) : Bool := match e, es with
  | .UnaryOp .Not a _, [x] => opndC rec sc a x
  | _, _ => false
theorem not_ok (hr : RecOk ad rec) {e : Expr} {es : List IE} (h : notC rec sc e es = true) (g : Good ad X W cf sc) : SE ad X W e (evE cf (.op .not es)) := by
  unfold notC at h
  split at h
  · refine (pe_not (opnd_ok hr h g)).imp fun _ _ _ q => rd_imp (rd_op1 q) fun v H1 q => ?_
    obtain ⟨p, G, c, r, vp, hh, e, k⟩ := rn1 (c := []) q
    cases p with
    | bl i =>
      cases e
      exact ⟨i, vp.bl, done0 hh k (.bl _)⟩
    | _ => cases e
  · cases h
def plainIxE : Expr → Bool
  | .Slice _ _ _ _ => false
  | _ => true
theorem plainIxE_ok {e : Expr} (h : plainIxE e = true) : PlainIx e := by
  cases e <;> first
    | exact fun _ _ => rfl
    | cases h
def ixC (rec : Rec) (sc : Sc) (e : Expr) (es : List IE) : Bool := match e, es with
  | .Subscript a b _, [x, y] => plainIxE b && opndC rec sc a x && opndC rec sc b y
  | _, _ => false
theorem ix_ok (hr : RecOk ad rec) {e : Expr} {es : List IE} (h : ixC rec sc e es = true) (g : Good ad X W cf sc) : SE ad X W e (evE cf (.op .ix es)) := by
  unfold ixC at h
  split at h
  · simp only [Bool.and_eq_true] at h
    obtain ⟨⟨h0, h1⟩, h2⟩ := h
    exact (pe_ix op_ixN (opnd_ok hr h1 g) (opnd_ok hr h2 g) (plainIxE_ok h0)).imp fun _ _ _ q => rd_op2 q
  · cases h
def sliceC (rec : Rec) (sc : Sc) (lo hi : Bool) (e : Expr) (es : List IE) : Bool := match lo, hi, e, es with
  | false, false, .Subscript a (.Slice none none none _) _, [x] => opndC rec sc a x
  | true, false, .Subscript a (.Slice (some b) none none _) _, [x, y] => opndC rec sc a x && opndC rec sc b y
  | false, true, .Subscript a (.Slice none (some b) none _) _, [x, y] => opndC rec sc a x && opndC rec sc b y
  | _, _, _, _ => false
theorem slice_ok (hr : RecOk ad rec) {lo hi : Bool} {e : Expr} {es : List IE} (h : sliceC rec sc lo hi e es = true) (g : Good ad X W cf sc) : SE ad X W e (evE cf (.op (.slice lo hi) es)) := by
  unfold sliceC at h
  split at h
  · exact se_slice0 (opnd_ok hr h g)
  · rw [Bool.and_eq_true] at h
    exact se_slice1 (opnd_ok hr h.1 g) (opnd_ok hr h.2 g)
  · rw [Bool.and_eq_true] at h
    exact se_slice2 (opnd_ok hr h.1 g) (opnd_ok hr h.2 g)
  · cases h
def backC (rec : Rec) (sc : Sc) (e : Expr) (es : List IE) : Bool := match e, es with
  | .Subscript a (.Slice none none (some (.UnaryOp .USub (.Constant (.int i) _ _) _)) _) _, [x] => decide (i = 1) && opndC rec sc a x
  | _, _ => false
theorem back_ok (hr : RecOk ad rec) {e : Expr} {es : List IE} (h : backC rec sc e es = true) (g : Good ad X W cf sc) : SE ad X W e (evE cf (.op .back es)) := by
  unfold backC at h
  split at h
  · simp only [Bool.and_eq_true, decide_eq_true_eq] at h
    obtain ⟨rfl, h⟩ := h
    exact se_back (opnd_ok hr h g)
  · cases h
/-- f(e, ..), f built in -/
def bltCallC (rec : Rec) (sc : Sc) (y : String) (e : Expr) (es : List IE) : Bool := match e with
  | .Call (.Name x _) (a :: as) [] _ => bltC sc x (Str.ofString y) && opndsC rec sc (a :: as) es
  | _ => false
theorem bltCall_ok (hr : RecOk ad rec) {y : String} {f : Op} {e : Expr} {es : List IE} (h : bltCallC rec sc y e es = true) (g : Good ad X W cf sc)
    (hc : (∃ id, bootBuiltins (Str.ofString y) = some (.builtin id) ∧ CallR X (.builtin id) fun xs H Q => RN ad X.K (opN f) xs H Q) ∨ (∃ id, bootBuiltins (Str.ofString y) = some (.type id) ∧ CallR X (.type id) fun xs H Q => RN ad X.K (opN f) xs H Q)) : SE ad X W e (evE cf (.op f es)) := by
  unfold bltCallC at h
  split at h
  · rw [Bool.and_eq_true] at h
    obtain ⟨rfl, h1, h2, h3, h4⟩ := g.bt h.1
    have hp := opndsC_plain h.2
    simp only [plainEs, Bool.and_eq_true] at hp
    have ha := opnds_ok (W := W) hr g h.2
    rcases hc with ⟨id, hb, hc⟩ | ⟨id, hb, hc⟩
    · exact (pe_callB hc h1 h2 hb ha h4 h3 (star_cons hp.1 _) (back_plain hp.2)).imp fun _ _ _ q => rd_op q
    · exact (pe_callTy hc h1 h2 hb ha h4 h3 (star_cons hp.1 _) (back_plain hp.2)).imp fun _ _ _ q => rd_op q
  · cases h
/-- 'sep'.join(e) -/
def joinC (rec : Rec) (sc : Sc) (e : Expr) (es : List IE) : Bool := match e, es with
  | .Call (.Attribute (.Constant (.str z) _ _) name apos) [a] [] cpos, [.cst (.str z'), x] => decide (name = ("join" : Str)) && decide (z = z') && (apos.endLine == cpos.line) && opndsC rec sc [a] [x]
  | _, _ => false
theorem rd_os_cst {z : Str} {es : List IE} {σ : St} {H : Hp} {Q : List V → Hp → Prop} (h : rd ad X W (RelOs ad X.K) (evO cf (.cst (.str z) :: es)) σ H Q) : rd ad X W (RelOs ad X.K) (evO cf es) σ H fun xs H1 => Q (.str z :: xs) H1 := by
  obtain ⟨ρ, G, c, sl, hh, ha⟩ := h
  simp only [evO, opnd, evE, Res.bind, PV.frz] at ha
  refine ⟨ρ, G, c, sl, hh, ?_⟩
  cases e : evO cf es ρ with
  | bad => rw [e] at ha; exact ha
  | ex x r => rw [e] at ha; exact ha
  | ok os ρ1 =>
    rw [e] at ha
    exact fun v H1 G1 c1 t s sl1 h1 ⟨et, hv⟩ => ha _ H1 G1 c1 t s sl1 h1 ⟨et, .cons (.str z) hv⟩
theorem join_ok (hr : RecOk ad rec) {e : Expr} {es : List IE} (h : joinC rec sc e es = true) (g : Good ad X W cf sc) : SE ad X W e (evE cf (.op .join es)) := by
  unfold joinC at h
  split at h
  · simp only [Bool.and_eq_true, decide_eq_true_eq] at h
    obtain ⟨⟨⟨rfl, rfl⟩, hl⟩, h⟩ := h
    have hp := opndsC_plain h
    simp only [plainEs, Bool.and_eq_true] at hp
    have ha := opnds_ok (W := W) hr g h
    refine (pe_bm PySem.F.plainAttrs_str PySem.F.slot_str_join PySem.F.type_str_join (mtN_join (ad := ad)) pe_str ha rfl ?_ hl (star_cons hp.1 _) rfl).imp fun _ _ _ q => ?_
    · rw [all_plain (by simp [plainEs, hp.1])]
      rfl
    · exact ⟨rfl, rd_os_cst (rd_op q)⟩
  · cases h
/-! ### targets -/
def locC (sc : Sc) (x : Str) : Bool := match sc.scope.names.lookup x with
  | some .local => true
  | some .cell => sc.fnS x
  | _ => false
def tgC : Nat → Sc → Expr → IT → Bool
  | 0, _, _, _ => false
  | n + 1, sc, e, t => (match e, t with
    | .Name x _, .nm i => decide (sc.N[i]? = some x) && locC sc x
    | .Tuple es _ _, .tp ts => tgsC (tgC n) sc es ts
    | _, _ => false)
where tgsC (rec : Sc → Expr → IT → Bool) (sc : Sc) : List Expr → List IT → Bool
  | [], [] => true
  | e :: es, t :: ts => plainE e && rec sc e t && tgsC rec sc es ts
  | _, _ => false
theorem Good.loc (g : Good ad X W cf sc) {x : Str} (h : locC sc x = true) : Loc X.env.scope x ∧ (X.fn x = true ∨ X.env.scope.names.lookup x = some .local) := by
  rw [g.hsc]
  unfold locC at h
  split at h
  · exact ⟨.inl (by assumption), .inr (by assumption)⟩
  · exact ⟨.inr (by assumption), .inl (g.hfn _ h)⟩
  · cases h
theorem assign_cons {e : Expr} {es : List Expr} (h : plainE e = true) (env : Env) : assignEach (e :: es) env = (false, assign e env) :: assignEach es env := by
  cases e <;> first
    | rfl
    | cases h
theorem tgs_plain {r : Sc → Expr → IT → Bool} : ∀ {es : List Expr} {ts : List IT}, tgC.tgsC r sc es ts = true → (∀ env, (assignEach es env).length = ts.length ∧ (assignEach es env).findIdx? (·.1) = none)
  | [], [], _ => fun _ => ⟨rfl, rfl⟩
  | [], _ :: _, h => by cases h
  | _ :: _, [], h => by cases h
  | e :: es, t :: ts, h => fun env => by
    simp only [tgC.tgsC, Bool.and_eq_true] at h
    obtain ⟨h1, h2⟩ := tgs_plain h.2 env
    rw [assign_cons h.1.1]
    simp [h1, h2, List.findIdx?_cons]
theorem tg_ok (g : Good ad X W cf sc) : ∀ (n : Nat) {e : Expr} {t : IT}, tgC n sc e t = true → PG X e (rdG ad X t)
  | 0, _, _, h => by cases h
  | n + 1, e, t, h => by
    unfold tgC at h
    split at h
    · simp only [Bool.and_eq_true, decide_eq_true_eq] at h
      obtain ⟨h1, h2⟩ := g.loc h.2
      exact sg_nm (pg_name g.nd (by rw [g.hN]; exact h.1) h1 h2)
    · have key : ∀ {es : List Expr} {ts : List IT}, tgC.tgsC (tgC n) sc es ts = true → PGs X es (rdGs ad X ts) := by
        intro es
        induction es with
        | nil =>
          intro ts h
          cases ts with
          | nil => exact sgs_nil
          | cons => cases h
        | cons e es ih =>
          intro ts h
          cases ts with
          | nil => cases h
          | cons t ts =>
            simp only [tgC.tgsC, Bool.and_eq_true] at h
            exact sgs_cons (tg_ok g n h.1.2) (ih h.2) (by rw [assign_cons h.1.1]; rfl)
      have hp := tgs_plain h X.env
      exact sg_tp g.calm (key h) hp.1 hp.2
    · cases h
/-! ### what is walked -/
def notSet : Expr → Bool
  | .Set _ _ _ => false
  | _ => true
theorem notSet_ok {e : Expr} (h : notSet e = true) (env : Env) (x : Value) : foldedSetIterable e env x = pure x := by
  cases e <;> first
    | rfl
    | cases h
def isTup : Expr → Bool
  | .Tuple _ _ _ => true
  | _ => false
def srcC (rec : Rec) (sc : Sc) (tg it : Expr) : ISrc → Bool
  | .it e => rec false sc it e
  | .rng es => (match it, es with
    | .Call (.Name x _) [a] [] _, [e] => bltC sc x ("range" : Str) && opndsC rec sc [a] [e]
    | .Call (.Name x _) [a, b] [] _, [e, f] => bltC sc x ("range" : Str) && opndsC rec sc [a, b] [e, f]
    | _, _ => false)
  | .enm e => (match it with
    | .Call (.Name x _) [a] [] _ => bltC sc x ("enumerate" : Str) && isTup tg && plainE a && rec false sc a e
    | _ => false)
  | .zp e f => (match it with
    | .Call (.Name x _) [a, b] [] _ => bltC sc x ("zip" : Str) && isTup tg && plainE a && plainE b && rec false sc a e && rec false sc b f
    | _ => false)
theorem star1 {a : Expr} (h : plainE a = true) (env : Env) : starEach [a] env = [(false, eval a env)] := star_cons h env
theorem star2 {a b : Expr} (h : plainE a = true) (h2 : plainE b = true) (env : Env) : starEach [a, b] env = [(false, eval a env), (false, eval b env)] := by
  rw [star_cons h, star1 h2]
theorem src_ok (hr : RecOk ad rec) {tg it : Expr} {src : ISrc} (h : srcC rec sc tg it src = true) (g : Good ad X W cf sc) : SI ad X W tg it (evSrc cf src) := by
  cases src with
  | it e => exact si_it (hr _ _ _ _ h X W cf g)
  | rng es =>
    simp only [srcC] at h
    split at h
    · rw [Bool.and_eq_true] at h
      obtain ⟨rfl, h1, h2, h3, h4⟩ := g.bt h.1
      have hp := opndsC_plain h.2
      simp only [plainEs, Bool.and_eq_true] at hp
      exact si_rng1 h1 h2 (opnds_ok hr g h.2) (star1 hp.1 _)
    · rw [Bool.and_eq_true] at h
      obtain ⟨rfl, h1, h2, h3, h4⟩ := g.bt h.1
      have hp := opndsC_plain h.2
      simp only [plainEs, Bool.and_eq_true] at hp
      exact si_rng2 h1 h2 (opnds_ok hr g h.2) (star2 hp.1 hp.2.1 _) (star1 hp.2.1 _)
    · cases h
  | enm e =>
    simp only [srcC] at h
    split at h
    · simp only [Bool.and_eq_true] at h
      obtain ⟨⟨⟨hb, ht⟩, hp⟩, h⟩ := h
      obtain ⟨rfl, h1, h2, h3, h4⟩ := g.bt hb
      cases tg with
      | Tuple elts k p => exact si_enm h1 h2 (hr _ _ _ _ h X W cf g) (star1 hp _)
      | _ => cases ht
    · cases h
  | zp e f =>
    simp only [srcC] at h
    split at h
    · simp only [Bool.and_eq_true] at h
      obtain ⟨⟨⟨⟨⟨hb, ht⟩, hp⟩, hp2⟩, h⟩, h'⟩ := h
      obtain ⟨rfl, h1, h2, h3, h4⟩ := g.bt hb
      cases tg with
      | Tuple elts k p => exact si_zip h1 h2 (hr _ _ _ _ h X W cf g) (hr _ _ _ _ h' X W cf g) (star2 hp hp2 _) (star1 hp2 _)
      | _ => cases ht
    · cases h
end
end Y
end
section
set_option Elab.async false
set_option linter.all false
set_option maxRecDepth 100000
set_option maxHeartbeats 4000000
set_option autoImplicit false
/-! Y14: the checker: expressions, whole. -/
namespace Y
open PySem L2
variable {ad : Str → Addr} {K : PySem.W.Frag} {G G' G1 G2 H H' H1 H2 : Hp}
theorem bf_len : bootBuiltins (Str.ofString "len") = some (.builtin "len") := by decide +kernel
theorem bf_list : bootBuiltins (Str.ofString "list") = some (.type "list") := by decide +kernel
theorem bf_tuple : bootBuiltins (Str.ofString "tuple") = some (.type "tuple") := by decide +kernel
theorem bf_int : bootBuiltins (Str.ofString "int") = some (.type "int") := by decide +kernel
theorem bf_str : bootBuiltins (Str.ofString "str") = some (.type "str") := by decide +kernel
theorem bf_all : bootBuiltins (Str.ofString "all") = some (.builtin "all") := by decide +kernel
theorem bf_any : bootBuiltins (Str.ofString "any") = some (.builtin "any") := by decide +kernel
theorem bf_sum : bootBuiltins (Str.ofString "sum") = some (.builtin "sum") := by decide +kernel
theorem bf_max : bootBuiltins (Str.ofString "max") = some (.builtin "max") := by decide +kernel
theorem bf_sorted : bootBuiltins (Str.ofString "sorted") = some (.builtin "sorted") := by decide +kernel
theorem bf_isi : bootBuiltins (Str.ofString "isinstance") = some (.builtin "isinstance") := by decide +kernel
section
variable {X : Cx} {W : WX} {cf : Cf} {sc : Sc} {rec : Rec} {pos : Pos}
def opC (rec : Rec) (sc : Sc) (e : Expr) (es : List IE) : Op → Bool
  | .bin o => binC rec sc o e es
  | .cmp o => cmpC rec sc o e es
  | .neg => negC rec sc e es
  | .not => notC rec sc e es
  | .ix => ixC rec sc e es
  | .slice lo hi => sliceC rec sc lo hi e es
  | .back => backC rec sc e es
  | .len => bltCallC rec sc "len" e es
  | .list => bltCallC rec sc "list" e es
  | .tuple => bltCallC rec sc "tuple" e es
  | .int => bltCallC rec sc "int" e es
  | .str => bltCallC rec sc "str" e es
  | .all => bltCallC rec sc "all" e es
  | .any => bltCallC rec sc "any" e es
  | .sum => bltCallC rec sc "sum" e es
  | .max => bltCallC rec sc "max" e es
  | .sorted => bltCallC rec sc "sorted" e es
  | .isi => bltCallC rec sc "isinstance" e es
  | .join => joinC rec sc e es
  | .split => false
theorem op_ok (hr : RecOk ad rec) {f : Op} {e : Expr} {es : List IE} (h : opC rec sc e es f = true) (g : Good ad X W cf sc) : SE ad X W e (evE cf (.op f es)) := by
  cases f with
  | bin o => exact bin_ok hr h g
  | cmp o => exact cmp_ok hr h g
  | neg => exact neg_ok hr h g
  | not => exact not_ok hr h g
  | ix => exact ix_ok hr h g
  | slice lo hi => exact slice_ok hr h g
  | back => exact back_ok hr h g
  | len => exact bltCall_ok hr h g (.inl ⟨_, bf_len, callN_len⟩)
  | list => exact bltCall_ok hr h g (.inr ⟨_, bf_list, callN_list⟩)
  | tuple => exact bltCall_ok hr h g (.inr ⟨_, bf_tuple, callN_tuple⟩)
  | int => exact bltCall_ok hr h g (.inr ⟨_, bf_int, callN_int⟩)
  | str => exact bltCall_ok hr h g (.inr ⟨_, bf_str, callN_str⟩)
  | all => exact bltCall_ok hr h g (.inl ⟨_, bf_all, callN_all g.calm⟩)
  | any => exact bltCall_ok hr h g (.inl ⟨_, bf_any, callN_any g.calm⟩)
  | sum => exact bltCall_ok hr h g (.inl ⟨_, bf_sum, callN_sum g.calm⟩)
  | max => exact bltCall_ok hr h g (.inl ⟨_, bf_max, callN_max g.calm⟩)
  | sorted => exact bltCall_ok hr h g (.inl ⟨_, bf_sorted, callN_sorted g.hu⟩)
  | isi => exact bltCall_ok hr h g (.inl ⟨_, bf_isi, callN_isi⟩)
  | join => exact join_ok hr h g
  | split => cases h
/-! ### and, or -/
def boolC (rec : Rec) (m : Bool) (sc : Sc) (o : BoolOp) : List Expr → IE → Bool
  | [], _ => false
  | [a], x => rec m sc a x
  | a :: b :: r, x => (match o, x with
    | .And, .and y z => rec m sc a y && boolC rec m sc o (b :: r) z
    | .Or, .or y z => rec m sc a y && boolC rec m sc o (b :: r) z
    | _, _ => false)
theorem bool_ok (hr : RecOk ad rec) {o : BoolOp} (g : Good ad X W cf sc) : ∀ {es : List Expr} {ie : IE}, boolC rec false sc o es ie = true → SE ad X W (.BoolOp o es pos) (evE cf ie)
  | [], _, h => by cases h
  | [a], x, h => pe_one (hr _ _ _ _ h X W cf g)
  | a :: b :: r, x, h => by
    unfold boolC at h
    split at h
    · rw [Bool.and_eq_true] at h
      exact se_and (hr _ _ _ _ h.1 X W cf g) (bool_ok hr g h.2)
    · rw [Bool.and_eq_true] at h
      exact se_or (hr _ _ _ _ h.1 X W cf g) (bool_ok hr g h.2)
    · cases h
theorem bool_okW (hr : RecOk ad rec) {o : BoolOp} (g : Good ad X W cf sc) : ∀ {es : List Expr} {ie : IE}, boolC rec true sc o es ie = true → SW ad X W (.BoolOp o es pos) (evT cf ie (evE cf ie))
  | [], _, h => by cases h
  | [a], x, h => by
    cases o with
    | And => exact pw_and1 (hr _ _ _ _ h X W cf g)
    | Or => exact pw_or1 (hr _ _ _ _ h X W cf g)
  | a :: b :: r, x, h => by
    unfold boolC at h
    split at h
    · rw [Bool.and_eq_true] at h
      exact sw_and (hr _ _ _ _ h.1 X W cf g) (bool_okW hr g h.2)
    · rw [Bool.and_eq_true] at h
      exact sw_or (hr _ _ _ _ h.1 X W cf g) (bool_okW hr g h.2)
    · cases h
/-! ### comprehensions -/
def Sc.blk (sc : Sc) (scope : Scope) : Sc := { sc with scope := relS scope sc.scope, fnS := fun x => scope.names.lookup x == some .cell }
def ownP (sc : Sc) (own : List Nat) : List (Str × Nat) := own.map fun i => (sc.N.getD i ⟨#[]⟩, i)
theorem ownP_map (sc : Sc) (own : List Nat) : (ownP sc own).map (·.2) = own := by
  unfold ownP
  rw [List.map_map]
  exact List.map_id _
theorem Good.blk (g : Good ad X W cf sc) {s : Shared} {H : Hp} {scope : Scope} {cl : List (Str × Addr)} {C : Addr} {fp : List Addr} : Good ad (X.blk s H scope (compEnvC scope cl C X.env) fp) W0 cf (sc.blk scope) where
  hN := g.hN
  nd := g.nd
  hsc := by
    show relS scope X.env.scope = relS scope sc.scope
    rw [g.hsc]
  hfn := fun x h => h
  calm := g.calm
  hu := g.hu
  tk := takes0
  blt := g.blt
  glob := fun x ge h => by
    have := g.glob x ge h
    cases ge with
    | fn k => exact this
    | cst p => exact this
  lend := g.lend
def ifsC (rec : Rec) (sc : Sc) : List Expr → List IE → Bool
  | [], [] => true
  | [e], [x] => rec true sc e x
  | _, _ => false
theorem ifs_ok (hr : RecOk ad rec) {es : List Expr} {ies : List IE} (h : ifsC rec sc es ies = true) (g : Good ad X W cf sc) : PTs X es (rd ad X W RelB (evIfs cf ies)) := by
  unfold ifsC at h
  split at h
  · refine ⟨fun pins s σ H Q I hw => pts_nil.run pins s σ H Q I ?_⟩
    obtain ⟨ρ, G, c, sl, hh, ha⟩ := hw
    simp only [evIfs] at ha
    exact aft_b ha sl hh
  · have := pts_one (hr _ _ _ _ h X W cf g)
    refine ⟨fun pins s σ H Q I hw => this.run pins s σ H Q I ?_⟩
    simpa only [evIfs] using hw
  · cases h
def compC (rec : Rec) (sc : Sc) (el t it : Expr) (fs : List Expr) (scope : Scope) (elt : IE) (tg : IT) (src : ISrc) (ifs : List IE) (own : List Nat) : Bool :=
  blkC sc.N sc.scope scope (ownP sc own) && srcC rec sc t it src && notSet it && tgC 5 (sc.blk scope) t tg && tg.slots.all own.contains && ifsC rec (sc.blk scope) fs ifs && rec false (sc.blk scope) el elt
structure CompOk (ad : Str → Addr) (X : Cx) (W : WX) (cf : Cf) (el t it : Expr) (fs : List Expr) (scope : Scope) (elt : IE) (tg : IT) (src : ISrc) (ifs : List IE) (own : List (Str × Nat)) : Prop where
  si : SI ad X W t it (evSrc cf src)
  bo : BlkOk X.N X.env.scope scope own
  sl : ∀ j ∈ tg.slots, j ∈ own.map (·.2)
  pg : ∀ (s : Shared) (H : Hp) (C : Addr) (cl : List (Str × Addr)) (fp : List Addr), PG (X.blk s H scope (compEnvC scope cl C X.env) fp) t (rdG ad X tg)
  pt : ∀ (s : Shared) (H : Hp) (C : Addr) (cl : List (Str × Addr)) (fp : List Addr), PTs (X.blk s H scope (compEnvC scope cl C X.env) fp) fs (rd ad X W0 RelB (evIfs cf ifs))
  pe : ∀ (s : Shared) (H : Hp) (C : Addr) (cl : List (Str × Addr)) (fp : List Addr), PE (X.blk s H scope (compEnvC scope cl C X.env) fp) el (rd ad X W0 (RelP ad X.K) (evE cf elt))
  fs : ∀ x, foldedSetIterable it X.env x = pure x
theorem comp_ok (hr : RecOk ad rec) {el t it : Expr} {fs : List Expr} {scope : Scope} {elt : IE} {tg : IT} {src : ISrc} {ifs : List IE} {own : List Nat} (h : compC rec sc el t it fs scope elt tg src ifs own = true) (g : Good ad X W cf sc) : CompOk ad X W cf el t it fs scope elt tg src ifs (ownP sc own) := by
  unfold compC at h
  simp only [Bool.and_eq_true] at h
  obtain ⟨⟨⟨⟨⟨⟨h1, h2⟩, h3⟩, h4⟩, h5⟩, h6⟩, h7⟩ := h
  refine ⟨src_ok hr h2 g, ?_, ?_, fun s H C cl fp => tg_ok (W := W0) (cf := cf) g.blk 5 h4, fun s H C cl fp => ifs_ok (W := W0) hr h6 g.blk, fun s H C cl fp => hr _ _ _ _ h7 _ W0 cf g.blk, notSet_ok h3 _⟩
  · rw [g.hN, g.hsc]
    exact blkOk_by h1
  · rw [ownP_map]
    exact fun j hj => List.contains_iff_mem.mp (List.all_eq_true.mp h5 j hj)
theorem CompOk.se {el t it : Expr} {fs : List Expr} {scope : Scope} {elt : IE} {tg : IT} {src : ISrc} {ifs : List IE} {own : List (Str × Nat)} (c : CompOk ad X W cf el t it fs scope elt tg src ifs own) (hc : X.calm = true) (nd : X.N.Nodup) :
    SE ad X W (.ListComp el [⟨t, it, fs, 0⟩] scope pos) (evE cf (.comp elt tg src ifs (own.map (·.2)))) :=
  se_comp hc nd c.si c.bo c.sl c.pg c.pt c.pe c.fs
def compVC (rec : Rec) (sc : Sc) (el t : Expr) (x : Str) (fs : List Expr) (scope : Scope) (elt : IE) (tg : IT) (i : Nat) (ifs : List IE) (own : List Nat) : Bool :=
  blkC sc.N sc.scope scope (ownP sc own) && nameC sc x i && tgC 5 (sc.blk scope) t tg && tg.slots.all own.contains && ifsC rec (sc.blk scope) fs ifs && rec false (sc.blk scope) el elt
structure CompVOk (ad : Str → Addr) (X : Cx) (W : WX) (cf : Cf) (el t : Expr) (x : Str) (fs : List Expr) (scope : Scope) (elt : IE) (tg : IT) (i : Nat) (ifs : List IE) (own : List (Str × Nat)) : Prop where
  nm : ∀ p, PE X (.Name x p) (tVar i)
  bo : BlkOk X.N X.env.scope scope own
  sl : ∀ j ∈ tg.slots, j ∈ own.map (·.2)
  pg : ∀ (s : Shared) (H : Hp) (C : Addr) (cl : List (Str × Addr)) (fp : List Addr), PG (X.blk s H scope (compEnvC scope cl C X.env) fp) t (rdG ad X tg)
  pt : ∀ (s : Shared) (H : Hp) (C : Addr) (cl : List (Str × Addr)) (fp : List Addr), PTs (X.blk s H scope (compEnvC scope cl C X.env) fp) fs (rd ad X W0 RelB (evIfs cf ifs))
  pe : ∀ (s : Shared) (H : Hp) (C : Addr) (cl : List (Str × Addr)) (fp : List Addr), PE (X.blk s H scope (compEnvC scope cl C X.env) fp) el (rd ad X W0 (RelP ad X.K) (evE cf elt))
theorem compV_ok (hr : RecOk ad rec) {el t : Expr} {x : Str} {fs : List Expr} {scope : Scope} {elt : IE} {tg : IT} {i : Nat} {ifs : List IE} {own : List Nat} (h : compVC rec sc el t x fs scope elt tg i ifs own = true) (g : Good ad X W cf sc) : CompVOk ad X W cf el t x fs scope elt tg i ifs (ownP sc own) := by
  unfold compVC at h
  simp only [Bool.and_eq_true] at h
  obtain ⟨⟨⟨⟨⟨h1, h2⟩, h4⟩, h5⟩, h6⟩, h7⟩ := h
  refine ⟨fun p => g.name h2, ?_, ?_, fun s H C cl fp => tg_ok (W := W0) (cf := cf) g.blk 5 h4, fun s H C cl fp => ifs_ok (W := W0) hr h6 g.blk, fun s H C cl fp => hr _ _ _ _ h7 _ W0 cf g.blk⟩
  · rw [g.hN, g.hsc]
    exact blkOk_by h1
  · rw [ownP_map]
    exact fun j hj => List.contains_iff_mem.mp (List.all_eq_true.mp h5 j hj)
theorem CompVOk.se {el t : Expr} {x : Str} {p0 : Pos} {fs : List Expr} {scope : Scope} {elt : IE} {tg : IT} {i : Nat} {ifs : List IE} {own : List (Str × Nat)} (c : CompVOk ad X W cf el t x fs scope elt tg i ifs own) (hc : X.calm = true) (nd : X.N.Nodup) :
    SE ad X W (.ListComp el [⟨t, .Name x p0, fs, 0⟩] scope pos) (evE cf (.compv elt tg i ifs (own.map (·.2)))) :=
  (pe_lc hc nd (pi_list (c.nm p0)) c.bo c.pg c.pt c.pe fun _ => rfl).imp fun _ _ _ q => rd_compv c.sl q
/-! ### expressions -/
def nameE (sc : Sc) (e : Expr) (i : Nat) : Bool := match e with
  | .Name x _ => nameC sc x i
  | _ => false
/-- a side of a comparison -/
def dspC (rec : Rec) (sc : Sc) (e : Expr) (t : Option Bool) (es : List IE) : Bool := match t, es with
  | none, [ie] => opndC rec sc e ie
  | some true, es => (match e with
    | .Tuple els _ _ => opndsC rec sc els es
    | _ => false)
  | some false, es => (match e with
    | .List els _ => opndsC rec sc els es
    | _ => false)
  | _, _ => false
theorem dsp_ok (hr : RecOk ad rec) {e : Expr} {t : Option Bool} {es : List IE} (h : dspC rec sc e t es = true) (g : Good ad X W cf sc) : SD ad X W cf e t es := by
  unfold dspC at h
  split at h
  · exact sd_one (opnd_ok hr h g)
  · split at h
    · exact sd_tup (opnds_ok hr g h)
    · cases h
  · split at h
    · exact sd_lst (opnds_ok hr g h)
    · cases h
  · cases h
def exprC (rec : Rec) (sc : Sc) (e : Expr) : IE → Bool
  | .cst p => cstC sc e p
  | .loc i => nameE sc e i
  | .mov i => nameE sc e i
  | .op f es => opC rec sc e es f
  | .chain f g x y z => (match e with
    | .Compare a [f', g'] [b, d] _ => decide (f = f') && decide (g = g') && !lastMarks [f, g] [b, d] && opndC rec sc a x && opndC rec sc b y && opndC rec sc d z
    | _ => false)
  | .dcmp f t es u ds => (match e with
    | .Compare a [f'] [b] _ => decide (f = f') && !behindInMarks f b && dspC rec sc a t es && dspC rec sc b u ds
    | _ => false)
  | .slc x y z => (match e with
    | .Subscript a (.Slice (some b) (some d) none _) _ => opndC rec sc a x && opndC rec sc b y && opndC rec sc d z
    | _ => false)
  | .and x y => (match e with
    | .BoolOp .And es _ => boolC rec false sc .And es (.and x y)
    | _ => false)
  | .or x y => (match e with
    | .BoolOp .Or es _ => boolC rec false sc .Or es (.or x y)
    | _ => false)
  | .ite t x y => (match e with
    | .IfExp c a b _ => rec true sc c t && rec false sc a x && rec false sc b y
    | _ => false)
  | .lst es => (match e with
    | .List els _ => listC rec sc els es
    | _ => false)
  | .tup es => (match e with
    | .Tuple els _ _ => listC rec sc els es
    | _ => false)
  | .call k ls es => (match e with
    | .Call (.Name x _) as [] _ => globC sc x && (match sc.gl.lookup x with
      | some (.fn k') => decide (k = k')
      | _ => false) && argsC rec sc ls as es
    | _ => false)
  | .comp elt tg src ifs own => (match e with
    | .ListComp el [⟨t, it, fs, as⟩] scope _ => decide (as = 0) && compC rec sc el t it fs scope elt tg src ifs own
    | _ => false)
  | .compv elt tg i ifs own => (match e with
    | .ListComp el [⟨t, .Name x _, fs, as⟩] scope _ => decide (as = 0) && compVC rec sc el t x fs scope elt tg i ifs own
    | _ => false)
theorem nameE_ok {e : Expr} {i : Nat} (h : nameE sc e i = true) (g : Good ad X W cf sc) : ∃ x p, e = .Name x p ∧ PE X (.Name x p) (tVar i) := by
  unfold nameE at h
  split at h
  · exact ⟨_, _, rfl, g.name h⟩
  · cases h
theorem expr_ok (hr : RecOk ad rec) {e : Expr} {ie : IE} (h : exprC rec sc e ie = true) : Snd ad false sc e ie := fun X W cf g => by
  cases ie with
  | cst p => exact cst_ok h X W cf g
  | loc i =>
    obtain ⟨x, p, rfl, hp⟩ := nameE_ok h g
    exact se_loc hp
  | mov i =>
    obtain ⟨x, p, rfl, hp⟩ := nameE_ok h g
    exact se_mov hp
  | op f es => exact op_ok hr h g
  | chain f g' x y z =>
    simp only [exprC] at h
    split at h
    · simp only [Bool.and_eq_true, decide_eq_true_eq, Bool.not_eq_true'] at h
      obtain ⟨⟨⟨⟨⟨rfl, rfl⟩, h0⟩, h1⟩, h2⟩, h3⟩ := h
      exact se_chain g.hu (opnd_ok hr h1 g) (opnd_ok hr h2 g) (opnd_ok hr h3 g) h0
    · cases h
  | dcmp f t es u ds =>
    simp only [exprC] at h
    split at h
    · simp only [Bool.and_eq_true, decide_eq_true_eq, Bool.not_eq_true'] at h
      obtain ⟨⟨⟨rfl, h0⟩, h1⟩, h2⟩ := h
      exact (pe_cmpR (op_cmpN g.hu _) (dsp_ok (W := W) hr h1 g) (dsp_ok (W := W) hr h2 g) h0).imp fun _ _ _ q => rd_dcmp q
    · cases h
  | slc x y z =>
    simp only [exprC] at h
    split at h
    · simp only [Bool.and_eq_true] at h
      exact se_slice3 (opnd_ok hr h.1.1 g) (opnd_ok hr h.1.2 g) (opnd_ok hr h.2 g)
    · cases h
  | and x y =>
    simp only [exprC] at h
    split at h
    · exact bool_ok hr g h
    · cases h
  | or x y =>
    simp only [exprC] at h
    split at h
    · exact bool_ok hr g h
    · cases h
  | ite t x y =>
    simp only [exprC] at h
    split at h
    · simp only [Bool.and_eq_true] at h
      exact se_ite (hr _ _ _ _ h.1.1 X W cf g) (hr _ _ _ _ h.1.2 X W cf g) (hr _ _ _ _ h.2 X W cf g)
    · cases h
  | lst es =>
    simp only [exprC] at h
    split at h
    · exact se_lst (list_ok hr g h)
    · cases h
  | tup es =>
    simp only [exprC] at h
    split at h
    · exact se_tup (list_ok hr g h)
    · cases h
  | call k ls es =>
    simp only [exprC] at h
    split at h
    · rename_i x p as p2
      simp only [Bool.and_eq_true] at h
      obtain ⟨⟨h1, h2⟩, h3⟩ := h
      obtain ⟨g1, g2, g3⟩ := g.gl h1
      split at h2
      · rename_i k' e
        cases of_decide_eq_true h2
        obtain ⟨kk, fd, ps, F, hr', m, hk, hb⟩ := g.glob _ _ e
        cases as with
        | nil =>
          cases es with
          | nil => exact se_call0 F hr' g1 m hk hb g.tk g2
          | cons => cases h3
        | cons a as =>
          have hp := argsC_plain h3
          simp only [plainEs, Bool.and_eq_true] at hp
          exact se_call F hr' g1 m hk hb g.tk (args_ok hr g h3) g2 (star_cons hp.1 _) (back_plain hp.2)
      · cases h2
    · cases h
  | comp elt tg src ifs own =>
    simp only [exprC] at h
    split at h
    · simp only [Bool.and_eq_true, decide_eq_true_eq] at h
      obtain ⟨rfl, h⟩ := h
      have := (comp_ok hr h g).se (pos := ‹_›) g.calm g.nd
      rw [ownP_map] at this
      exact this
    · cases h
  | compv elt tg i ifs own =>
    simp only [exprC] at h
    split at h
    · rename_i el t x p0 fs as scope p1
      simp only [Bool.and_eq_true, decide_eq_true_eq] at h
      obtain ⟨rfl, h⟩ := h
      have := (compV_ok hr h g).se (p0 := p0) (pos := p1) g.calm g.nd
      rw [ownP_map] at this
      exact this
    · cases h
/-! ### tests -/
def notNot : Op → Bool
  | .not => false
  | _ => true
def valT (rec : Rec) (sc : Sc) (e : Expr) : IE → Bool
  | .op f es => notNot f && rec false sc e (.op f es)
  | .chain _ _ _ _ _ => false
  | .dcmp _ _ _ _ _ => false
  | .and _ _ => false
  | .or _ _ => false
  | ie => opndC rec sc e ie
def testC (rec : Rec) (sc : Sc) (e : Expr) (ie : IE) : Bool := match e with
  | .UnaryOp .Not a _ => (match ie with
    | .op .not [x] => rec true sc a x
    | _ => false)
  | .BoolOp o es _ => boolC rec true sc o es ie
  | .Compare a os bs p => (match ie with
    | .op (.cmp o) es => cmpC rec sc o (.Compare a os bs p) es
    | .chain f g x y z => (match os, bs with
      | [f', g'], [b, d] => decide (f = f') && decide (g = g') && !lastMarks [f, g] [b, d] && opndC rec sc a x && opndC rec sc b y && opndC rec sc d z
      | _, _ => false)
    | .dcmp f t es u ds => (match os, bs with
      | [f'], [b] => decide (f = f') && !behindInMarks f b && dspC rec sc a t es && dspC rec sc b u ds
      | _, _ => false)
    | _ => false)
  | e => valueE e && valT rec sc e ie
theorem evT_op {f : Op} {es : List IE} {run : Fr → Res PV} (h : notNot f = true) (ρ : Fr) : evT cf (.op f es) run ρ = asB (run ρ) := by
  cases f <;> first
    | simp only [evT]
    | cases h
def valIE : IE → Bool
  | .op _ _ => false
  | .chain _ _ _ _ _ => false
  | .dcmp _ _ _ _ _ => false
  | .and _ _ => false
  | .or _ _ => false
  | _ => true
theorem evT_val {ie : IE} {run : Fr → Res PV} (h : valIE ie = true) (ρ : Fr) : evT cf ie run ρ = (opnd ie run ρ).bind fun o ρ1 => match rsv ρ1 o with
    | some p => (match truth p with
      | some k => .ok k ρ1
      | none => .bad)
    | none => .bad := by
  cases ie <;> first
    | first | (simp only [evT]; done) | (simp only [evT]; rfl)
    | cases h
theorem st_valT (hr : RecOk ad rec) {e : Expr} {ie : IE} (he : valueE e = true) (h : valT rec sc e ie = true) (g : Good ad X W cf sc) : ST ad X W e (evT cf ie (evE cf ie)) := by
  by_cases hv : valIE ie = true
  · have h' : opndC rec sc e ie = true := by
      cases ie <;> first
        | exact h
        | cases hv
    refine (pt_truth (opnd_ok (W := W) hr h' g) (valueE_true he _)).imp fun σ H Q q => rd_truth (ie := ie) (run := evE cf ie) ?_
    obtain ⟨ρ, G, c, sl, hh, ha⟩ := q
    exact ⟨ρ, G, c, sl, hh, by rw [evT_val hv] at ha; exact ha⟩
  · cases ie with
    | op f es =>
      simp only [valT, Bool.and_eq_true] at h
      refine (pt_truth (hr _ _ _ _ h.2 X W cf g) (valueE_true he _)).imp fun σ H Q q => ?_
      have q' : rd ad X W RelB (fun ρ => asB (evE cf (.op f es) ρ)) σ H Q := by
        obtain ⟨ρ, G, c, sl, hh, ha⟩ := q
        exact ⟨ρ, G, c, sl, hh, by rw [evT_op h.1] at ha; exact ha⟩
      exact rd_imp (rd_asB q') fun v H1 ⟨k, e, q⟩ => ⟨k, by subst e; rfl, q⟩
    | chain => cases h
    | dcmp => cases h
    | and => cases h
    | or => cases h
    | _ => exact absurd rfl hv
theorem test_ok (hr : RecOk ad rec) {e : Expr} {ie : IE} (h : testC rec sc e ie = true) : Snd ad true sc e ie := fun X W cf g => by
  unfold testC at h
  split at h
  · split at h
    · exact st_not (hr _ _ _ _ h X W cf g)
    · cases h
  · exact (bool_okW hr g h).pt
  · split at h
    · exact cmp_okT hr h g
    · split at h
      · simp only [Bool.and_eq_true, decide_eq_true_eq, Bool.not_eq_true'] at h
        obtain ⟨⟨⟨⟨⟨rfl, rfl⟩, h0⟩, h1⟩, h2⟩, h3⟩ := h
        exact (pt_chain (op_cmpN g.hu _) (op_cmpN g.hu _) (opnd_ok hr h1 g) (opnd_ok hr h2 g) (opnd_ok hr h3 g) h0).imp fun _ _ _ q => rd_chain (W := W) (rd_asB (by simpa only [evT] using q))
      · cases h
    · split at h
      · simp only [Bool.and_eq_true, decide_eq_true_eq, Bool.not_eq_true'] at h
        obtain ⟨⟨⟨rfl, h0⟩, h1⟩, h2⟩ := h
        exact (pt_cmpR (op_cmpN g.hu _) (dsp_ok (W := W) hr h1 g) (dsp_ok (W := W) hr h2 g) h0).imp fun _ _ _ q => rd_dcmp (rd_asB (by simpa only [evT] using q))
      · cases h
    · cases h
  · rw [Bool.and_eq_true] at h
    exact st_valT hr h.1 h.2 g
/-- the checker -/
def chk : Nat → Rec
  | 0 => fun _ _ _ _ => false
  | n + 1 => fun m sc e ie => match m with
    | false => exprC (chk n) sc e ie
    | true => testC (chk n) sc e ie
theorem chk_ok : ∀ n : Nat, RecOk ad (chk n)
  | 0 => fun m sc e ie h => by cases h
  | n + 1 => fun m sc e ie h => by
    cases m with
    | false => exact expr_ok (chk_ok n) h
    | true => exact test_ok (chk_ok n) h
end
end Y
end
section
set_option Elab.async false
set_option linter.all false
set_option maxRecDepth 100000
set_option maxHeartbeats 4000000
set_option autoImplicit false
/-! Y15: the checker: statements. -/
namespace Y
open PySem L2
variable {ad : Str → Addr}
structure GoodS (ad : Str → Addr) (X : Cx) (W : WX) (cf : Cf) (sc : Sc) (P : Pt) : Prop where
  g : Good ad X W cf sc
  pass : PassesOwn (model X.prog X.w) X.A X.env X.xe
  pr : P.pr = sc.pr
def scopeOfC : Expr → Option Scope
  | .ListComp _ _ s _ => some s
  | .SetComp _ _ s _ => some s
  | .DictComp _ _ _ s _ => some s
  | _ => none
def blkFn (sc : Sc) : Bool := (if sc.scope.kind.isAnnotationScope then ScopeKind.function else sc.scope.kind) == .function
def swC (sc : Sc) (v : Expr) (x : Str) (p : Pos) : Bool := match scopeOfC v with
  | none => false
  | some s => blkFn sc && sc.scope.names.lookup x == some .local && p.line == v.pos.line && !(s.names.any fun (n, k) => n == x && (k == .local || k == .cell))
section
variable {X : Cx} {W : WX} {cf : Cf} {sc : Sc} {P : Pt} {rec : Rec} {pos : Pos}
theorem sw_eq (g : Good ad X W cf sc) (v : Expr) (x : Str) (p : Pos) (line : Nat) : swapsWith v (some (.Name x p)) line X.env = pure (swC sc v x p) := by
  have e1 : X.env.blockKind = (if sc.scope.kind.isAnnotationScope then ScopeKind.function else sc.scope.kind) := by
    unfold Env.blockKind
    rw [g.hsc]
  have e2 : X.env.kindOf x = sc.scope.names.lookup x := by
    unfold Env.kindOf
    rw [g.hsc]
  cases v <;> first
    | rfl
    | (simp only [swapsWith, swC, scopeOfC, blkFn, e1, e2])
def notName : Expr → Bool
  | .Name _ _ => false
  | _ => true
theorem sw_no {v t : Expr} (h : notName t = true) (line : Nat) (env : Env) : swapsWithSole [t] v line env = pure false := by
  cases t <;> first
    | (cases v <;> rfl)
    | cases h
theorem sw_drop {v : Expr} (h : (scopeOfC v).isNone = true) (line : Nat) (env : Env) : swapsWith v none line env = pure false := by
  cases v <;> first
    | rfl
    | cases h
theorem Good.store (g : Good ad X W cf sc) {x : Str} {i : Nat} (h1 : decide (sc.N[i]? = some x) = true) (h2 : locC sc x = true) : X.N[i]? = some x ∧ Loc X.env.scope x ∧ (X.fn x = true ∨ X.env.scope.names.lookup x = some .local) := by
  obtain ⟨a, b⟩ := g.loc h2
  exact ⟨by rw [g.hN]; exact of_decide_eq_true h1, a, b⟩
theorem prC (s : GoodS ad X W cf sc P) {i : Nat} (h : sc.pr.contains i = false) : i ∉ P.pr := fun z => by
  rw [s.pr] at z
  rw [List.contains_iff_mem.mpr z] at h
  cases h
theorem Good.prs (g : Good ad X W cf sc) (pr : List Nat) : Good ad X W cf { sc with pr := pr } := ⟨g.hN, g.nd, g.hsc, g.hfn, g.calm, g.hu, g.tk, g.blt, g.glob, g.lend⟩
/-- name = value -/
def setC (rec : Rec) (sc : Sc) (i : Nat) (st : Stmt) (e : IE) : Bool := match st with
  | .Assign [.Name x p] v _ => decide (sc.N[i]? = some x) && locC sc x && !sc.pr.contains i && (match swC sc v x p with
    | false => rec false sc v e
    | true => (match v, e with
      | .ListComp el [⟨t, it, fs, as⟩] scope _, .comp elt tg src ifs own => decide (as = 0) && compC rec sc el t it fs scope elt tg src ifs own
      | .ListComp el [⟨t, .Name x2 _, fs, as⟩] scope _, .compv elt tg j ifs own => decide (as = 0) && compVC rec sc el t x2 fs scope elt tg j ifs own
      | _, _ => false))
  | _ => false
theorem set_ok (hr : RecOk ad rec) {i : Nat} {st : Stmt} {e : IE} (h : setC rec sc i st e = true) (s : GoodS ad X W cf sc P) : SS ad X W P st (evS cf (.set i e)) := by
  have g := s.g
  unfold setC at h
  split at h
  · rename_i x p v spos
    simp only [Bool.and_eq_true, Bool.not_eq_true'] at h
    obtain ⟨⟨⟨h1, h2⟩, h3⟩, h⟩ := h
    obtain ⟨a, b, c⟩ := g.store h1 h2
    split at h
    · rename_i hsw
      exact ss_set (ps_set g.nd a b (hr _ _ _ _ h X W cf g) (by rw [sw_eq g, hsw]) c) (prC s h3)
    · rename_i hsw
      split at h
      · simp only [Bool.and_eq_true, decide_eq_true_eq] at h
        obtain ⟨rfl, h⟩ := h
        have k := comp_ok (X := X) (W := W) (cf := cf) hr h g
        have hl : sc.scope.names.lookup x = some .local := by
          simp only [swC, scopeOfC, Bool.and_eq_true] at hsw
          simpa using hsw.1.1.2
        refine ss_set ((ps_setLc g.calm g.nd a (by rw [g.hsc]; exact hl) (by rw [sw_eq g, hsw]) k.si k.bo k.pg k.pt k.pe k.fs).imp fun D σ H q => ?_) (prC s h3)
        obtain ⟨ρ, G, cc, sl, hh, ha⟩ := q
        have q' : rd ad X W (RelP ad X.K) (evE cf (.comp _ _ _ _ ((ownP sc _).map (·.2)))) σ H fun x H1 => gName i x σ H1 D.nx := ⟨ρ, G, cc, sl, hh, by rw [ownP_map]; exact ha⟩
        exact rd_comp k.sl q'
      · simp only [Bool.and_eq_true, decide_eq_true_eq] at h
        obtain ⟨rfl, h⟩ := h
        have k := compV_ok (X := X) (W := W) (cf := cf) hr h g
        have hl : sc.scope.names.lookup x = some .local := by
          simp only [swC, scopeOfC, Bool.and_eq_true] at hsw
          simpa using hsw.1.1.2
        refine ss_set ((ps_setLc g.calm g.nd a (by rw [g.hsc]; exact hl) (by rw [sw_eq g, hsw]) (pi_list (k.nm _)) k.bo k.pg k.pt k.pe fun _ => rfl).imp fun D σ H q => ?_) (prC s h3)
        obtain ⟨ρ, G, cc, sl, hh, ha⟩ := q
        have q' : rd ad X W (RelP ad X.K) (evE cf (.compv _ _ _ _ ((ownP sc _).map (·.2)))) σ H fun x H1 => gName i x σ H1 D.nx := ⟨ρ, G, cc, sl, hh, by rw [ownP_map]; exact ha⟩
        exact rd_compv k.sl q'
      · cases h
  · cases h
/-- a, b = value (not a display) -/
def isTupD : Expr → Bool
  | .Tuple _ _ _ => true
  | _ => false
def asgC (rec : Rec) (sc : Sc) (tg : IT) (st : Stmt) (e : IE) : Bool := match st with
  | .Assign [.Tuple es k p] v _ => !isTupD v && tgC 5 sc (.Tuple es k p) tg && tg.slots.all (fun j => !sc.pr.contains j) && rec false sc v e
  | _ => false
theorem swst_no {es : List Expr} {k : Nat} {p : Pos} {v : Expr} (h : isTupD v = false) (env : Env) : swappedStores [.Tuple es k p] v env = pure none := by
  cases v <;> first
    | rfl
    | cases h
theorem asg_ok (hr : RecOk ad rec) {tg : IT} {st : Stmt} {e : IE} (h : asgC rec sc tg st e = true) (s : GoodS ad X W cf sc P) : SS ad X W P st (evS cf (.asg tg e)) := by
  unfold asgC at h
  split at h
  · simp only [Bool.and_eq_true, Bool.not_eq_true'] at h
    obtain ⟨⟨⟨h1, h2⟩, h3⟩, h4⟩ := h
    refine ss_asg (ps_asg (hr _ _ _ _ h4 X W cf s.g) (tg_ok s.g 5 h2) (sw_no rfl _ _) (swst_no h1 _) rfl) fun j hj => prC s ?_
    have := List.all_eq_true.mp h3 j hj
    simpa using this
  · cases h
/-- name += value -/
def augC (rec : Rec) (sc : Sc) (i : Nat) (op : Operator) (st : Stmt) (e : IE) : Bool := match st with
  | .AugAssign (.Name x _) o v _ => decide (o = op) && (decide (op = .Add) || decide (op = .Sub)) && decide (sc.N[i]? = some x) && locC sc x && visC sc x && !sc.pr.contains i && rec false sc v e
  | _ => false
theorem aug_ok (hr : RecOk ad rec) {i : Nat} {op : Operator} {st : Stmt} {e : IE} (h : augC rec sc i op st e = true) (s : GoodS ad X W cf sc P) : SS ad X W P st (evS cf (.aug i op e)) := by
  unfold augC at h
  split at h
  · simp only [Bool.and_eq_true, Bool.or_eq_true, Bool.not_eq_true'] at h
    obtain ⟨⟨⟨⟨⟨⟨h0, ho⟩, h1⟩, h2⟩, hv⟩, h3⟩, h⟩ := h
    cases of_decide_eq_true h0
    obtain ⟨a, b, c⟩ := s.g.store h1 h2
    rcases ho with ho | ho
    · cases of_decide_eq_true ho
      exact ss_aug (ps_aug s.g.nd a b (hr _ _ _ _ h X W cf s.g) ip_add c) (prC s h3) (.inl ⟨rfl, rfl⟩)
    · cases of_decide_eq_true ho
      exact ss_aug (ps_aug s.g.nd a b (hr _ _ _ _ h X W cf s.g) ip_sub c) (prC s h3) (.inr ⟨rfl, rfl⟩)
  · cases h
/-- name[ix] = value -/
def subC (rec : Rec) (sc : Sc) (i : Nat) (ix e : IE) (st : Stmt) : Bool := match st with
  | .Assign [.Subscript (.Name x _) b _] v _ => nameC sc x i && plainIxE b && opndC rec sc b ix && rec false sc v e
  | _ => false
theorem sub_ok (hr : RecOk ad rec) {i : Nat} {ix e : IE} {st : Stmt} (h : subC rec sc i ix e st = true) (s : GoodS ad X W cf sc P) : SS ad X W P st (evS cf (.sub i ix e)) := by
  unfold subC at h
  split at h
  · rename_i x p b p2 v p3
    simp only [Bool.and_eq_true] at h
    obtain ⟨⟨⟨h1, h2⟩, h3⟩, h4⟩ := h
    refine (ps_asg (hr _ _ _ _ h4 X W cf s.g) (pg_sub (s.g.name h1) (opnd_ok (W := W) hr h3 s.g) set_list fun v => ?_) (sw_no rfl _ _) (by cases v <;> rfl) rfl).imp fun D σ H q => rd_sub q
    cases b <;> first
      | rfl
      | cases h2
  · cases h
/-- name.append(e), name.extend(e) -/
def appC (rec : Rec) (sc : Sc) (m : Str) (i : Nat) (e : IE) (st : Stmt) : Bool := match st with
  | .Expr (.Call (.Attribute (.Name x _) name apos) [a] [] cpos) _ => decide (name = m) && nameC sc x i && (apos.endLine == cpos.line) && plainE a && rec false sc a e
  | _ => false
theorem few1 {a : Expr} (h : plainE a = true) {cpos : Pos} {env : Env} : ((backTo cpos (starEach [a] env)).all (fun x => !x.1) && (backToKw cpos (keywordEach [] env)).all (fun x => x.1.isSome)
      && decide ([a].length + ([] : List Keyword).length + (if ([] : List Keyword).isEmpty then 0 else 1) < 30)) = true := by
  rw [all_plain (by simp [plainEs, h])]
  rfl
theorem app_ok' (hr : RecOk ad rec) {i : Nat} {e : IE} {st : Stmt} (h : appC rec sc ("append" : Str) i e st = true) (s : GoodS ad X W cf sc P) : SS ad X W P st (evS cf (.app i e)) := by
  unfold appC at h
  split at h
  · simp only [Bool.and_eq_true, decide_eq_true_eq] at h
    obtain ⟨⟨⟨⟨rfl, h1⟩, h2⟩, h3⟩, h4⟩ := h
    exact (ps_expr (pe_bm PySem.F.plainAttrs_list PySem.F.slot_list_append PySem.F.type_list_append (fun pins s σ H x xs v us Q I r rs q => mt_append pins s σ H x xs v us Q I r rs q) (s.g.name h1) (pa_cons (hr _ _ _ _ h4 X W cf s.g) pa_nil (star1 h3 _)) rfl (few1 h3) h2 (star1 h3 _) rfl) rfl).imp fun D σ H q => rd_app q
  · cases h
theorem ext_ok' (hr : RecOk ad rec) {i : Nat} {e : IE} {st : Stmt} (h : appC rec sc ("extend" : Str) i e st = true) (s : GoodS ad X W cf sc P) : SS ad X W P st (evS cf (.ext i e)) := by
  unfold appC at h
  split at h
  · simp only [Bool.and_eq_true, decide_eq_true_eq] at h
    obtain ⟨⟨⟨⟨rfl, h1⟩, h2⟩, h3⟩, h4⟩ := h
    exact (ps_expr (pe_bm PySem.F.plainAttrs_list PySem.F.slot_list_extend PySem.F.type_list_extend (fun pins s σ H x xs v us Q I r rs q => mt_extend pins s σ H x xs v us Q I r rs q) (s.g.name h1) (pa_cons (hr _ _ _ _ h4 X W cf s.g) pa_nil (star1 h3 _)) rfl (few1 h3) h2 (star1 h3 _) rfl) rfl).imp fun D σ H q => rd_ext q
  · cases h
/-! ### blocks -/
abbrev RecS := Sc → List Stmt → List IS → Bool
abbrev RecSOk (ad : Str → Addr) (recB : RecS) : Prop := ∀ sc sts iss, recB sc sts iss = true → ∀ X W cf P, GoodS ad X W cf sc P → SB ad X W P sts (evB cf iss)
def stmtC (rec : Rec) (recB : RecS) (sc : Sc) (st : Stmt) : IS → Bool
  | .set i e => setC rec sc i st e
  | .asg tg e => asgC rec sc tg st e
  | .par _ _ => false
  | .aug i o e => augC rec sc i o st e
  | .sub i ix e => subC rec sc i ix e st
  | .app i e => appC rec sc ("append" : Str) i e st
  | .ext i e => appC rec sc ("extend" : Str) i e st
  | .exp e => (match st with
    | .Expr v _ => (scopeOfC v).isNone && rec false sc v e
    | _ => false)
  | .ret e => (match st with
    | .Return (some v) _ => rec false sc v e
    | _ => false)
  | .retN => (match st with
    | .Return none _ => true
    | _ => false)
  | .ife t a b => (match st with
    | .If c p q _ => rec true sc c t && recB sc p a && recB sc q b
    | _ => false)
  | .fors tg src body => (match st with
    | .For t it b [] _ => srcC rec sc t it src && notSet it && tgC 5 sc t tg && tg.slots.all (fun j => !sc.pr.contains j) && recB sc b body
    | _ => false)
  | .forv tg i body => (match st with
    | .For t (.Name x _) b [] _ => nameC sc x i && tgC 5 sc t tg && tg.slots.all (fun j => !sc.pr.contains j) && !tg.slots.contains i && recB { sc with pr := i :: sc.pr } b body
    | _ => false)
  | .whl t body => (match st with
    | .While c b [] _ => rec true sc c t && recB sc b body
    | _ => false)
  | .brk => (match st with
    | .Break _ => true
    | _ => false)
  | .cnt => (match st with
    | .Continue _ => true
    | _ => false)
  | .pas => (match st with
    | .Pass _ => true
    | .Expr (.Constant (.str _) _ _) _ => true
    | _ => false)
  | .rai _ _ _ => false
theorem stmt_ok (hr : RecOk ad rec) {recB : RecS} (hb : RecSOk ad recB) {st : Stmt} {is : IS} (h : stmtC rec recB sc st is = true) (s : GoodS ad X W cf sc P) : SS ad X W P st (evS cf is) := by
  cases is with
  | set i e => exact set_ok hr h s
  | asg tg e => exact asg_ok hr h s
  | par is es => cases h
  | aug i o e => exact aug_ok hr h s
  | sub i ix e => exact sub_ok hr h s
  | app i e => exact app_ok' hr h s
  | ext i e => exact ext_ok' hr h s
  | exp e =>
    simp only [stmtC] at h
    split at h
    · rw [Bool.and_eq_true] at h
      exact ss_expr (hr _ _ _ _ h.2 X W cf s.g) (sw_drop h.1 _ _)
    · cases h
  | ret e =>
    simp only [stmtC] at h
    split at h
    · exact ss_ret (hr _ _ _ _ h X W cf s.g)
    · cases h
  | retN =>
    simp only [stmtC] at h
    split at h
    · exact ss_retN
    · cases h
  | ife t a b =>
    simp only [stmtC] at h
    split at h
    · simp only [Bool.and_eq_true] at h
      exact ss_if (hr _ _ _ _ h.1.1 X W cf s.g) (hb _ _ _ h.1.2 X W cf P s) (hb _ _ _ h.2 X W cf P s)
    · cases h
  | fors tg src body =>
    simp only [stmtC] at h
    split at h
    · simp only [Bool.and_eq_true] at h
      obtain ⟨⟨⟨⟨h1, h2⟩, h3⟩, h4⟩, h5⟩ := h
      refine ss_for s.pass s.g.calm (src_ok hr h1 s.g) (tg_ok s.g 5 h3) (hb _ _ _ h5 X W cf P s) (notSet_ok h2 _) fun j hj => prC s ?_
      have := List.all_eq_true.mp h4 j hj
      simpa using this
    · cases h
  | forv tg i body =>
    simp only [stmtC] at h
    split at h
    · simp only [Bool.and_eq_true, Bool.not_eq_true'] at h
      obtain ⟨⟨⟨⟨h1, h2⟩, h3⟩, h4⟩, h5⟩ := h
      refine ss_forv s.pass s.g.calm (s.g.name h1) (tg_ok s.g 5 h2) (fun σ0 => hb _ _ _ h5 X W cf ⟨i :: P.pr, σ0⟩ ⟨s.g.prs _, s.pass, by show i :: P.pr = i :: sc.pr; rw [s.pr]⟩) (fun j hj => prC s ?_) fun z => ?_
      · have := List.all_eq_true.mp h3 j hj
        simpa using this
      · rw [List.contains_iff_mem.mpr z] at h4
        cases h4
    · cases h
  | whl t body =>
    simp only [stmtC] at h
    split at h
    · rw [Bool.and_eq_true] at h
      exact ss_while s.pass (hr _ _ _ _ h.1 X W cf s.g) (hb _ _ _ h.2 X W cf P s)
    · cases h
  | brk =>
    simp only [stmtC] at h
    split at h
    · exact ss_break
    · cases h
  | cnt =>
    simp only [stmtC] at h
    split at h
    · exact ss_continue
    · cases h
  | pas =>
    simp only [stmtC] at h
    split at h
    · exact ss_pass
    · exact ss_doc
    · cases h
  | rai => cases h
def blockC (r : Stmt → IS → Bool) : List Stmt → List IS → Bool
  | [], [] => true
  | st :: sts, is :: iss => r st is && blockC r sts iss
  | _, _ => false
def chkB (rec : Rec) : Nat → RecS
  | 0 => fun _ _ _ => false
  | n + 1 => fun sc sts iss => blockC (stmtC rec (chkB rec n) sc) sts iss
theorem chkB_ok (hr : RecOk ad rec) : ∀ n : Nat, RecSOk ad (chkB rec n)
  | 0 => fun sc sts iss h => by cases h
  | n + 1 => fun sc sts iss h X W cf P s => by
    have ih := chkB_ok hr n
    change blockC (stmtC rec (chkB rec n) sc) sts iss = true at h
    induction sts generalizing iss with
    | nil =>
      cases iss with
      | nil => exact sb_nil
      | cons => cases h
    | cons st sts ih2 =>
      cases iss with
      | nil => cases h
      | cons is iss =>
        simp only [blockC, Bool.and_eq_true] at h
        exact sb_cons (stmt_ok hr ih h.1 s) (ih2 _ h.2)
end
end Y
end
section
set_option Elab.async false
set_option linter.all false
set_option maxRecDepth 100000
set_option maxHeartbeats 4000000
set_option autoImplicit false
/-! Y16: all the defs of a law keep what the evaluator says of them; the law's end. -/
namespace Y
open PySem L2
variable {ad : Str → Addr}
/-- a def of the text -/
structure Ent where
  key : Str
  st : Stmt
  N : List Str
  ps : List Str
  fd : Fd
def tblOf (es : List Ent) : Tb := fun k => (es.find? fun e => decide (e.key = k)).map (·.fd)
theorem tblOf_mem : ∀ {es : List Ent} {e : Ent}, (es.map (·.key)).Nodup → e ∈ es → tblOf es e.key = some e.fd
  | a :: es, e, nd, h => by
    rw [List.map_cons, List.nodup_cons] at nd
    unfold tblOf
    rw [List.find?_cons]
    by_cases he : a.key = e.key
    · rw [decide_eq_true he]
      rcases List.mem_cons.mp h with rfl | h
      · rfl
      · exact absurd (List.mem_map.mpr ⟨e, h, he.symm⟩) nd.1
    · rw [decide_eq_false he]
      rcases List.mem_cons.mp h with rfl | h
      · exact absurd rfl he
      · exact tblOf_mem nd.2 h
structure Lw where
  es : List Ent
  cs : List (Str × PV)
  bl : List Str
def Lw.T (l : Lw) : Tb := tblOf l.es
def Lw.gl (l : Lw) : List (Str × GE) := l.es.map (fun e => (e.key, GE.fn e.key)) ++ l.cs.map fun c => (c.1, GE.cst c.2)
def Lw.sc (l : Lw) (e : Ent) : Sc := { N := e.N, scope := defScope e.st, fnS := fun _ => true, gl := l.gl, bl := l.bl, lend := lendOf l.T, pr := protOf e.fd }
instance (N P : List Str) (sc : Scope) : Decidable (sc.kind = .function ∧ sc.isCoroutine = false ∧ sc.isGenerator = false ∧ N.Nodup ∧ N.take P.length = P ∧ (∀ x ∈ P, sc.names.lookup x = some .local ∨ sc.names.lookup x = some .cell) ∧ (∀ y ∈ sc.names, y.2 ≠ .free)) := inferInstance
def scopeC (N P : List Str) (sc : Scope) : Bool := decide (sc.kind = .function ∧ sc.isCoroutine = false ∧ sc.isGenerator = false ∧ N.Nodup ∧ N.take P.length = P ∧ (∀ x ∈ P, sc.names.lookup x = some .local ∨ sc.names.lookup x = some .cell) ∧ (∀ y ∈ sc.names, y.2 ≠ .free))
theorem scopeC_ok {N P : List Str} {sc : Scope} (h : scopeC N P sc = true) : FnScope N P sc := by
  obtain ⟨h1, h2, h3, h4, h5, h6, h7⟩ := of_decide_eq_true h
  exact ⟨h1, h2, h3, h4, h5, h6, h7⟩
def Lw.entC (l : Lw) (e : Ent) : Bool := scopeC e.N e.ps (defScope e.st) && decide (e.fd.n = e.N.length) && decide (e.fd.ps = e.ps.length) && chkB (chk 40) 30 (l.sc e) (defBody e.st) e.fd.body
def Lw.ok (l : Lw) : Prop := (l.es.map (·.key)).Nodup ∧ ∀ e ∈ l.es, l.entC e = true
/-- what the module's run has left of a def -/
def EntOk (ad : Str → Addr) (K : PySem.W.Frag) (mg : Str → Option Value) (e : Ent) : Prop := ∃ fdat, Fun K e.key e.key e.st (ad e.key) fdat ∧ Binds K fdat e.ps [] ∧ mg e.key = some (.ref (ad e.key))
def CstOk (mg : Str → Option Value) (c : Str × PV) : Prop := ∃ u v, mg c.1 = some u ∧ RelV v u ∧ ∀ ad K G, Rep ad K G c.2 v []
section
variable {P : Program} {w : World} {K : PySem.W.Frag} {mg : Str → Option Value} {base : Heap}
theorem lookup_map_mem {α β : Type} {f : α → Str × β} : ∀ {l : List α} {x : Str} {g : β}, (l.map f).lookup x = some g → ∃ a ∈ l, f a = (x, g)
  | [], x, g, h => by simp at h
  | a :: l, x, g, h => by
    rw [List.map_cons] at h
    rcases hf : f a with ⟨n, b⟩
    rw [hf, List.lookup_cons] at h
    cases hx : x == n with
    | true =>
      rw [hx] at h
      cases h
      rw [eq_of_beq hx]
      exact ⟨a, List.mem_cons_self, hf⟩
    | false =>
      rw [hx] at h
      obtain ⟨a', h1, h2⟩ := lookup_map_mem h
      exact ⟨a', List.mem_cons_of_mem _ h1, h2⟩
theorem lookup_app {β : Type} : ∀ {l m : List (Str × β)} {x : Str} {g : β}, (l ++ m).lookup x = some g → l.lookup x = some g ∨ m.lookup x = some g
  | [], m, x, g, h => .inr h
  | (n, b) :: l, m, x, g, h => by
    rw [List.cons_append, List.lookup_cons] at h
    rw [List.lookup_cons]
    cases hx : x == n with
    | true => rw [hx] at h; exact .inl h
    | false => rw [hx] at h; exact lookup_app h
theorem fn_bad {f : Addr} {fd : FuncData} {ps : List Str} {call : List PV → CR} {k : Nat} (h : ∀ as, call as = .bad) : FnOk P w K mg base (L2.CX P w) k f fd ps (SpOf ad K call) := by
  refine ⟨fun vs H Q E ⟨as, G, c, r, hh, a⟩ => ?_, fun A outer s H args us vs Q E hr e0 hb r ⟨as, G, c, r', hh, a⟩ => ?_⟩
  · rw [h] at a; exact a.elim
  · rw [h] at a; exact a.elim
/-- every def, at every depth of calls -/
theorem all_ok {l : Lw} (hl : l.ok) (hE : ∀ e ∈ l.es, EntOk ad K mg e) (hc : ∀ c ∈ l.cs, CstOk mg c) (hbl : ∀ x ∈ l.bl, mg x = none) (fuel : Nat) : ∀ n : Nat, ∀ e ∈ l.es, ∀ fdat, Fun K e.key e.key e.st (ad e.key) fdat →
    FnOk P w K mg base (L2.CX P w) n (ad e.key) fdat e.ps (SpOf ad K (callN l.T fuel n e.key))
  | 0, e, he, fdat, F => fn_bad fun as => rfl
  | n + 1, e, he, fdat, F => by
    have ih := all_ok hl hE hc hbl fuel n
    have ec := hl.2 e he
    simp only [Lw.entC, Bool.and_eq_true, decide_eq_true_eq] at ec
    obtain ⟨⟨⟨h1, h2⟩, h3⟩, h4⟩ := ec
    have hT : l.T e.key = some e.fd := tblOf_mem hl.1 he
    have hrun : callN l.T fuel (n + 1) e.key = runF ⟨callN l.T fuel n, lendOf l.T, fuel⟩ e.fd := by
      funext as
      simp only [callN, hT]
    rw [hrun]
    refine fn_run F (scopeC_ok h1) h2 h3 fun X cdv A outer s H vs E hX hr tk pass => ?_
    subst hX
    have g : Good ad (cxOf (L2.CX P w) P w K mg base e.N e.key (defScope e.st) (ad e.key) cdv A outer s H E) (fun cls d _ H => E cls d H) ⟨callN l.T fuel n, lendOf l.T, fuel⟩ (l.sc e) := by
      refine ⟨rfl, (scopeC_ok h1).nd, rfl, fun _ _ => rfl, rfl, ?_, tk, hbl, fun x ge hx => ?_, rfl⟩
      · have := hr.un
        omega
      · rcases lookup_app hx with hx | hx
        · obtain ⟨e', he', e2⟩ := lookup_map_mem hx
          cases e2
          obtain ⟨fdat', F', b1, b3⟩ := hE e' he'
          exact ⟨n, fdat', e'.ps, ih e' he' fdat' F', hr, b3, F'.kp, b1⟩
        · obtain ⟨c, hcm, e2⟩ := lookup_map_mem hx
          cases e2
          obtain ⟨u, v, m, r, z⟩ := hc c hcm
          exact ⟨u, v, m, r, fun G => z ad K G⟩
    exact chkB_ok (chk_ok 40) 30 _ _ _ h4 _ _ _ _ ⟨g, pass, rfl⟩
end
/-- the law's promise from a run of the evaluator -/
theorem law_sp {K : PySem.W.Frag} {H : Hp} {a : Addr} {ns : List Int} {call : List PV → CR} (hS : SqL K H a (ns.map V.int)) (h : ∃ as, call [.lck (ns.map .int)] = .ok (.bl true) as) : SpOf ad K call [.ref a] H (fun v _ => v = .bl true) fun _ _ _ => False := by
  obtain ⟨as, h⟩ := h
  have hr : ∀ ms : List Int, RepL ad K H (ms.map PV.int) (ms.map V.int) [] := fun ms => by
    induction ms with
    | nil => exact .nil
    | cons m ms ih => exact RepL.cons0 (.int m) ih
  refine ⟨[.lck (ns.map .int)], H, [], RepL.cons0 (.lck hS (hr ns)) .nil, ⟨Sub.refl H, (fun z hz => nomatch hz), (fun z hz => nomatch hz), List.nodup_nil⟩, ?_⟩
  rw [h]
  intro v H' G' c' t s sl hh r
  cases r
  rfl
theorem noCX {P : Program} {w : World} {H : Hp} {s s' : Shared} {e : Value} (h : L2.CX P w [] H s (fun _ _ _ => False) e s') : False := by
  obtain ⟨_, _, _, _, _, _, _, _, _, _, _, _, z⟩ := h
  exact z
end Y
end
section
set_option Elab.async false
set_option linter.all false
set_option maxRecDepth 100000
set_option maxHeartbeats 4000000
set_option autoImplicit false
/-! Y17: the law's end. -/
namespace Y
open PySem L2
def adOf (mg : Str → Option Value) : Str → Addr := fun k => match mg k with
  | some (.ref a) => a
  | _ => 0
/-- what the module's run has left of a def, by its place -/
def EntF (K : PySem.W.Frag) (mg : Str → Option Value) (x : Str) (st : Stmt) (ps : List Str) : Prop := ∃ f fdat, Fun K x x st f fdat ∧ (∀ us : List Value, us.length = ps.length → bindArgs fdat ⟨us, []⟩ = pure (ps.zip us)) ∧ mg x = some (.ref f)
section
variable {K : PySem.W.Frag} {h : Heap} {mg : Str → Option Value}
theorem ent_fact {x : Str} {st : Stmt} {ps : List Str} (X : K.In h) (G : h.Ns mainGlobals mg) {f : Addr} {od an : Option Addr} {sl : Array (Option Value)} {oc kV dc pm cd ct : Value} (a : PySem.W.nsIn K mainGlobals x = some (some (.ref f)))
    (l : K.lookup f = some ⟨oc, od, .func (PySem.W.fnOf x x (defArgs st) (defBody st) (defScope st) .none kV dc pm an cd ct), sl⟩) (c : PySem.W.codeIn K cd x = true) (k : PySem.W.keepIn K (.ref f) = true)
    (hb : ∀ us : List Value, us.length = ps.length → bindArgs (PySem.W.fnOf x x (defArgs st) (defBody st) (defScope st) .none kV dc pm an cd ct) ⟨us, []⟩ = pure (ps.zip us)) : EntF K mg x st ps :=
  ⟨f, _, fun_mk l c k, hb, PySem.W.mg_of X G a⟩
theorem EntF.ok {e : Ent} (F : EntF K mg e.key e.st e.ps) : EntOk (adOf mg) K mg e := by
  obtain ⟨f, fdat, F, hb, hm⟩ := F
  have ea : adOf mg e.key = f := by
    unfold adOf
    rw [hm]
  exact ⟨fdat, by rw [ea]; exact F, .all hb, by rw [ea]; exact hm⟩
theorem law_end {P : Program} {w : World} {l : Lw} {e : Ent} {fa : Addr} {x : Str} (hl : l.ok) (he : e ∈ l.es) (hps : e.ps = [x]) (hF : ∀ e ∈ l.es, EntF K mg e.key e.st e.ps) (hc : ∀ c ∈ l.cs, CstOk mg c) (hbl : ∀ x ∈ l.bl, mg x = none) (hmg : mg e.key = some (.ref fa))
    (fuel n : Nat) (hp : ∀ ns : List Int, ns.length ≤ 63 → ∃ as, callN l.T fuel n e.key [.lck (ns.map .int)] = .ok (.bl true) as) :
    ∃ (fd : FuncData) (sp : Sp), (∀ (s : Shared) (u : Value), BindsTo s fd ⟨[u], []⟩ [(x, u)]) ∧
        (∀ (H : Hp) (a : Addr) (ns : List Int), ns.length ≤ 63 → Only H → SqL K H a (ns.map V.int) → sp [.ref a] H (fun v _ => v = .bl true) fun _ _ _ => False) ∧
        ∀ base : Heap, K.In base → base.Ns mainGlobals mg → FnOk P w K mg base (L2.CX P w) n fa fd [x] sp := by
  obtain ⟨f, fdat, F, hb, hm⟩ := hF e he
  have ef : fa = f := by
    rw [hmg] at hm
    exact Value.ref.inj (Option.some.inj hm)
  subst ef
  refine ⟨fdat, SpOf (adOf mg) K (callN l.T fuel n e.key), fun s u => .of_eq ?_, fun H a ns hl hO hS => law_sp hS (hp ns hl), fun base h1 h2 => ?_⟩
  · have := hb [u] (by rw [hps]; rfl)
    rw [hps] at this
    exact this
  · have ea : adOf mg e.key = fa := by
      unfold adOf
      rw [hmg]
    have ao := all_ok (P := P) (w := w) (base := base) hl (fun e he => (hF e he).ok) hc hbl fuel n e he fdat (by rw [ea]; exact F)
    rw [ea, hps] at ao
    exact ao
end
theorem cst_int {mg : Str → Option Value} {x : Str} {i : Int} {t : Nat} (h : mg x = some (.int i t)) : CstOk mg (x, .int i) := ⟨_, .int i, h, ⟨t, rfl⟩, fun _ _ _ => .int i⟩
theorem cst_str {mg : Str → Option Value} {x : Str} {i : Str} {t : Nat} (h : mg x = some (.str i t)) : CstOk mg (x, .str i) := ⟨_, .str i, h, ⟨t, rfl⟩, fun _ _ _ => .str i⟩
/-- the goal that the head leaves, from a law's end by its written part -/
theorem walk_y {l : PySem.W.OpenLaw} {k n : Nat} {q : Program} {loose : List Str} {XP : (Str → Option Value) → Heap → Prop} {YP : World → Heap → Prop} {d : DefRec} {x : Str}
    (hn : l.most = some n) (hn2 : n ≤ sizeLine) (hdf : d.params.defaults = []) (hr : Room k callerA)
    (F : ∀ (w : World) (mg : Str → Option Value) (fa : Addr) (h : Heap), YP w h → h.Ns mainGlobals mg → mg d.name = some (.ref fa) → ∃ K : PySem.W.Frag, K.In h ∧ ∃ (fd : FuncData) (sp : Sp), (∀ (s : Shared) (u : Value), BindsTo s fd ⟨[u], []⟩ [(x, u)]) ∧
        (∀ (H : Hp) (a : Addr) (ns : List Int), ns.length ≤ n → Only H → SqL K H a (ns.map V.int) → sp [.ref a] H (fun v _ => v = .bl true) fun _ _ _ => False) ∧
        ∀ base : Heap, K.In base → base.Ns mainGlobals mg → FnOk l.prog w K mg base (L2.CX l.prog w) k fa fd [x] sp) :
    PySem.W.WalkO q loose XP YP l.row.toRowW d [] (fun f vs => PySem.call f vs) := by
  refine Att.attach_call hn hdf fun w s0 s1 mg mb fa o pm cd doc a vs ns G z ho hd hcd hmg hobj hints hlen hg => ?_
  obtain ⟨K, kx, fd, sp, hb, hsp, hF⟩ := F w mg fa _ z G.T.g hmg
  exact law_call kx G.T.g G.T.b G.T.builtins G.T.nolimit hg hobj hints (Nat.le_trans hlen hn2) hr hF hb
    (fun H hO hS => hsp H a ns hlen hO hS) (fun H e s2 c => noCX c)
end Y
end
section
set_option Elab.async false
set_option linter.all false
set_option maxRecDepth 100000
set_option maxHeartbeats 2000000
set_option autoImplicit false
/-! Z1: rules for what the evaluator gives: apply them from the left. -/
namespace Y
open PySem
def Res.sat {α : Type} (r : Res α) (Q : α → Fr → Prop) (E : PX → Fr → Prop) : Prop := match r with
  | .ok a ρ => Q a ρ
  | .ex x ρ => E x ρ
  | .bad => False
def CR.sat (r : CR) (Q : PV → Fr → Prop) (E : PX → Fr → Prop) : Prop := match r with
  | .ok a ρ => Q a ρ
  | .ex x ρ => E x ρ
  | .bad => False
section
variable {α β : Type} {Q : α → Fr → Prop} {E : PX → Fr → Prop} {c : Cf} {ρ : Fr}
theorem sat_bind {r : Res β} {f : β → Fr → Res α} : (r.bind f).sat Q E ↔ r.sat (fun a ρ => (f a ρ).sat Q E) E := by
  cases r <;> rfl
theorem Res.sat.mono {r : Res α} {Q' : α → Fr → Prop} (h : r.sat Q' E) (k : ∀ a ρ, Q' a ρ → Q a ρ) : r.sat Q E := by
  cases r with
  | ok a ρ => exact k _ _ h
  | ex x ρ => exact h
  | bad => exact h
theorem CR.sat.mono {r : CR} {Q Q' : PV → Fr → Prop} (h : r.sat Q' E) (k : ∀ a ρ, Q' a ρ → Q a ρ) : r.sat Q E := by
  cases r with
  | ok a ρ => exact k _ _ h
  | ex x ρ => exact h
  | bad => exact h
end
section
variable {Q : PV → Fr → Prop} {E : PX → Fr → Prop} {c : Cf} {ρ : Fr}
theorem s_cst {p : PV} (h : Q p ρ) : (evE c (.cst p) ρ).sat Q E := by simp only [evE]; exact h
theorem s_loc {i : Nat} {p p' : PV} (e : ρ.at i = some p) (f : p.frz = p') (h : Q p' (ρ.set i (some p'))) : (evE c (.loc i) ρ).sat Q E := by subst f; simp only [evE, e]; exact h
theorem s_mov {i : Nat} {p : PV} (e : ρ.at i = some p) (h : Q p (ρ.set i none)) : (evE c (.mov i) ρ).sat Q E := by simp only [evE, e]; exact h
theorem s_op {f : Op} {es : List IE} (h : (evO c es ρ).sat (fun os ρ1 => ∃ ps r, rsvL ρ1 os = some ps ∧ opN f ps = some r ∧ Q r ρ1) E) : (evE c (.op f es) ρ).sat Q E := by
  simp only [evE]
  refine sat_bind.mpr (h.mono fun os ρ1 ⟨ps, r, e1, e2, q⟩ => ?_)
  rw [e1]
  dsimp only
  rw [e2]
  exact q
theorem s_and {a b : IE} (h : (evE c a ρ).sat (fun p ρ1 => ∃ k, p = .bl k ∧ (k = true → (evE c b ρ1).sat Q E) ∧ (k = false → Q (.bl false) ρ1)) E) : (evE c (.and a b) ρ).sat Q E := by
  simp only [evE, asB]
  refine sat_bind.mpr (sat_bind.mpr (h.mono fun p ρ1 ⟨k, e, q1, q2⟩ => ?_))
  subst e
  cases k with
  | true => exact q1 rfl
  | false => exact q2 rfl
theorem s_or {a b : IE} (h : (evE c a ρ).sat (fun p ρ1 => ∃ k, p = .bl k ∧ (k = true → Q (.bl true) ρ1) ∧ (k = false → (evE c b ρ1).sat Q E)) E) : (evE c (.or a b) ρ).sat Q E := by
  simp only [evE, asB]
  refine sat_bind.mpr (sat_bind.mpr (h.mono fun p ρ1 ⟨k, e, q1, q2⟩ => ?_))
  subst e
  cases k with
  | true => exact q1 rfl
  | false => exact q2 rfl
theorem s_ite {t a b : IE} (h : (evT c t (evE c t) ρ).sat (fun k ρ1 => (k = true → (evE c a ρ1).sat Q E) ∧ (k = false → (evE c b ρ1).sat Q E)) E) : (evE c (.ite t a b) ρ).sat Q E := by
  simp only [evE]
  refine sat_bind.mpr (h.mono fun k ρ1 ⟨q1, q2⟩ => ?_)
  cases k with
  | true => exact q1 rfl
  | false => exact q2 rfl
theorem s_lst {es : List IE} (h : (evL c es ρ).sat (fun ps ρ1 => ∃ qs, PV.frzL ps = qs ∧ okS ps.length = true ∧ Q (.lst true qs) ρ1) E) : (evE c (.lst es) ρ).sat Q E := by
  simp only [evE]
  refine sat_bind.mpr (h.mono fun ps ρ1 ⟨qs, f, e, q⟩ => ?_)
  subst f
  rw [if_pos e]
  exact q
theorem s_tup {es : List IE} (h : (evL c es ρ).sat (fun ps ρ1 => ∃ qs, PV.frzL ps = qs ∧ okS ps.length = true ∧ Q (.tup qs) ρ1) E) : (evE c (.tup es) ρ).sat Q E := by
  simp only [evE]
  refine sat_bind.mpr (h.mono fun ps ρ1 ⟨qs, f, e, q⟩ => ?_)
  subst f
  rw [if_pos e]
  exact q
theorem s_call {k : Str} {ls : List Bool} {es : List IE} (h : (evA c ls es ρ).sat (fun os ρ0 => ∃ as ρ1, takeA os ρ0 = some (as, ρ1) ∧ (c.call k (as.map (·.1))).sat (fun r as' => Q r (give (as.map (·.2)) as' ρ1)) fun x as' => E x (give (as.map (·.2)) as' ρ1)) E) : (evE c (.call k ls es) ρ).sat Q E := by
  simp only [evE]
  refine sat_bind.mpr (h.mono fun os ρ0 ⟨as, ρ1, et, q⟩ => ?_)
  rw [et]
  show (callR c k as ρ1).sat Q E
  unfold callR
  cases e : c.call k (as.map (·.1)) with
  | ok r as' => rw [e] at q; exact q
  | ex x as' => rw [e] at q; exact q
  | bad => rw [e] at q; exact q
theorem s_slc {x a b : IE} (h : (opnd x (evE c x) ρ).sat (fun o ρ1 => (opnd a (evE c a) ρ1).sat (fun y ρ2 => ∃ i, rsv ρ2 y = some (.int i) ∧ (opnd b (evE c b) ρ2).sat (fun z ρ3 => ∃ p j r, rsv ρ3 o = some p ∧ rsv ρ3 z = some (.int j) ∧ sliceN p (some i) (some j) = some r ∧ Q r ρ3) E) E) E) : (evE c (.slc x a b) ρ).sat Q E := by
  simp only [evE]
  refine sat_bind.mpr (h.mono fun o ρ1 q => sat_bind.mpr (q.mono fun y ρ2 ⟨i, e1, q⟩ => ?_))
  rw [e1]
  refine sat_bind.mpr (q.mono fun z ρ3 ⟨p, j, r, e2, e3, e4, q⟩ => ?_)
  rw [e2, e3]
  dsimp only [Option.bind, partN]
  rw [e4]
  exact q
end
section
variable {Q : OV → Fr → Prop} {E : PX → Fr → Prop} {c : Cf} {ρ : Fr}
theorem o_loc {i : Nat} {run : Fr → Res PV} {p : PV} (e : ρ.at i = some p) (h : Q (.vw i) ρ) : (opnd (.loc i) run ρ).sat Q E := by simp only [opnd, e]; exact h
def isL0 : IE → Bool
  | .loc _ => true
  | _ => false
theorem o_val {ie : IE} {run : Fr → Res PV} (e : isL0 ie = false) (h : (run ρ).sat (fun p ρ1 => ∃ p', p.frz = p' ∧ Q (.vl p') ρ1) E) : (opnd ie run ρ).sat Q E := by
  have : opnd ie run ρ = (run ρ).bind fun p ρ' => .ok (.vl p.frz) ρ' := by
    cases ie <;> first
      | rfl
      | cases e
  rw [this]
  exact sat_bind.mpr (h.mono fun p ρ1 ⟨p', f, q⟩ => by subst f; exact q)
end
section
variable {E : PX → Fr → Prop} {c : Cf} {ρ : Fr}
theorem os_nil {Q : List OV → Fr → Prop} (h : Q [] ρ) : (evO c [] ρ).sat Q E := by simp only [evO]; exact h
theorem os_cons {Q : List OV → Fr → Prop} {e : IE} {es : List IE} (h : (opnd e (evE c e) ρ).sat (fun o ρ1 => (evO c es ρ1).sat (fun os ρ2 => Q (o :: os) ρ2) E) E) : (evO c (e :: es) ρ).sat Q E := by
  simp only [evO]
  exact sat_bind.mpr (h.mono fun o ρ1 q => sat_bind.mpr (q.mono fun _ _ z => z))
theorem l_nil {Q : List PV → Fr → Prop} (h : Q [] ρ) : (evL c [] ρ).sat Q E := by simp only [evL]; exact h
theorem l_cons {Q : List PV → Fr → Prop} {e : IE} {es : List IE} (h : (evE c e ρ).sat (fun o ρ1 => (evL c es ρ1).sat (fun os ρ2 => Q (o :: os) ρ2) E) E) : (evL c (e :: es) ρ).sat Q E := by
  simp only [evL]
  exact sat_bind.mpr (h.mono fun o ρ1 q => sat_bind.mpr (q.mono fun _ _ z => z))
theorem a_nil {ls : List Bool} {Q : List OV → Fr → Prop} (h : Q [] ρ) : (evA c ls [] ρ).sat Q E := by simp only [evA]; exact h
theorem a_cons {ls : List Bool} {Q : List OV → Fr → Prop} {e : IE} {es : List IE} (h : (opA (ls.headD false) e (evE c e) ρ).sat (fun o ρ1 => (evA c ls.tail es ρ1).sat (fun os ρ2 => Q (o :: os) ρ2) E) E) : (evA c ls (e :: es) ρ).sat Q E := by
  simp only [evA]
  exact sat_bind.mpr (h.mono fun o ρ1 q => sat_bind.mpr (q.mono fun _ _ z => z))
/-- a name that is handed over: as it is where nothing in it is held alone, else lent -/
theorem g_see {b : Bool} {i : Nat} {run : Fr → Res PV} {Q : PV × Option Nat → Fr → Prop} {p : PV} (hb : b = true) (e : ρ.at i = some p) (f : p.fz = true) (h : Q (p, none) ρ) : (argd b (.loc i) run ρ).sat Q E := by
  subst hb
  simp only [argd, e, f, if_true]
  exact h
theorem g_lend {b : Bool} {i : Nat} {run : Fr → Res PV} {Q : PV × Option Nat → Fr → Prop} {p : PV} (hb : b = true) (e : ρ.at i = some p) (f : p.fz = false) (h : Q (p, some i) (ρ.set i none)) : (argd b (.loc i) run ρ).sat Q E := by
  subst hb
  simp only [argd, e, f, Bool.false_eq_true, if_false]
  exact h
theorem g_val {b : Bool} {ie : IE} {run : Fr → Res PV} {Q : PV × Option Nat → Fr → Prop} (e : (b && isL0 ie) = false) (h : (run ρ).sat (fun p ρ1 => ∃ p', p.frz = p' ∧ Q (p', none) ρ1) E) : (argd b ie run ρ).sat Q E := by
  have : argd b ie run ρ = (run ρ).bind fun p ρ' => .ok (p.frz, none) ρ' := by
    cases b with
    | false => cases ie <;> rfl
    | true =>
      cases ie <;> first
        | rfl
        | cases e
  rw [this]
  exact sat_bind.mpr (h.mono fun p ρ1 ⟨p', f, q⟩ => by subst f; exact q)
end
/-! tests -/
section
variable {Q : Bool → Fr → Prop} {E : PX → Fr → Prop} {c : Cf} {ρ : Fr} {run : Fr → Res PV}
theorem t_and {a b : IE} (h : (evT c a (evE c a) ρ).sat (fun k ρ1 => (k = true → (evT c b (evE c b) ρ1).sat Q E) ∧ (k = false → Q false ρ1)) E) : (evT c (.and a b) run ρ).sat Q E := by
  simp only [evT]
  refine sat_bind.mpr (h.mono fun k ρ1 ⟨q1, q2⟩ => ?_)
  cases k with
  | true => exact q1 rfl
  | false => exact q2 rfl
theorem t_or {a b : IE} (h : (evT c a (evE c a) ρ).sat (fun k ρ1 => (k = true → Q true ρ1) ∧ (k = false → (evT c b (evE c b) ρ1).sat Q E)) E) : (evT c (.or a b) run ρ).sat Q E := by
  simp only [evT]
  refine sat_bind.mpr (h.mono fun k ρ1 ⟨q1, q2⟩ => ?_)
  cases k with
  | true => exact q1 rfl
  | false => exact q2 rfl
theorem t_not {a : IE} (h : (evT c a (evE c a) ρ).sat (fun k ρ1 => Q (!k) ρ1) E) : (evT c (.op .not [a]) run ρ).sat Q E := by
  simp only [evT]
  exact sat_bind.mpr h
def nNot : Op → Bool
  | .not => false
  | _ => true
theorem t_op {f : Op} {es : List IE} (hf : nNot f = true) (h : (run ρ).sat (fun p ρ1 => ∃ k, p = .bl k ∧ Q k ρ1) E) : (evT c (.op f es) run ρ).sat Q E := by
  have : evT c (.op f es) run ρ = asB (run ρ) := by
    cases f <;> first
      | simp only [evT]
      | cases hf
  rw [this]
  refine sat_bind.mpr (h.mono fun p ρ1 ⟨k, e, q⟩ => ?_)
  subst e
  exact q
theorem t_dcmp {f : CmpOp} {t u : Option Bool} {es ds : List IE} (h : (run ρ).sat (fun p ρ1 => ∃ k, p = .bl k ∧ Q k ρ1) E) : (evT c (.dcmp f t es u ds) run ρ).sat Q E := by
  simp only [evT]
  refine sat_bind.mpr (h.mono fun p ρ1 ⟨k, e, q⟩ => ?_)
  subst e
  exact q
theorem t_chain {f g : CmpOp} {x y z : IE} (h : (run ρ).sat (fun p ρ1 => ∃ k, p = .bl k ∧ Q k ρ1) E) : (evT c (.chain f g x y z) run ρ).sat Q E := by
  simp only [evT]
  refine sat_bind.mpr (h.mono fun p ρ1 ⟨k, e, q⟩ => ?_)
  subst e
  exact q
def isV0 : IE → Bool
  | .op _ _ => false
  | .chain _ _ _ _ _ => false
  | .dcmp _ _ _ _ _ => false
  | .and _ _ => false
  | .or _ _ => false
  | _ => true
theorem t_val {ie : IE} (hv : isV0 ie = true) (h : (opnd ie run ρ).sat (fun o ρ1 => ∃ p k, rsv ρ1 o = some p ∧ truth p = some k ∧ Q k ρ1) E) : (evT c ie run ρ).sat Q E := by
  have : evT c ie run ρ = (opnd ie run ρ).bind fun o ρ1 => match rsv ρ1 o with
    | some p => (match truth p with
      | some k => .ok k ρ1
      | none => .bad)
    | none => .bad := by
    cases ie <;> first
      | first | (simp only [evT]; done) | (simp only [evT]; rfl)
      | cases hv
  rw [this]
  refine sat_bind.mpr (h.mono fun o ρ1 ⟨p, k, e1, e2, q⟩ => ?_)
  rw [e1]
  dsimp only
  rw [e2]
  exact q
theorem i_nil (h : Q true ρ) : (evIfs c [] ρ).sat Q E := by simp only [evIfs]; exact h
theorem i_one {e : IE} (h : (evT c e (evE c e) ρ).sat Q E) : (evIfs c [e] ρ).sat Q E := by simp only [evIfs]; exact h
end
/-! chains -/
theorem s_chain {Q : PV → Fr → Prop} {E : PX → Fr → Prop} {c : Cf} {ρ : Fr} {f g : CmpOp} {x y z : IE} (h : (opnd x (evE c x) ρ).sat (fun o1 ρ1 => (opnd y (evE c y) ρ1).sat (fun o2 ρ2 => ∃ p q k, rsv ρ2 o1 = some p ∧ rsv ρ2 o2 = some q ∧ cmpN f p q = some k ∧
    (k = false → Q (.bl false) ρ2) ∧ (k = true → (opnd z (evE c z) ρ2).sat (fun o3 ρ3 => ∃ q' r k', rsv ρ3 o2 = some q' ∧ rsv ρ3 o3 = some r ∧ cmpN g q' r = some k' ∧ Q (.bl k') ρ3) E)) E) E) : (evE c (.chain f g x y z) ρ).sat Q E := by
  simp only [evE]
  refine sat_bind.mpr (h.mono fun o1 ρ1 h => sat_bind.mpr (h.mono fun o2 ρ2 ⟨p, q, k, e1, e2, e3, q1, q2⟩ => ?_))
  rw [e1, e2]
  dsimp only
  rw [e3]
  cases k with
  | false => exact q1 rfl
  | true =>
    refine sat_bind.mpr ((q2 rfl).mono fun o3 ρ3 ⟨q', r, k', f1, f2, f3, q⟩ => ?_)
    rw [f1, f2]
    dsimp only
    rw [f3]
    exact q
theorem s_dcmp {Q : PV → Fr → Prop} {E : PX → Fr → Prop} {c : Cf} {ρ : Fr} {f : CmpOp} {t u : Option Bool} {es ds : List IE} (h : (evO c es ρ).sat (fun x ρ1 => okS x.length = true ∧ (evO c ds ρ1).sat (fun y ρ2 => okS y.length = true ∧ ∃ p q k, (rsvL ρ2 x).bind (dspP t) = some p ∧ (rsvL ρ2 y).bind (dspP u) = some q ∧ cmpN f p q = some k ∧ Q (.bl k) ρ2) E) E) : (evE c (.dcmp f t es u ds) ρ).sat Q E := by
  simp only [evE]
  refine sat_bind.mpr (sat_bind.mpr (h.mono fun x ρ1 ⟨o1, h⟩ => ?_))
  unfold fitO
  rw [if_pos o1]
  refine sat_bind.mpr (sat_bind.mpr (h.mono fun y ρ2 ⟨o2, p, q, k, e1, e2, e3, h⟩ => ?_))
  rw [if_pos o2]
  show Res.sat (match (rsvL ρ2 x).bind (dspP t), (rsvL ρ2 y).bind (dspP u) with
      | some p, some q => (match cmpN f p q with
        | some k => .ok (.bl k) ρ2
        | none => .bad)
      | _, _ => .bad) Q E
  rw [e1, e2]
  dsimp only
  rw [e3]
  exact h
/-! what is walked -/
section
variable {Q : List PV → Fr → Prop} {E : PX → Fr → Prop} {c : Cf} {ρ : Fr}
theorem w_it {e : IE} (h : (evE c e ρ).sat (fun p ρ1 => ∃ p' xs, p.frz = p' ∧ srcOf p' = some xs ∧ Q xs ρ1) E) : (evSrc c (.it e) ρ).sat Q E := by
  simp only [evSrc]
  refine sat_bind.mpr (h.mono fun p ρ1 ⟨p', xs, f, e, q⟩ => ?_)
  subst f
  rw [e]
  exact q
theorem w_rng {es : List IE} (h : (evO c es ρ).sat (fun os ρ1 => ∃ ps xs, rsvL ρ1 os = some ps ∧ rngN ps = some xs ∧ Q xs ρ1) E) : (evSrc c (.rng es) ρ).sat Q E := by
  simp only [evSrc]
  refine sat_bind.mpr (h.mono fun os ρ1 ⟨ps, xs, e1, e2, q⟩ => ?_)
  rw [e1]
  dsimp only [Option.bind]
  rw [e2]
  exact q
theorem w_enm {e : IE} (h : (evE c e ρ).sat (fun p ρ1 => ∃ p' xs, p.frz = p' ∧ enmP [p'] = some xs ∧ Q xs ρ1) E) : (evSrc c (.enm e) ρ).sat Q E := by
  simp only [evSrc]
  refine sat_bind.mpr (g_val (b := false) rfl (h.mono fun p ρ1 ⟨p', xs, f, e, q⟩ => ⟨p', f, ?_⟩))
  rw [e]
  exact q
/-- a comprehension's loop, by an invariant of what is left, what is made, the slots -/
theorem comp_loop {turn : PV → Fr → Res (Option PV)} {own : List Nat} (I : List PV → List PV → Fr → Prop) (step : ∀ x r acc ρ, I (x :: r) acc ρ → (turn x ρ).sat (fun y ρ1 => match y with
    | some y => ∃ y', y.frz = y' ∧ acc.length < sizeLine ∧ I r (acc ++ [y']) (wipeF ρ1 own)
    | none => I r acc (wipeF ρ1 own)) fun _ _ => False) : ∀ (xs acc : List PV) (ρ : Fr), I xs acc ρ → (compL turn own xs ρ acc).sat (fun ys ρ => I [] ys ρ) fun _ _ => False
  | [], acc, ρ, h => h
  | x :: r, acc, ρ, h => by
    have s := step x r acc ρ h
    unfold compL
    cases e : turn x ρ with
    | bad => rw [e] at s; exact s
    | ex x ρ1 => rw [e] at s; exact s.elim
    | ok y ρ1 =>
      rw [e] at s
      cases y with
      | none => exact comp_loop I step r acc _ s
      | some y =>
        obtain ⟨y', f, h1, h2⟩ := s
        subst f
        dsimp only
        rw [if_pos h1]
        exact comp_loop I step r _ _ h2
end
theorem s_comp {Q : PV → Fr → Prop} {E : PX → Fr → Prop} {c : Cf} {ρ : Fr} {elt : IE} {tg : IT} {src : ISrc} {ifs : List IE} {own : List Nat} (I : List PV → List PV → Fr → Prop) (h : (evSrc c src ρ).sat (fun xs ρ1 => I xs [] (wipeF (frzAt ρ1 own) own) ∧ ∀ ys ρ2, I [] ys ρ2 → Q (.lst true ys) (backAt (frzAt ρ1 own) ρ2 own)) E)
    (step : ∀ x r acc ρ, I (x :: r) acc ρ → ∃ ρ2, asg tg x ρ = some ρ2 ∧ (evIfs c ifs ρ2).sat (fun k ρ3 => (k = true → (evE c elt ρ3).sat (fun y ρ4 => ∃ y', y.frz = y' ∧ acc.length < sizeLine ∧ I r (acc ++ [y']) (wipeF ρ4 own)) fun _ _ => False) ∧ (k = false → I r acc (wipeF ρ3 own))) fun _ _ => False) :
    (evE c (.comp elt tg src ifs own) ρ).sat Q E := by
  simp only [evE]
  refine sat_bind.mpr (h.mono fun xs ρ1 ⟨h0, hk⟩ => ?_)
  have L := comp_loop (own := own) (turn := fun x ρ => match asg tg x ρ with
        | some ρ2 => (evIfs c ifs ρ2).bind fun k ρ3 => if k then (evE c elt ρ3).bind fun y ρ4 => .ok (some y) ρ4 else .ok none ρ3
        | none => .bad) I (fun x r acc ρ hI => by
      obtain ⟨ρ2, e, q⟩ := step x r acc ρ hI
      rw [e]
      refine sat_bind.mpr (q.mono fun k ρ3 ⟨q1, q2⟩ => ?_)
      cases k with
      | true =>
        rw [if_pos rfl]
        exact sat_bind.mpr (q1 rfl)
      | false =>
        rw [if_neg Bool.false_ne_true]
        exact q2 rfl) xs [] _ h0
  generalize compL _ own xs _ [] = r at L
  cases r with
  | ok ys ρ2 => exact hk ys ρ2 L
  | ex x ρ2 => exact L.elim
  | bad => exact L.elim
/-! statements -/
section
variable {Q : Fl → Fr → Prop} {E : PX → Fr → Prop} {c : Cf} {ρ : Fr}
theorem b_nil (h : Q .nx ρ) : (evB c [] ρ).sat Q E := by simp only [evB]; exact h
theorem b_cons {s : IS} {r : List IS} (h : (evS c s ρ).sat (fun f ρ1 => match f with
    | .nx => (evB c r ρ1).sat Q E
    | z => Q z ρ1) E) : (evB c (s :: r) ρ).sat Q E := by
  simp only [evB]
  cases e : evS c s ρ with
  | bad => rw [e] at h; exact h
  | ex x ρ1 => rw [e] at h; exact h
  | ok f ρ1 =>
    rw [e] at h
    cases f <;> exact h
theorem k_set {i : Nat} {e : IE} (h : (evE c e ρ).sat (fun p ρ1 => i < ρ1.length ∧ Q .nx (ρ1.set i (some p))) E) : (evS c (.set i e) ρ).sat Q E := by
  simp only [evS]
  refine sat_bind.mpr (h.mono fun p ρ1 ⟨e, q⟩ => ?_)
  rw [if_pos e]
  exact q
theorem k_asg {tg : IT} {e : IE} (h : (evE c e ρ).sat (fun p ρ1 => ∃ p' ρ2, p.frz = p' ∧ asg tg p' ρ1 = some ρ2 ∧ Q .nx ρ2) E) : (evS c (.asg tg e) ρ).sat Q E := by
  simp only [evS]
  refine sat_bind.mpr (h.mono fun p ρ1 ⟨p', ρ2, f, e, q⟩ => ?_)
  subst f
  rw [e]
  exact q
theorem k_add {i : Nat} {e : IE} {a : Int} (e0 : ρ.at i = some (.int a)) (h : (evE c e ρ).sat (fun p ρ1 => ∃ b, p = .int b ∧ Q .nx (ρ1.set i (some (.int (a + b))))) E) : (evS c (.aug i .Add e) ρ).sat Q E := by
  simp only [evS, e0]
  refine sat_bind.mpr (h.mono fun p ρ1 ⟨b, e, q⟩ => ?_)
  subst e
  exact q
theorem k_dec {i : Nat} {e : IE} {a : Int} (e0 : ρ.at i = some (.int a)) (h : (evE c e ρ).sat (fun p ρ1 => ∃ b, p = .int b ∧ Q .nx (ρ1.set i (some (.int (a - b))))) E) : (evS c (.aug i .Sub e) ρ).sat Q E := by
  simp only [evS, e0]
  refine sat_bind.mpr (h.mono fun p ρ1 ⟨b, e, q⟩ => ?_)
  subst e
  exact q
theorem k_sub {i : Nat} {ix e : IE} (h : (evE c e ρ).sat (fun p ρ1 => ∃ p', p.frz = p' ∧ isLst (ρ1.at i) = true ∧ (opnd ix (evE c ix) ρ1).sat (fun o ρ2 => ∃ xs k j, ρ2.at i = some (.lst true xs) ∧ rsv ρ2 o = some (.int k) ∧ L2.ixN xs.length k = some j ∧ Q .nx (ρ2.set i (some (.lst true (xs.set j p'))))) E) E) : (evS c (.sub i ix e) ρ).sat Q E := by
  simp only [evS]
  refine sat_bind.mpr (h.mono fun p ρ1 ⟨p', f, e, q⟩ => ?_)
  subst f
  rw [if_pos e]
  refine sat_bind.mpr (q.mono fun o ρ2 ⟨xs, k, j, e1, e2, e3, q⟩ => ?_)
  rw [e1, e2]
  dsimp only
  rw [e3]
  exact q
theorem k_app {i : Nat} {e : IE} (e0 : isLst (ρ.at i) = true) (h : (evE c e ρ).sat (fun p ρ1 => ∃ p' xs, p.frz = p' ∧ ρ1.at i = some (.lst true xs) ∧ xs.length < sizeLine ∧ Q .nx (ρ1.set i (some (.lst true (xs ++ [p']))))) E) : (evS c (.app i e) ρ).sat Q E := by
  simp only [evS, e0, if_true]
  refine sat_bind.mpr (h.mono fun p ρ1 ⟨p', xs, f, e1, e2, q⟩ => ?_)
  subst f
  rw [e1]
  dsimp only
  rw [if_pos e2]
  exact q
theorem k_ext {i : Nat} {e : IE} (e0 : isLst (ρ.at i) = true) (h : (evE c e ρ).sat (fun p ρ1 => ∃ xs o ys, ρ1.at i = some (.lst true xs) ∧ p.frz = .lst o ys ∧ xs.length + ys.length ≤ sizeLine ∧ Q .nx (ρ1.set i (some (.lst true (xs ++ ys))))) E) : (evS c (.ext i e) ρ).sat Q E := by
  simp only [evS, e0, if_true]
  refine sat_bind.mpr (h.mono fun p ρ1 ⟨xs, o, ys, e1, e2, e3, q⟩ => ?_)
  rw [e1, e2]
  dsimp only
  rw [if_pos e3]
  exact q
theorem k_exp {e : IE} (h : (evE c e ρ).sat (fun _ ρ1 => Q .nx ρ1) E) : (evS c (.exp e) ρ).sat Q E := by
  simp only [evS]
  exact sat_bind.mpr h
theorem k_ret {e : IE} (h : (evE c e ρ).sat (fun p ρ1 => Q (.rt p) ρ1) E) : (evS c (.ret e) ρ).sat Q E := by
  simp only [evS]
  exact sat_bind.mpr h
theorem k_retN (h : Q (.rt .non) ρ) : (evS c .retN ρ).sat Q E := by simp only [evS]; exact h
theorem k_brk (h : Q .bk ρ) : (evS c .brk ρ).sat Q E := by simp only [evS]; exact h
theorem k_cnt (h : Q .ct ρ) : (evS c .cnt ρ).sat Q E := by simp only [evS]; exact h
theorem k_pas (h : Q .nx ρ) : (evS c .pas ρ).sat Q E := by simp only [evS]; exact h
theorem k_ife {t : IE} {a b : List IS} (h : (evT c t (evE c t) ρ).sat (fun k ρ1 => (k = true → (evB c a ρ1).sat Q E) ∧ (k = false → (evB c b ρ1).sat Q E)) E) : (evS c (.ife t a b) ρ).sat Q E := by
  simp only [evS]
  refine sat_bind.mpr (h.mono fun k ρ1 ⟨q1, q2⟩ => ?_)
  cases k with
  | true => exact q1 rfl
  | false => exact q2 rfl
theorem for_loop {turn : PV → Fr → Res Fl} (I : List PV → Fr → Prop) (hend : ∀ ρ, I [] ρ → Q .nx ρ) (step : ∀ x r ρ, I (x :: r) ρ → (turn x ρ).sat (fun f ρ1 => match f with
    | .nx => I r ρ1
    | .ct => I r ρ1
    | .bk => Q .nx ρ1
    | .rt p => Q (.rt p) ρ1) E) : ∀ (xs : List PV) (ρ : Fr), I xs ρ → (forL turn xs ρ).sat Q E
  | [], ρ, h => hend ρ h
  | x :: r, ρ, h => by
    have s := step x r ρ h
    unfold forL
    cases e : turn x ρ with
    | bad => rw [e] at s; exact s
    | ex x ρ1 => rw [e] at s; exact s
    | ok f ρ1 =>
      rw [e] at s
      cases f with
      | nx => exact for_loop I hend step r ρ1 s
      | ct => exact for_loop I hend step r ρ1 s
      | bk => exact s
      | rt p => exact s
theorem k_for {tg : IT} {src : ISrc} {body : List IS} (I : List PV → Fr → Prop) (h : (evSrc c src ρ).sat (fun xs ρ1 => I xs ρ1) E) (hend : ∀ ρ, I [] ρ → Q .nx ρ) (step : ∀ x r ρ, I (x :: r) ρ → ∃ ρ2, asg tg x ρ = some ρ2 ∧ (evB c body ρ2).sat (fun f ρ1 => match f with
    | .nx => I r ρ1
    | .ct => I r ρ1
    | .bk => Q .nx ρ1
    | .rt p => Q (.rt p) ρ1) E) : (evS c (.fors tg src body) ρ).sat Q E := by
  simp only [evS]
  refine sat_bind.mpr (h.mono fun xs ρ1 h0 => for_loop I hend (fun x r ρ hI => ?_) xs ρ1 h0)
  obtain ⟨ρ2, e, q⟩ := step x r ρ hI
  rw [e]
  exact q
theorem whl_loop {t : Fr → Res Bool} {body : Fr → Res Fl} (I : Nat → Fr → Prop) (step : ∀ n ρ, I n ρ → (t ρ).sat (fun k ρ1 => (k = true → ∃ m, n = m + 1 ∧ (body ρ1).sat (fun f ρ2 => match f with
    | .nx => I m ρ2
    | .ct => I m ρ2
    | .bk => Q .nx ρ2
    | .rt p => Q (.rt p) ρ2) E) ∧ (k = false → Q .nx ρ1)) E) : ∀ (n : Nat) (ρ : Fr), I n ρ → ∀ m, n < m → (whlL t body m ρ).sat Q E
  | n, ρ, h, 0, hm => by omega
  | n, ρ, h, m + 1, hm => by
    have s := step n ρ h
    unfold whlL
    refine sat_bind.mpr (s.mono fun k ρ1 ⟨q1, q2⟩ => ?_)
    cases k with
    | false =>
      rw [if_neg Bool.false_ne_true]
      exact q2 rfl
    | true =>
      rw [if_pos rfl]
      obtain ⟨n', e, q⟩ := q1 rfl
      subst e
      cases e : body ρ1 with
      | bad => rw [e] at q; exact q
      | ex x ρ2 => rw [e] at q; exact q
      | ok f ρ2 =>
        rw [e] at q
        cases f with
        | nx => exact whl_loop I step n' ρ2 q m (by omega)
        | ct => exact whl_loop I step n' ρ2 q m (by omega)
        | bk => exact q
        | rt p => exact q
theorem k_whl {t : IE} {body : List IS} (I : Nat → Fr → Prop) (n : Nat) (h0 : I n ρ) (hf : n < c.fuel) (step : ∀ n ρ, I n ρ → (evT c t (evE c t) ρ).sat (fun k ρ1 => (k = true → ∃ m, n = m + 1 ∧ (evB c body ρ1).sat (fun f ρ2 => match f with
    | .nx => I m ρ2
    | .ct => I m ρ2
    | .bk => Q .nx ρ2
    | .rt p => Q (.rt p) ρ2) E) ∧ (k = false → Q .nx ρ1)) E) : (evS c (.whl t body) ρ).sat Q E := by
  simp only [evS]
  exact whl_loop I step n ρ h0 c.fuel hf
end
/-! a call -/
theorem c_run {T : Tb} {fuel n : Nat} {k : Str} {as : List PV} {d : Fd} {Q : PV → Fr → Prop} {E : PX → Fr → Prop} (hT : T k = some d) (hl : as.length = d.ps) (h : (evB ⟨callN T fuel n, lendOf T, fuel⟩ d.body (as.map some ++ List.replicate (d.n - d.ps) none)).sat (fun f ρ => match f with
    | .rt p => Q p (maskF d.lend (ρ.take d.ps))
    | .nx => Q .non (maskF d.lend (ρ.take d.ps))
    | _ => False) fun x ρ => E x (maskF d.lend (ρ.take d.ps))) : (callN T fuel (n + 1) k as).sat Q E := by
  simp only [callN, hT, runF]
  rw [if_pos hl]
  cases e : evB ⟨callN T fuel n, lendOf T, fuel⟩ d.body (as.map some ++ List.replicate (d.n - d.ps) none) with
  | bad => rw [e] at h; exact h
  | ex x ρ => rw [e] at h; exact h
  | ok f ρ =>
    rw [e] at h
    cases f <;> exact h
theorem sat_true {r : CR} (h : r.sat (fun p _ => p = .bl true) fun _ _ => False) : ∃ as, r = .ok (.bl true) as := by
  cases r with
  | ok p as => exact ⟨as, by rw [show p = .bl true from h]⟩
  | ex => exact h.elim
  | bad => exact h.elim
theorem frz_int {i : Int} : (PV.int i).frz = .int i := rfl
theorem frz_str {i : Str} : (PV.str i).frz = .str i := rfl
theorem frz_bl {i : Bool} : (PV.bl i).frz = .bl i := rfl
theorem frz_non : PV.non.frz = .non := rfl
theorem frz_ty {t : String} : (PV.ty t).frz = .ty t := rfl
end Y
end
section
set_option Elab.async false
set_option linter.all false
set_option maxRecDepth 100000
set_option maxHeartbeats 2000000
set_option autoImplicit false
/-! V1: what is wanted ahead of a piece of the small language: by computation. -/
namespace Y
open PySem
@[irreducible] def zC (f : Str → List PV → CR) (k : Str) (as : List PV) (Q : PV → Fr → Prop) (E : PX → Fr → Prop) : Prop := (f k as).sat Q E
@[irreducible] def zF (tg : IT) (body : Fr → (Fl → Fr → Prop) → Prop) (xs : List PV) (ρ : Fr) (Q : Fl → Fr → Prop) (E : PX → Fr → Prop) : Prop := ∃ I : List PV → Fr → Prop, I xs ρ ∧ (∀ ρ, I [] ρ → Q .nx ρ) ∧ ∀ x r ρ, I (x :: r) ρ → ∃ ρ2, asg tg x ρ = some ρ2 ∧ body ρ2 fun f ρ1 => match f with
    | .nx => I r ρ1
    | .ct => I r ρ1
    | .bk => Q .nx ρ1
    | .rt p => Q (.rt p) ρ1
@[irreducible] def zW (fuel : Nat) (t : Fr → (Bool → Fr → Prop) → Prop) (body : Fr → (Fl → Fr → Prop) → Prop) (ρ : Fr) (Q : Fl → Fr → Prop) (E : PX → Fr → Prop) : Prop := ∃ (I : Nat → Fr → Prop) (n : Nat), I n ρ ∧ n < fuel ∧ ∀ n ρ, I n ρ → t ρ fun k ρ1 => (k = true → ∃ m, n = m + 1 ∧ body ρ1 fun f ρ2 => match f with
    | .nx => I m ρ2
    | .ct => I m ρ2
    | .bk => Q .nx ρ2
    | .rt p => Q (.rt p) ρ2) ∧ (k = false → Q .nx ρ1)
@[irreducible] def zK (tg : IT) (own : List Nat) (ifs : Fr → (Bool → Fr → Prop) → Prop) (elt : Fr → (PV → Fr → Prop) → Prop) (xs : List PV) (ρ : Fr) (Q : PV → Fr → Prop) : Prop := ∃ I : List PV → List PV → Fr → Prop, I xs [] (wipeF (frzAt ρ own) own) ∧ (∀ ys ρ2, I [] ys ρ2 → Q (.lst true ys) (backAt (frzAt ρ own) ρ2 own)) ∧
  ∀ x r acc ρ, I (x :: r) acc ρ → ∃ ρ2, asg tg x ρ = some ρ2 ∧ ifs ρ2 fun k ρ3 => (k = true → elt ρ3 fun y ρ4 => ∃ y', y.frz = y' ∧ acc.length < sizeLine ∧ I r (acc ++ [y']) (wipeF ρ4 own)) ∧ (k = false → I r acc (wipeF ρ3 own))
@[irreducible] def zKv (tg : IT) (own : List Nat) (i : Nat) (ifs : Fr → (Bool → Fr → Prop) → Prop) (elt : Fr → (PV → Fr → Prop) → Prop) (n : Nat) (ρ : Fr) (Q : PV → Fr → Prop) : Prop := own.contains i = false ∧ ∃ I : Nat → List PV → Fr → Prop, I 0 [] (wipeF (frzAt ρ own) own) ∧ (∀ ys ρ2, I n ys ρ2 → vwLen ρ2 i n = true ∧ Q (.lst true ys) (backAt (frzAt ρ own) ρ2 own)) ∧
  ∀ j acc ρ, j < n → I j acc ρ → ∃ x ρ2, vwAt ρ i n j = some x ∧ asg tg x ρ = some ρ2 ∧ ifs ρ2 fun k ρ3 => (k = true → elt ρ3 fun y ρ4 => ∃ y', y.frz = y' ∧ acc.length < sizeLine ∧ I (j + 1) (acc ++ [y']) (wipeF ρ4 own)) ∧ (k = false → I (j + 1) acc (wipeF ρ3 own))
@[irreducible] def zFv (tg : IT) (i : Nat) (body : Fr → (Fl → Fr → Prop) → Prop) (n : Nat) (ρ : Fr) (Q : Fl → Fr → Prop) (E : PX → Fr → Prop) : Prop := ∃ I : Nat → Fr → Prop, I 0 ρ ∧ (∀ ρ, I n ρ → vwLen ρ i n = true ∧ Q .nx ρ) ∧ ∀ j ρ, j < n → I j ρ → ∃ x ρ2, vwAt ρ i n j = some x ∧ asg tg x ρ = some ρ2 ∧ body ρ2 fun f ρ1 => match f with
    | .nx => I (j + 1) ρ1
    | .ct => I (j + 1) ρ1
    | .bk => Q .nx ρ1
    | .rt p => Q (.rt p) ρ1
/-- nothing in it held alone -/
def wFrz (p : PV) (k : PV → Prop) : Prop := match p with
  | .int i => k (.int i)
  | .str x => k (.str x)
  | .bl b => k (.bl b)
  | .non => k .non
  | .ty t => k (.ty t)
  | .fn f => k (.fn f)
  | p => ∀ p', p.frz = p' → k p'
theorem wFrz_ok {p : PV} {k : PV → Prop} (h : wFrz p k) : k p.frz := by
  cases p <;> first
    | exact h
    | exact h _ rfl
def wFrzL : List PV → (List PV → Prop) → Prop
  | [], k => k []
  | p :: r, k => wFrz p fun p' => wFrzL r fun r' => k (p' :: r')
theorem wFrzL_ok : ∀ {ps : List PV} {k : List PV → Prop}, wFrzL ps k → k (PV.frzL ps)
  | [], _, h => h
  | p :: r, k, h => wFrzL_ok (k := fun r' => k (p.frz :: r')) (wFrz_ok h)
/-- an operation -/
def wOp (f : Op) (ps : List PV) (k : PV → Prop) : Prop := match f, ps with
  | .bin .Add, [.int i, .int j] => k (.int (i + j))
  | .bin .Sub, [.int i, .int j] => k (.int (i - j))
  | .bin .Mod, [.int i, .int j] => 0 < j ∧ k (.int (i % j))
  | .bin .FloorDiv, [.int i, .int j] => (0 < j ∧ j.natAbs.log2 < 9000) ∧ k (.int (i / j))
  | .bin .Mult, [.int i, .int j] => ((-(2 ^ 64) < i ∧ i < 2 ^ 64) ∨ (-(2 ^ 64) < j ∧ j < 2 ^ 64)) ∧ k (.int (i * j))
  | .bin .Add, [.str x, .str y] => okS (x.length + y.length) = true ∧ k (.str (x ++ y))
  | .bin .Add, [.lst _ xs, .lst _ ys] => (okS (xs.length + ys.length) = true ∧ PV.fzL xs = true ∧ PV.fzL ys = true) ∧ k (.lst true (xs ++ ys))
  | .cmp .Eq, [.int i, .int j] => k (.bl (decide (i = j)))
  | .cmp .NotEq, [.int i, .int j] => k (.bl (!decide (i = j)))
  | .cmp .Eq, [.str i, .str j] => k (.bl (decide (i = j)))
  | .cmp .NotEq, [.str i, .str j] => k (.bl (!decide (i = j)))
  | .cmp .Lt, [.int i, .int j] => k (.bl (decide (i < j)))
  | .cmp .LtE, [.int i, .int j] => k (.bl (decide (i ≤ j)))
  | .cmp .Gt, [.int i, .int j] => k (.bl (decide (j < i)))
  | .cmp .GtE, [.int i, .int j] => k (.bl (decide (j ≤ i)))
  | .cmp .Lt, [.str i, .str j] => k (.bl (decide (i.cps.toList < j.cps.toList)))
  | .cmp .LtE, [.str i, .str j] => k (.bl (decide (i.cps.toList ≤ j.cps.toList)))
  | .cmp .Is, [.non, .non] => k (.bl true)
  | .cmp .Is, [.int _, .non] => k (.bl false)
  | .cmp .Is, [.str _, .non] => k (.bl false)
  | .cmp .Is, [.lst _ _, .non] => k (.bl false)
  | .cmp .Is, [.tup _, .non] => k (.bl false)
  | .cmp .IsNot, [.non, .non] => k (.bl false)
  | .cmp .IsNot, [.int _, .non] => k (.bl true)
  | .cmp .IsNot, [.str _, .non] => k (.bl true)
  | .cmp .IsNot, [.lst _ _, .non] => k (.bl true)
  | .cmp .IsNot, [.tup _, .non] => k (.bl true)
  | .neg, [.int i] => k (.int (-i))
  | .not, [.bl b] => k (.bl (!b))
  | .len, [.lst _ xs] => k (.int xs.length)
  | .len, [.lck xs] => k (.int xs.length)
  | .len, [.tup xs] => k (.int xs.length)
  | .len, [.str x] => okS x.length = true ∧ k (.int x.length)
  | .list, [.lst _ xs] => PV.fzL xs = true ∧ k (.lst true xs)
  | .list, [.lck xs] => PV.fzL xs = true ∧ k (.lst true xs)
  | .list, [.tup xs] => PV.fzL xs = true ∧ k (.lst true xs)
  | .int, [.int i] => k (.int i)
  | .int, [.bl b] => k (.int (if b then 1 else 0))
  | .str, [.int i] => i.natAbs.log2 < 1920 ∧ k (.str (toString i))
  | .ix, [.lst _ xs, .int i] => ∃ x, L2.atI xs i = some x ∧ x.fz = true ∧ k x
  | .ix, [.lck xs, .int i] => ∃ x, L2.atI xs i = some x ∧ x.fz = true ∧ k x
  | .ix, [.tup xs, .int i] => ∃ x, L2.atI xs i = some x ∧ x.fz = true ∧ k x
  | .ix, [.str z, .int i] => okS z.length = true ∧ ∃ x, L2.atI z.cps.toList i = some x ∧ k (.str ⟨#[x]⟩)
  | .slice false true, [.lst _ xs, .int j] => PV.fzL xs = true ∧ k (.lst true (cutP xs none (some j)))
  | .slice true false, [.lst _ xs, .int j] => PV.fzL xs = true ∧ k (.lst true (cutP xs (some j) none))
  | .slice false false, [.lst _ xs] => PV.fzL xs = true ∧ k (.lst true xs)
  | .isi, [.int _, .ty T] => isiOk.contains T = true ∧ k (.bl (isiT "int" T))
  | .isi, [.str _, .ty T] => isiOk.contains T = true ∧ k (.bl (isiT "str" T))
  | .isi, [.bl _, .ty T] => isiOk.contains T = true ∧ k (.bl (isiT "bool" T))
  | .isi, [.non, .ty T] => isiOk.contains T = true ∧ k (.bl (isiT "NoneType" T))
  | .isi, [.lst _ _, .ty T] => isiOk.contains T = true ∧ k (.bl (isiT "list" T))
  | .isi, [.tup _, .ty T] => isiOk.contains T = true ∧ k (.bl (isiT "tuple" T))
  | f, ps => ∃ r, opN f ps = some r ∧ k r
theorem n_mod {i j : Int} (h : 0 < j) : opN (.bin .Mod) [.int i, .int j] = some (.int (i % j)) := by
  show (if decide (0 < j) then some (PV.int (i % j)) else none) = _
  rw [decide_eq_true h]
  rfl
theorem n_fdiv {i j : Int} (h : 0 < j) (h2 : j.natAbs.log2 < 9000) : opN (.bin .FloorDiv) [.int i, .int j] = some (.int (i / j)) := by
  show (if decide (0 < j ∧ j.natAbs.log2 < 9000) then some (PV.int (i / j)) else none) = _
  rw [decide_eq_true ⟨h, h2⟩]
  rfl
theorem n_mul {i j : Int} (h : -(2 ^ 64) < j ∧ j < 2 ^ 64) : opN (.bin .Mult) [.int i, .int j] = some (.int (i * j)) := by
  show (if decide ((-(2 ^ 64) < i ∧ i < 2 ^ 64) ∨ (-(2 ^ 64) < j ∧ j < 2 ^ 64)) then some (PV.int (i * j)) else none) = _
  rw [decide_eq_true (Or.inr h)]
  rfl
theorem n_ix {o : Bool} {xs : List PV} {i : Int} {x : PV} (h : L2.atI xs i = some x) (hf : x.fz = true) : opN .ix [.lst o xs, .int i] = some x := by
  show (match L2.atI xs i with
    | some x => if x.fz then some x else none
    | none => none) = _
  rw [h]
  dsimp only
  rw [if_pos hf]
theorem n_ixk {xs : List PV} {i : Int} {x : PV} (h : L2.atI xs i = some x) (hf : x.fz = true) : opN .ix [.lck xs, .int i] = some x := by
  show (match L2.atI xs i with
    | some x => if x.fz then some x else none
    | none => none) = _
  rw [h]
  dsimp only
  rw [if_pos hf]
theorem n_ixt {xs : List PV} {i : Int} {x : PV} (h : L2.atI xs i = some x) (hf : x.fz = true) : opN .ix [.tup xs, .int i] = some x := by
  show (match L2.atI xs i with
    | some x => if x.fz then some x else none
    | none => none) = _
  rw [h]
  dsimp only
  rw [if_pos hf]
theorem n_ixs {z : Str} {i : Int} {x : Nat} (h0 : okS z.length = true) (h : L2.atI z.cps.toList i = some x) : opN .ix [.str z, .int i] = some (.str ⟨#[x]⟩) := by
  show (if okS z.length then (L2.atI z.cps.toList i).map fun c => PV.str ⟨#[c]⟩ else none) = _
  rw [if_pos h0, h]
  rfl
theorem cut_all {α : Type} (xs : List α) : cutP xs none none = xs := by
  simp [cutP, HT.sIx]
theorem eqv_int (i j : Int) : PyData.eqv (.int i) (.int j) = decide (i = j) := by
  simp [PyData.eqv]
  try rfl
theorem eqv_str (i j : Str) : PyData.eqv (.str i) (.str j) = decide (i = j) := by
  simp [PyData.eqv]
  try rfl
theorem wOp_ok {f : Op} {ps : List PV} {k : PV → Prop} (h : wOp f ps k) : ∃ r, opN f ps = some r ∧ k r := by
  unfold wOp at h
  split at h
  case h_3 => exact ⟨_, n_mod h.1, h.2⟩
  case h_4 => exact ⟨_, n_fdiv h.1.1 h.1.2, h.2⟩
  case h_5 =>
    refine ⟨_, ?_, h.2⟩
    show (if decide _ then _ else none) = _
    rw [decide_eq_true h.1]
    rfl
  case h_6 =>
    refine ⟨_, ?_, h.2⟩
    show (if _ then _ else none) = _
    rw [if_pos h.1]
  case h_7 =>
    refine ⟨_, ?_, h.2⟩
    show (if _ then _ else none) = _
    rw [if_pos (by simp only [h.1, Bool.and_self])]
  case h_8 => exact ⟨_, rfl, by simpa only [eqv_int] using h⟩
  case h_9 => exact ⟨_, rfl, by simpa only [eqv_int] using h⟩
  case h_10 => exact ⟨_, rfl, by simpa only [eqv_str] using h⟩
  case h_11 => exact ⟨_, rfl, by simpa only [eqv_str] using h⟩
  case h_46 =>
    refine ⟨_, ?_, h.2⟩
    show (if _ then _ else none) = _
    rw [if_pos h.1, cut_all]
  all_goals first
    | exact ⟨_, rfl, h⟩
    | (refine ⟨_, ?_, h.2⟩
       show (if _ then _ else none) = _
       rw [if_pos h.1])
    | (refine ⟨_, ?_, h.2⟩
       show (if decide _ then _ else none) = _
       rw [decide_eq_true h.1]
       rfl)
    | (obtain ⟨x, h1, h2, h3⟩ := h
       exact ⟨x, n_ix h1 h2, h3⟩)
    | (obtain ⟨x, h1, h2, h3⟩ := h
       exact ⟨x, n_ixk h1 h2, h3⟩)
    | (obtain ⟨x, h1, h2, h3⟩ := h
       exact ⟨x, n_ixt h1 h2, h3⟩)
    | (obtain ⟨h0, x, h1, h3⟩ := h
       exact ⟨_, n_ixs h0 h1, h3⟩)
    | exact h
    | skip
/-! ### by computation -/
def wRng (ps : List PV) (k : List PV → Prop) : Prop := match ps with
  | [.int j] => (-(2 ^ 62) ≤ j ∧ j < 2 ^ 62) ∧ k (rngI 0 j.toNat)
  | [.int i, .int j] => ((-(2 ^ 62) ≤ i ∧ i < 2 ^ 62) ∧ (-(2 ^ 62) ≤ j ∧ j < 2 ^ 62)) ∧ k (rngI i (j - i).toNat)
  | _ => False
theorem wRng_ok {ps : List PV} {k : List PV → Prop} (h : wRng ps k) : ∃ xs, rngN ps = some xs ∧ k xs := by
  unfold wRng at h
  split at h
  · refine ⟨_, ?_, h.2⟩
    show (if small62 _ then _ else none) = _
    rw [if_pos (show small62 _ = true from decide_eq_true h.1)]
  · refine ⟨_, ?_, h.2⟩
    show (if small62 _ && small62 _ then _ else none) = _
    rw [if_pos (by rw [show small62 _ = true from decide_eq_true h.1.1, show small62 _ = true from decide_eq_true h.1.2]; rfl)]
  · exact h.elim
abbrev NE : PX → Fr → Prop := fun _ _ => False
def wP (e : IE) (run : Fr → (PV → Fr → Prop) → (PX → Fr → Prop) → Prop) (ρ : Fr) (Q : OV → Fr → Prop) (E : PX → Fr → Prop) : Prop := match e with
  | .loc i => (match ρ.at i with
    | some _ => Q (.vw i) ρ
    | none => False)
  | _ => run ρ (fun p ρ1 => wFrz p fun p' => Q (.vl p') ρ1) E
def wG (ln : Bool) (e : IE) (run : Fr → (PV → Fr → Prop) → (PX → Fr → Prop) → Prop) (ρ : Fr) (Q : OV → Fr → Prop) (E : PX → Fr → Prop) : Prop := match ln with
  | true => wP e run ρ Q E
  | false => run ρ (fun p ρ1 => wFrz p fun p' => Q (.vl p') ρ1) E
def wTake : List OV → Fr → (List (PV × Option Nat) → Fr → Prop) → Prop
  | [], ρ, k => k [] ρ
  | .vl p :: r, ρ, k => wTake r ρ fun as ρ' => k ((p, none) :: as) ρ'
  | .vw i :: r, ρ, k => (match ρ.at i with
    | some (.int a) => wTake r ρ fun as ρ' => k ((.int a, none) :: as) ρ'
    | some (.str a) => wTake r ρ fun as ρ' => k ((.str a, none) :: as) ρ'
    | some (.bl a) => wTake r ρ fun as ρ' => k ((.bl a, none) :: as) ρ'
    | some .non => wTake r ρ fun as ρ' => k ((.non, none) :: as) ρ'
    | some (.fn a) => wTake r ρ fun as ρ' => k ((.fn a, none) :: as) ρ'
    | some (.lst true xs) => wTake r (ρ.set i none) fun as ρ' => k ((.lst true xs, some i) :: as) ρ'
    | some p => (p.fz = true ∧ wTake r ρ fun as ρ' => k ((p, none) :: as) ρ') ∨ (p.fz = false ∧ wTake r (ρ.set i none) fun as ρ' => k ((p, some i) :: as) ρ')
    | none => False)
theorem wTake_ok : ∀ {os : List OV} {ρ : Fr} {k : List (PV × Option Nat) → Fr → Prop}, wTake os ρ k → ∃ as ρ1, takeA os ρ = some (as, ρ1) ∧ k as ρ1
  | [], ρ, k, h => ⟨[], ρ, rfl, h⟩
  | .vl p :: r, ρ, k, h => by
    obtain ⟨as, ρ1, e, q⟩ := wTake_ok (os := r) h
    exact ⟨_, ρ1, by simp only [takeA, e]; rfl, q⟩
  | .vw i :: r, ρ, k, h => by
    have see : ∀ {p : PV}, ρ.at i = some p → p.fz = true → wTake r ρ (fun as ρ' => k ((p, none) :: as) ρ') → ∃ as ρ1, takeA (.vw i :: r) ρ = some (as, ρ1) ∧ k as ρ1 := fun {p} e f h => by
      obtain ⟨as, ρ1, e2, q⟩ := wTake_ok (os := r) h
      refine ⟨_, ρ1, ?_, q⟩
      simp only [takeA, e, f, if_true, e2]
      rfl
    have lend : ∀ {p : PV}, ρ.at i = some p → p.fz = false → wTake r (ρ.set i none) (fun as ρ' => k ((p, some i) :: as) ρ') → ∃ as ρ1, takeA (.vw i :: r) ρ = some (as, ρ1) ∧ k as ρ1 := fun {p} e f h => by
      obtain ⟨as, ρ1, e2, q⟩ := wTake_ok (os := r) h
      refine ⟨_, ρ1, ?_, q⟩
      simp only [takeA, e, f, Bool.false_eq_true, if_false, e2]
      rfl
    simp only [wTake] at h
    split at h
    · rename_i z; exact see z rfl h
    · rename_i z; exact see z rfl h
    · rename_i z; exact see z rfl h
    · rename_i z; exact see z rfl h
    · rename_i z; exact see z rfl h
    · rename_i z; exact lend z rfl h
    · rename_i z; exact h.elim (fun h => see z h.1 h.2) fun h => lend z h.1 h.2
    · exact h.elim
def wTr (p : PV) (Q : Bool → Prop) : Prop := match p with
  | .bl b => Q b
  | .int i => Q (i != 0)
  | .non => Q false
  | .lst _ xs => Q (!xs.isEmpty)
  | .lck xs => Q (!xs.isEmpty)
  | .tup xs => Q (!xs.isEmpty)
  | p => ∃ k, truth p = some k ∧ Q k
mutual
def wE (c : Cf) : IE → Fr → (PV → Fr → Prop) → (PX → Fr → Prop) → Prop
  | .cst p, ρ, Q, E => Q p ρ
  | .loc i, ρ, Q, E => (match ρ.at i with
    | some p => wFrz p fun p' => Q p' (ρ.set i (some p'))
    | none => False)
  | .mov i, ρ, Q, E => (match ρ.at i with
    | some p => Q p (ρ.set i none)
    | none => False)
  | .op f es, ρ, Q, E => wO c es ρ (fun os ρ1 => match rsvL ρ1 os with
    | some ps => wOp f ps fun r => Q r ρ1
    | none => False) E
  | .chain f g x y z, ρ, Q, E => wP x (wE c x) ρ (fun o1 ρ1 => wP y (wE c y) ρ1 (fun o2 ρ2 => match rsv ρ2 o1, rsv ρ2 o2 with
    | some p, some q => wOp (.cmp f) [p, q] fun r => match r with
      | .bl k => (k = false → Q (.bl false) ρ2) ∧ (k = true → wP z (wE c z) ρ2 (fun o3 ρ3 => match rsv ρ3 o2, rsv ρ3 o3 with
        | some q', some r' => wOp (.cmp g) [q', r'] fun v => Q v ρ3
        | _, _ => False) E)
      | _ => False
    | _, _ => False) E) E
  | .dcmp f t es u ds, ρ, Q, E => wO c es ρ (fun x ρ1 => okS x.length = true ∧ wO c ds ρ1 (fun y ρ2 => okS y.length = true ∧ match (rsvL ρ2 x).bind (dspP t), (rsvL ρ2 y).bind (dspP u) with
    | some p, some q => wOp (.cmp f) [p, q] fun r => Q r ρ2
    | _, _ => False) E) E
  | .slc x a b, ρ, Q, E => wP x (wE c x) ρ (fun o ρ1 => wP a (wE c a) ρ1 (fun y ρ2 => match rsv ρ2 y with
    | some (.int i) => wP b (wE c b) ρ2 (fun z ρ3 => match rsv ρ3 o, rsv ρ3 z with
      | some p, some (.int j) => ∃ r, sliceN p (some i) (some j) = some r ∧ Q r ρ3
      | _, _ => False) E
    | _ => False) E) E
  | .and a b, ρ, Q, E => wE c a ρ (fun p ρ1 => match p with
    | .bl k => (k = true → wE c b ρ1 Q E) ∧ (k = false → Q (.bl false) ρ1)
    | _ => False) E
  | .or a b, ρ, Q, E => wE c a ρ (fun p ρ1 => match p with
    | .bl k => (k = true → Q (.bl true) ρ1) ∧ (k = false → wE c b ρ1 Q E)
    | _ => False) E
  | .ite t a b, ρ, Q, E => wT c t (wE c t) ρ (fun k ρ1 => (k = true → wE c a ρ1 Q E) ∧ (k = false → wE c b ρ1 Q E)) E
  | .lst es, ρ, Q, E => wL c es ρ (fun ps ρ1 => okS ps.length = true ∧ wFrzL ps fun qs => Q (.lst true qs) ρ1) E
  | .tup es, ρ, Q, E => wL c es ρ (fun ps ρ1 => okS ps.length = true ∧ wFrzL ps fun qs => Q (.tup qs) ρ1) E
  | .call k ls es, ρ, Q, E => wA c ls es ρ (fun os ρ0 => wTake os ρ0 fun as ρ1 => zC c.call k (as.map (·.1)) (fun r as' => Q r (give (as.map (·.2)) as' ρ1)) fun x as' => E x (give (as.map (·.2)) as' ρ1)) E
  | .compv elt tg i ifs own, ρ, Q, E => (match lenAt ρ i with
    | some n => zKv tg own i (fun ρ Q => wI c ifs ρ Q NE) (fun ρ Q => wE c elt ρ Q NE) n ρ Q
    | none => False)
  | .comp elt tg src ifs own, ρ, Q, E => wSrc c src ρ (fun xs ρ1 => zK tg own (fun ρ Q => wI c ifs ρ Q NE) (fun ρ Q => wE c elt ρ Q NE) xs ρ1 Q) E
def wT (c : Cf) : IE → (Fr → (PV → Fr → Prop) → (PX → Fr → Prop) → Prop) → Fr → (Bool → Fr → Prop) → (PX → Fr → Prop) → Prop
  | .and a b, run, ρ, Q, E => wT c a (wE c a) ρ (fun k ρ1 => (k = true → wT c b (wE c b) ρ1 Q E) ∧ (k = false → Q false ρ1)) E
  | .or a b, run, ρ, Q, E => wT c a (wE c a) ρ (fun k ρ1 => (k = true → Q true ρ1) ∧ (k = false → wT c b (wE c b) ρ1 Q E)) E
  | .op .not [e], run, ρ, Q, E => wT c e (wE c e) ρ (fun k ρ1 => Q (!k) ρ1) E
  | .op f es, run, ρ, Q, E => run ρ (fun p ρ1 => match p with
    | .bl k => Q k ρ1
    | _ => False) E
  | .dcmp _ _ _ _ _, run, ρ, Q, E => run ρ (fun p ρ1 => match p with
    | .bl k => Q k ρ1
    | _ => False) E
  | .chain _ _ _ _ _, run, ρ, Q, E => run ρ (fun p ρ1 => match p with
    | .bl k => Q k ρ1
    | _ => False) E
  | e, run, ρ, Q, E => wP e run ρ (fun o ρ1 => match rsv ρ1 o with
    | some p => wTr p fun k => Q k ρ1
    | none => False) E
def wI (c : Cf) : List IE → Fr → (Bool → Fr → Prop) → (PX → Fr → Prop) → Prop
  | [], ρ, Q, E => Q true ρ
  | [e], ρ, Q, E => wT c e (wE c e) ρ Q E
  | _, _, _, _ => False
def wO (c : Cf) : List IE → Fr → (List OV → Fr → Prop) → (PX → Fr → Prop) → Prop
  | [], ρ, Q, E => Q [] ρ
  | e :: es, ρ, Q, E => wP e (wE c e) ρ (fun o ρ1 => wO c es ρ1 (fun os ρ2 => Q (o :: os) ρ2) E) E
def wL (c : Cf) : List IE → Fr → (List PV → Fr → Prop) → (PX → Fr → Prop) → Prop
  | [], ρ, Q, E => Q [] ρ
  | e :: es, ρ, Q, E => wE c e ρ (fun o ρ1 => wL c es ρ1 (fun os ρ2 => Q (o :: os) ρ2) E) E
def wA (c : Cf) : List Bool → List IE → Fr → (List OV → Fr → Prop) → (PX → Fr → Prop) → Prop
  | _, [], ρ, Q, E => Q [] ρ
  | ls, e :: es, ρ, Q, E => wG (ls.headD false) e (wE c e) ρ (fun o ρ1 => wA c ls.tail es ρ1 (fun os ρ2 => Q (o :: os) ρ2) E) E
def wSrc (c : Cf) : ISrc → Fr → (List PV → Fr → Prop) → (PX → Fr → Prop) → Prop
  | .it e, ρ, Q, E => wE c e ρ (fun p ρ1 => wFrz p fun p' => ∃ xs, srcOf p' = some xs ∧ Q xs ρ1) E
  | .rng es, ρ, Q, E => wO c es ρ (fun os ρ1 => match rsvL ρ1 os with
    | some ps => wRng ps fun xs => Q xs ρ1
    | none => False) E
  | .enm e, ρ, Q, E => wE c e ρ (fun p ρ1 => wFrz p fun p' => ∃ xs, enmP [p'] = some xs ∧ Q xs ρ1) E
  | .zp a b, ρ, Q, E => wE c a ρ (fun p ρ1 => wE c b ρ1 (fun q ρ2 => ∃ xs, zipP [p.frz, q.frz] = some xs ∧ Q xs ρ2) E) E
end
mutual
def wS (c : Cf) : IS → Fr → (Fl → Fr → Prop) → (PX → Fr → Prop) → Prop
  | .set i e, ρ, Q, E => wE c e ρ (fun p ρ1 => match Nat.blt i ρ1.length with
    | true => Q .nx (ρ1.set i (some p))
    | false => False) E
  | .asg tg e, ρ, Q, E => wE c e ρ (fun p ρ1 => wFrz p fun p' => ∃ ρ2, asg tg p' ρ1 = some ρ2 ∧ Q .nx ρ2) E
  | .par is es, ρ, Q, E => wL c es ρ (fun ps ρ1 => ∃ ρ2, putL is ps ρ1 = some ρ2 ∧ Q .nx ρ2) E
  | .aug i o e, ρ, Q, E => (match ρ.at i with
    | some q => wE c e ρ (fun p ρ1 => match q, p, o with
      | .int a, .int b, .Add => Q .nx (ρ1.set i (some (.int (a + b))))
      | .int a, .int b, .Sub => Q .nx (ρ1.set i (some (.int (a - b))))
      | _, _, _ => False) E
    | none => False)
  | .sub i ix e, ρ, Q, E => wE c e ρ (fun p ρ1 => wFrz p fun p' => match ρ1.at i with
    | some (.lst _ _) => wP ix (wE c ix) ρ1 (fun o ρ2 => match ρ2.at i, rsv ρ2 o with
      | some (.lst true xs), some (.int k) => ∃ j, L2.ixN xs.length k = some j ∧ Q .nx (ρ2.set i (some (.lst true (xs.set j p'))))
      | _, _ => False) E
    | _ => False) E
  | .app i e, ρ, Q, E => (match ρ.at i with
    | some (.lst _ _) => wE c e ρ (fun p ρ1 => wFrz p fun p' => match ρ1.at i with
      | some (.lst true xs) => xs.length < sizeLine ∧ Q .nx (ρ1.set i (some (.lst true (xs ++ [p']))))
      | _ => False) E
    | _ => False)
  | .ext i e, ρ, Q, E => (match ρ.at i with
    | some (.lst _ _) => wE c e ρ (fun p ρ1 => wFrz p fun p' => match ρ1.at i, p' with
      | some (.lst true xs), .lst _ ys => xs.length + ys.length ≤ sizeLine ∧ Q .nx (ρ1.set i (some (.lst true (xs ++ ys))))
      | _, _ => False) E
    | _ => False)
  | .exp e, ρ, Q, E => wE c e ρ (fun _ ρ1 => Q .nx ρ1) E
  | .ret e, ρ, Q, E => wE c e ρ (fun p ρ1 => Q (.rt p) ρ1) E
  | .retN, ρ, Q, E => Q (.rt .non) ρ
  | .ife t a b, ρ, Q, E => wT c t (wE c t) ρ (fun k ρ1 => (k = true → wB c a ρ1 Q E) ∧ (k = false → wB c b ρ1 Q E)) E
  | .fors tg src body, ρ, Q, E => wSrc c src ρ (fun xs ρ1 => zF tg (fun ρ Q => wB c body ρ Q E) xs ρ1 Q E) E
  | .forv tg i body, ρ, Q, E => (match lenAt ρ i with
    | some n => zFv tg i (fun ρ Q => wB c body ρ Q E) n ρ Q E
    | none => False)
  | .whl t body, ρ, Q, E => zW c.fuel (fun ρ Q => wT c t (wE c t) ρ Q E) (fun ρ Q => wB c body ρ Q E) ρ Q E
  | .brk, ρ, Q, E => Q .bk ρ
  | .cnt, ρ, Q, E => Q .ct ρ
  | .pas, ρ, Q, E => Q .nx ρ
  | .rai C fs es, ρ, Q, E => wL c es ρ (fun ps ρ1 => wFrzL ps fun qs => E ⟨C, fs.zip qs⟩ ρ1) E
def wB (c : Cf) : List IS → Fr → (Fl → Fr → Prop) → (PX → Fr → Prop) → Prop
  | [], ρ, Q, E => Q .nx ρ
  | s :: r, ρ, Q, E => wS c s ρ (fun f ρ1 => match f with
    | .nx => wB c r ρ1 Q E
    | z => Q z ρ1) E
end
end Y
end
section
set_option Elab.async false
set_option linter.all false
set_option maxRecDepth 100000
set_option maxHeartbeats 4000000
set_option autoImplicit false
/-! V2: .. is enough. -/
namespace Y
open PySem
/-- a run is enough -/
abbrev RunOk (run : Fr → (PV → Fr → Prop) → (PX → Fr → Prop) → Prop) (m : Fr → Res PV) : Prop := ∀ ρ Q E, run ρ Q E → (m ρ).sat Q E
theorem wP_ok {e : IE} {run : Fr → (PV → Fr → Prop) → (PX → Fr → Prop) → Prop} {m : Fr → Res PV} (hr : RunOk run m) {ρ : Fr} {Q : OV → Fr → Prop} {E : PX → Fr → Prop} (h : wP e run ρ Q E) : (opnd e m ρ).sat Q E := by
  by_cases he : isL0 e = true
  · cases e with
    | loc i =>
      simp only [wP] at h
      cases e : ρ.at i with
      | none => rw [e] at h; exact h.elim
      | some p => rw [e] at h; exact o_loc e h
    | _ => cases he
  · have he : isL0 e = false := by simpa using he
    refine o_val he ?_
    have h' : run ρ (fun p ρ1 => wFrz p fun p' => Q (.vl p') ρ1) E := by
      cases e <;> first
        | exact h
        | cases he
    exact (hr _ _ _ h').mono fun p ρ1 q => ⟨_, rfl, wFrz_ok q⟩
theorem wG_ok {ln : Bool} {e : IE} {run : Fr → (PV → Fr → Prop) → (PX → Fr → Prop) → Prop} {m : Fr → Res PV} (hr : RunOk run m) {ρ : Fr} {Q : OV → Fr → Prop} {E : PX → Fr → Prop} (h : wG ln e run ρ Q E) : (opA ln e m ρ).sat Q E := by
  cases ln with
  | true => exact wP_ok hr h
  | false => exact sat_bind.mpr ((hr _ _ _ h).mono fun p ρ1 q => wFrz_ok (k := fun p' => Q (.vl p') ρ1) q)
theorem wTr_ok {p : PV} {Q : Bool → Prop} (h : wTr p Q) : ∃ k, truth p = some k ∧ Q k := by
  cases p <;> first
    | exact ⟨_, rfl, h⟩
    | exact h
theorem tr_end {o : OV} {ρ1 : Fr} {Q : Bool → Fr → Prop} (q : match rsv ρ1 o with
    | some p => wTr p fun k => Q k ρ1
    | none => False) : ∃ p k, rsv ρ1 o = some p ∧ truth p = some k ∧ Q k ρ1 := by
  cases e : rsv ρ1 o with
  | none => rw [e] at q; exact q.elim
  | some p =>
    rw [e] at q
    obtain ⟨k, e2, q⟩ := wTr_ok (Q := fun k => Q k ρ1) q
    exact ⟨p, k, rfl, e2, q⟩
theorem wT_op {c : Cf} {f : Op} {es : List IE} {run : Fr → (PV → Fr → Prop) → (PX → Fr → Prop) → Prop} {ρ : Fr} {Q : Bool → Fr → Prop} {E : PX → Fr → Prop} (hn : ¬ ∃ e, f = .not ∧ es = [e]) : wT c (.op f es) run ρ Q E = run ρ (fun p ρ1 => match p with
    | .bl k => Q k ρ1
    | _ => False) E := by
  cases f with
  | not =>
    cases es with
    | nil => first | (simp only [wT]; done) | (simp only [wT]; rfl)
    | cons e r =>
      cases r with
      | nil => exact absurd ⟨e, rfl, rfl⟩ hn
      | cons => first | (simp only [wT]; done) | (simp only [wT]; rfl)
  | _ => first | (simp only [wT]; done) | (simp only [wT]; rfl)
theorem evT_op2 {c : Cf} {f : Op} {es : List IE} {run : Fr → Res PV} {ρ : Fr} (hn : ¬ ∃ e, f = .not ∧ es = [e]) : evT c (.op f es) run ρ = asB (run ρ) := by
  cases f with
  | not =>
    cases es with
    | nil => simp only [evT]
    | cons e r =>
      cases r with
      | nil => exact absurd ⟨e, rfl, rfl⟩ hn
      | cons => simp only [evT]
  | _ => simp only [evT]
theorem comp_vloop {turn : PV → Fr → Res (Option PV)} {own : List Nat} {i n : Nat} (I : Nat → List PV → Fr → Prop) (hend : ∀ ys ρ, I n ys ρ → vwLen ρ i n = true) (step : ∀ j acc ρ, j < n → I j acc ρ → ∃ x, vwAt ρ i n j = some x ∧ (turn x ρ).sat (fun y ρ1 => match y with
    | some y => ∃ y', y.frz = y' ∧ acc.length < sizeLine ∧ I (j + 1) (acc ++ [y']) (wipeF ρ1 own)
    | none => I (j + 1) acc (wipeF ρ1 own)) NE) : ∀ (k : Nat) (acc : List PV) (ρ : Fr), k ≤ n → I (n - k) acc ρ → (compV turn own i n k ρ acc).sat (fun ys ρ => I n ys ρ) NE
  | 0, acc, ρ, hk, h => by
    unfold compV
    rw [Nat.sub_zero] at h
    rw [if_pos (hend _ _ h)]
    exact h
  | k + 1, acc, ρ, hk, h => by
    obtain ⟨x, e1, s⟩ := step (n - (k + 1)) acc ρ (by omega) h
    unfold compV
    rw [e1]
    dsimp only
    have e2 : n - (k + 1) + 1 = n - k := by omega
    rw [e2] at s
    cases e : turn x ρ with
    | bad => rw [e] at s; exact s
    | ex x ρ1 => rw [e] at s; exact s.elim
    | ok y ρ1 =>
      rw [e] at s
      cases y with
      | none => exact comp_vloop I hend step k acc _ (by omega) s
      | some y =>
        obtain ⟨y', f, h1, h2⟩ := s
        subst f
        dsimp only
        rw [if_pos h1]
        exact comp_vloop I hend step k _ _ (by omega) h2
theorem for_vloop {turn : PV → Fr → Res Fl} {i n : Nat} {Q : Fl → Fr → Prop} {E : PX → Fr → Prop} (I : Nat → Fr → Prop) (hend : ∀ ρ, I n ρ → vwLen ρ i n = true ∧ Q .nx ρ) (step : ∀ j ρ, j < n → I j ρ → ∃ x, vwAt ρ i n j = some x ∧ (turn x ρ).sat (fun f ρ1 => match f with
    | .nx => I (j + 1) ρ1
    | .ct => I (j + 1) ρ1
    | .bk => Q .nx ρ1
    | .rt p => Q (.rt p) ρ1) E) : ∀ (k : Nat) (ρ : Fr), k ≤ n → I (n - k) ρ → (forV turn i n k ρ).sat Q E
  | 0, ρ, hk, h => by
    unfold forV
    rw [Nat.sub_zero] at h
    rw [if_pos (hend _ h).1]
    exact (hend _ h).2
  | k + 1, ρ, hk, h => by
    obtain ⟨x, e1, s⟩ := step (n - (k + 1)) ρ (by omega) h
    unfold forV
    rw [e1]
    dsimp only
    have e2 : n - (k + 1) + 1 = n - k := by omega
    rw [e2] at s
    cases e : turn x ρ with
    | bad => rw [e] at s; exact s
    | ex x ρ1 => rw [e] at s; exact s
    | ok f ρ1 =>
      rw [e] at s
      cases f with
      | nx => exact for_vloop I hend step k ρ1 (by omega) s
      | ct => exact for_vloop I hend step k ρ1 (by omega) s
      | bk => exact s
      | rt p => exact s
theorem zC_ok {f : Str → List PV → CR} {k : Str} {as : List PV} {Q : PV → Fr → Prop} {E : PX → Fr → Prop} : zC f k as Q E ↔ (f k as).sat Q E := by
  unfold zC
  exact Iff.rfl
mutual
theorem wE_ok (c : Cf) : ∀ (e : IE), RunOk (wE c e) (evE c e)
  | .cst p, ρ, Q, E, h => s_cst (by simpa only [wE] using h)
  | .loc i, ρ, Q, E, h => by
    simp only [wE] at h
    cases e : ρ.at i with
    | none => rw [e] at h; exact h.elim
    | some p => rw [e] at h; exact s_loc e rfl (wFrz_ok (k := fun p' => Q p' (ρ.set i (some p'))) h)
  | .mov i, ρ, Q, E, h => by
    simp only [wE] at h
    cases e : ρ.at i with
    | none => rw [e] at h; exact h.elim
    | some p => rw [e] at h; exact s_mov e h
  | .op f es, ρ, Q, E, h => by
    simp only [wE] at h
    refine s_op ((wO_ok c es _ _ _ h).mono fun os ρ1 q => ?_)
    cases e : rsvL ρ1 os with
    | none => rw [e] at q; exact q.elim
    | some ps =>
      rw [e] at q
      obtain ⟨r, e2, q⟩ := wOp_ok q
      exact ⟨ps, r, rfl, e2, q⟩
  | .chain f g x y z, ρ, Q, E, h => by
    simp only [wE] at h
    refine s_chain ((wP_ok (wE_ok c x) h).mono fun o1 ρ1 h => (wP_ok (wE_ok c y) h).mono fun o2 ρ2 q => ?_)
    cases e1 : rsv ρ2 o1 with
    | none => rw [e1] at q; exact q.elim
    | some p =>
      cases e2 : rsv ρ2 o2 with
      | none => rw [e1, e2] at q; exact q.elim
      | some p2 =>
        rw [e1, e2] at q
        obtain ⟨r, e3, q⟩ := wOp_ok q
        cases e4 : cmpN f p p2 with
        | none => simp [opN, e4] at e3
        | some k =>
          simp [opN, e4] at e3
          subst e3
          refine ⟨p, p2, k, rfl, rfl, e4, q.1, fun hk => (wP_ok (wE_ok c z) (q.2 hk)).mono fun o3 ρ3 q => ?_⟩
          cases f1 : rsv ρ3 o2 with
          | none => rw [f1] at q; exact q.elim
          | some q' =>
            cases f2 : rsv ρ3 o3 with
            | none => rw [f1, f2] at q; exact q.elim
            | some r' =>
              rw [f1, f2] at q
              obtain ⟨v, f3, q⟩ := wOp_ok q
              cases f4 : cmpN g q' r' with
              | none => simp [opN, f4] at f3
              | some k' =>
                simp [opN, f4] at f3
                subst f3
                exact ⟨q', r', k', rfl, rfl, f4, q⟩
  | .dcmp f t es u ds, ρ, Q, E, h => by
    simp only [wE] at h
    refine s_dcmp ((wO_ok c es _ _ _ h).mono fun x ρ1 ⟨o1, h⟩ => ⟨o1, (wO_ok c ds _ _ _ h).mono fun y ρ2 ⟨o2, h⟩ => ⟨o2, ?_⟩⟩)
    split at h
    · rename_i p q e1 e2
      obtain ⟨r, e3, h⟩ := wOp_ok h
      cases e4 : cmpN f p q with
      | none => simp [opN, e4] at e3
      | some k =>
        simp [opN, e4] at e3
        subst e3
        exact ⟨p, q, k, e1, e2, e4, h⟩
    · exact h.elim
  | .slc x a b, ρ, Q, E, h => by
    simp only [wE] at h
    refine s_slc ((wP_ok (wE_ok c x) h).mono fun o ρ1 h => (wP_ok (wE_ok c a) h).mono fun y ρ2 q => ?_)
    split at q
    · rename_i i e1
      refine ⟨i, e1, (wP_ok (wE_ok c b) q).mono fun z ρ3 q => ?_⟩
      split at q
      · rename_i p j e2 e3
        obtain ⟨r, e4, q⟩ := q
        exact ⟨p, j, r, e2, e3, e4, q⟩
      · exact q.elim
    · exact q.elim
  | .and a b, ρ, Q, E, h => by
    simp only [wE] at h
    refine s_and ((wE_ok c a _ _ _ h).mono fun p ρ1 q => ?_)
    split at q
    · exact ⟨_, rfl, fun hk => wE_ok c b _ _ _ (q.1 hk), q.2⟩
    · exact q.elim
  | .or a b, ρ, Q, E, h => by
    simp only [wE] at h
    refine s_or ((wE_ok c a _ _ _ h).mono fun p ρ1 q => ?_)
    split at q
    · exact ⟨_, rfl, q.1, fun hk => wE_ok c b _ _ _ (q.2 hk)⟩
    · exact q.elim
  | .ite t a b, ρ, Q, E, h => by
    simp only [wE] at h
    exact s_ite ((wT_ok c t _ _ _ h).mono fun k ρ1 q => ⟨fun hk => wE_ok c a _ _ _ (q.1 hk), fun hk => wE_ok c b _ _ _ (q.2 hk)⟩)
  | .lst es, ρ, Q, E, h => by
    simp only [wE] at h
    exact s_lst ((wL_ok c es _ _ _ h).mono fun ps ρ1 q => ⟨_, rfl, q.1, wFrzL_ok (k := fun qs => Q (.lst true qs) ρ1) q.2⟩)
  | .tup es, ρ, Q, E, h => by
    simp only [wE] at h
    exact s_tup ((wL_ok c es _ _ _ h).mono fun ps ρ1 q => ⟨_, rfl, q.1, wFrzL_ok (k := fun qs => Q (.tup qs) ρ1) q.2⟩)
  | .call k ls es, ρ, Q, E, h => by
    simp only [wE] at h
    exact s_call ((wA_ok c _ es _ _ _ h).mono fun os ρ0 q => by
      obtain ⟨as, ρ1, e, q⟩ := wTake_ok q
      exact ⟨as, ρ1, e, zC_ok.mp q⟩)
  | .comp elt tg src ifs own, ρ, Q, E, h => by
    simp only [wE] at h
    have h2 : (evSrc c src ρ).sat (fun xs ρ1 => zK tg own (fun ρ Q => wI c ifs ρ Q NE) (fun ρ Q => wE c elt ρ Q NE) xs ρ1 Q) E := wSrc_ok c src _ _ _ h
    cases e : evSrc c src ρ with
    | bad => rw [e] at h2; exact h2.elim
    | ex x ρ1 =>
      rw [e] at h2
      simp only [evE, e]
      exact h2
    | ok xs ρ1 =>
      rw [e] at h2
      have h3 : zK tg own (fun ρ Q => wI c ifs ρ Q NE) (fun ρ Q => wE c elt ρ Q NE) xs ρ1 Q := h2
      unfold zK at h3
      obtain ⟨I, h0, hk, step⟩ := h3
      refine s_comp I (by rw [e]; exact ⟨h0, hk⟩) fun x r acc ρ hI => ?_
      obtain ⟨ρ2, e2, q⟩ := step x r acc ρ hI
      exact ⟨ρ2, e2, (wI_ok c ifs _ _ _ q).mono fun k ρ3 q => ⟨fun hk => wE_ok c elt _ _ _ (q.1 hk), q.2⟩⟩
  | .compv elt tg i ifs own, ρ, Q, E, h => by
    simp only [wE] at h
    simp only [evE]
    cases en : lenAt ρ i with
    | none => rw [en] at h; exact h.elim
    | some n =>
      rw [en] at h
      have h2 : zKv tg own i (fun ρ Q => wI c ifs ρ Q NE) (fun ρ Q => wE c elt ρ Q NE) n ρ Q := h
      unfold zKv at h2
      obtain ⟨eo, I, h0, hk, step⟩ := h2
      rw [eo]
      dsimp only
      have L := comp_vloop (turn := fun x ρ => match asg tg x ρ with
        | some ρ2 => (evIfs c ifs ρ2).bind fun k ρ3 => if k then (evE c elt ρ3).bind fun y ρ4 => .ok (some y) ρ4 else .ok none ρ3
        | none => .bad) (own := own) I (fun ys ρ hI => (hk ys ρ hI).1) (fun j acc ρ hj hI => by
          obtain ⟨x, ρ2, e1, e2, q⟩ := step j acc ρ hj hI
          refine ⟨x, e1, ?_⟩
          rw [e2]
          refine sat_bind.mpr ((wI_ok c ifs _ _ _ q).mono fun k ρ3 q => ?_)
          cases k with
          | true =>
            rw [if_pos rfl]
            exact sat_bind.mpr (wE_ok c elt _ _ _ (q.1 rfl))
          | false =>
            rw [if_neg Bool.false_ne_true]
            exact q.2 rfl) n [] _ (Nat.le_refl _) (by rw [Nat.sub_self]; exact h0)
      generalize compV _ own i n n _ [] = r at L
      cases r with
      | ok ys ρ2 => exact (hk ys ρ2 L).2
      | ex x ρ2 => exact L.elim
      | bad => exact L.elim
theorem wT_ok (c : Cf) : ∀ (e : IE) (ρ : Fr) (Q : Bool → Fr → Prop) (E : PX → Fr → Prop), wT c e (wE c e) ρ Q E → (evT c e (evE c e) ρ).sat Q E
  | .and a b, ρ, Q, E, h => by
    simp only [wT] at h
    exact t_and ((wT_ok c a _ _ _ h).mono fun k ρ1 q => ⟨fun hk => wT_ok c b _ _ _ (q.1 hk), q.2⟩)
  | .or a b, ρ, Q, E, h => by
    simp only [wT] at h
    exact t_or ((wT_ok c a _ _ _ h).mono fun k ρ1 q => ⟨q.1, fun hk => wT_ok c b _ _ _ (q.2 hk)⟩)
  | .op f es, ρ, Q, E, h => by
    by_cases hn : ∃ e, f = .not ∧ es = [e]
    · obtain ⟨e, rfl, rfl⟩ := hn
      simp only [wT] at h
      exact t_not (wT_ok c e _ _ _ h)
    · rw [wT_op hn] at h
      have h2 := wE_ok c (.op f es) _ _ _ h
      have et := evT_op2 (c := c) (run := evE c (.op f es)) (ρ := ρ) hn
      rw [et]
      refine sat_bind.mpr (h2.mono fun p ρ1 q => ?_)
      split at q
      · exact q
      · exact q.elim
  | .chain f g x y z, ρ, Q, E, h => by
    simp only [wT] at h
    refine t_chain ((wE_ok c (.chain f g x y z) _ _ _ h).mono fun p ρ1 q => ?_)
    split at q
    · exact ⟨_, rfl, q⟩
    · exact q.elim
  | .dcmp f t es u ds, ρ, Q, E, h => by
    simp only [wT] at h
    refine t_dcmp ((wE_ok c (.dcmp f t es u ds) _ _ _ h).mono fun p ρ1 q => ?_)
    split at q
    · exact ⟨_, rfl, q⟩
    · exact q.elim
  | .cst p, ρ, Q, E, h => by
    simp only [wT] at h
    exact t_val rfl ((wP_ok (wE_ok c _) h).mono fun o ρ1 q => tr_end q)
  | .loc i, ρ, Q, E, h => by
    simp only [wT] at h
    exact t_val rfl ((wP_ok (wE_ok c _) h).mono fun o ρ1 q => tr_end q)
  | .mov i, ρ, Q, E, h => by
    simp only [wT] at h
    exact t_val rfl ((wP_ok (wE_ok c _) h).mono fun o ρ1 q => tr_end q)
  | .slc x a b, ρ, Q, E, h => by
    simp only [wT] at h
    exact t_val rfl ((wP_ok (wE_ok c _) h).mono fun o ρ1 q => tr_end q)
  | .ite t a b, ρ, Q, E, h => by
    simp only [wT] at h
    exact t_val rfl ((wP_ok (wE_ok c _) h).mono fun o ρ1 q => tr_end q)
  | .lst es, ρ, Q, E, h => by
    simp only [wT] at h
    exact t_val rfl ((wP_ok (wE_ok c _) h).mono fun o ρ1 q => tr_end q)
  | .tup es, ρ, Q, E, h => by
    simp only [wT] at h
    exact t_val rfl ((wP_ok (wE_ok c _) h).mono fun o ρ1 q => tr_end q)
  | .call k ls es, ρ, Q, E, h => by
    simp only [wT] at h
    exact t_val rfl ((wP_ok (wE_ok c _) h).mono fun o ρ1 q => tr_end q)
  | .comp elt tg src ifs own, ρ, Q, E, h => by
    simp only [wT] at h
    exact t_val rfl ((wP_ok (wE_ok c _) h).mono fun o ρ1 q => tr_end q)
  | .compv elt tg i ifs own, ρ, Q, E, h => by
    simp only [wT] at h
    exact t_val rfl ((wP_ok (wE_ok c _) h).mono fun o ρ1 q => tr_end q)
theorem wI_ok (c : Cf) : ∀ (es : List IE) (ρ : Fr) (Q : Bool → Fr → Prop) (E : PX → Fr → Prop), wI c es ρ Q E → (evIfs c es ρ).sat Q E
  | [], ρ, Q, E, h => i_nil (by simpa only [wI] using h)
  | [e], ρ, Q, E, h => i_one (wT_ok c e _ _ _ (by simpa only [wI] using h))
  | _ :: _ :: _, ρ, Q, E, h => by simp only [wI] at h
theorem wO_ok (c : Cf) : ∀ (es : List IE) (ρ : Fr) (Q : List OV → Fr → Prop) (E : PX → Fr → Prop), wO c es ρ Q E → (evO c es ρ).sat Q E
  | [], ρ, Q, E, h => os_nil (by simpa only [wO] using h)
  | e :: es, ρ, Q, E, h => by
    simp only [wO] at h
    exact os_cons ((wP_ok (wE_ok c e) h).mono fun o ρ1 q => wO_ok c es _ _ _ q)
theorem wL_ok (c : Cf) : ∀ (es : List IE) (ρ : Fr) (Q : List PV → Fr → Prop) (E : PX → Fr → Prop), wL c es ρ Q E → (evL c es ρ).sat Q E
  | [], ρ, Q, E, h => l_nil (by simpa only [wL] using h)
  | e :: es, ρ, Q, E, h => by
    simp only [wL] at h
    exact l_cons ((wE_ok c e _ _ _ h).mono fun o ρ1 q => wL_ok c es _ _ _ q)
theorem wA_ok (c : Cf) : ∀ (ls : List Bool) (es : List IE) (ρ : Fr) (Q : List OV → Fr → Prop) (E : PX → Fr → Prop), wA c ls es ρ Q E → (evA c ls es ρ).sat Q E
  | ls, [], ρ, Q, E, h => a_nil (by simpa only [wA] using h)
  | ls, e :: es, ρ, Q, E, h => by
    simp only [wA] at h
    exact a_cons ((wG_ok (wE_ok c e) h).mono fun o ρ1 q => wA_ok c _ es _ _ _ q)
theorem wSrc_ok (c : Cf) : ∀ (s : ISrc) (ρ : Fr) (Q : List PV → Fr → Prop) (E : PX → Fr → Prop), wSrc c s ρ Q E → (evSrc c s ρ).sat Q E
  | .it e, ρ, Q, E, h => by
    simp only [wSrc] at h
    refine w_it ((wE_ok c e _ _ _ h).mono fun p ρ1 q => ?_)
    obtain ⟨xs, e1, q⟩ := wFrz_ok (k := fun p' => ∃ xs, srcOf p' = some xs ∧ Q xs ρ1) q
    exact ⟨_, xs, rfl, e1, q⟩
  | .rng es, ρ, Q, E, h => by
    simp only [wSrc] at h
    refine w_rng ((wO_ok c es _ _ _ h).mono fun os ρ1 q => ?_)
    split at q
    · rename_i ps e1
      obtain ⟨xs, e2, q⟩ := wRng_ok q
      exact ⟨ps, xs, e1, e2, q⟩
    · exact q.elim
  | .enm e, ρ, Q, E, h => by
    simp only [wSrc] at h
    refine w_enm ((wE_ok c e _ _ _ h).mono fun p ρ1 q => ?_)
    obtain ⟨xs, e1, q⟩ := wFrz_ok (k := fun p' => ∃ xs, enmP [p'] = some xs ∧ Q xs ρ1) q
    exact ⟨_, xs, rfl, e1, q⟩
  | .zp a b, ρ, Q, E, h => by
    simp only [wSrc] at h
    simp only [evSrc]
    refine sat_bind.mpr (g_val (b := false) rfl ((wE_ok c a _ _ _ h).mono fun p ρ1 h => ⟨_, rfl, sat_bind.mpr (g_val (b := false) rfl ((wE_ok c b _ _ _ h).mono fun q ρ2 ⟨xs, e, k⟩ => ⟨_, rfl, ?_⟩))⟩))
    dsimp only
    rw [e]
    exact k
end
end Y
end
section
set_option Elab.async false
set_option linter.all false
set_option maxRecDepth 100000
set_option maxHeartbeats 4000000
set_option autoImplicit false
/-! V3: statements, calls. -/
namespace Y
open PySem
mutual
theorem wS_ok (c : Cf) : ∀ (s : IS) (ρ : Fr) (Q : Fl → Fr → Prop) (E : PX → Fr → Prop), wS c s ρ Q E → (evS c s ρ).sat Q E
  | .set i e, ρ, Q, E, h => by
    simp only [wS] at h
    refine k_set ((wE_ok c e _ _ _ h).mono fun p ρ1 q => ?_)
    cases hb : Nat.blt i ρ1.length with
    | true => rw [hb] at q; exact ⟨Nat.le_of_ble_eq_true hb, q⟩
    | false => rw [hb] at q; exact q.elim
  | .asg tg e, ρ, Q, E, h => by
    simp only [wS] at h
    refine k_asg ((wE_ok c e _ _ _ h).mono fun p ρ1 q => ?_)
    obtain ⟨ρ2, e1, q⟩ := wFrz_ok (k := fun p' => ∃ ρ2, asg tg p' ρ1 = some ρ2 ∧ Q .nx ρ2) q
    exact ⟨_, ρ2, rfl, e1, q⟩
  | .par is es, ρ, Q, E, h => by
    simp only [wS] at h
    simp only [evS]
    refine sat_bind.mpr ((wL_ok c es _ _ _ h).mono fun ps ρ1 ⟨ρ2, e, q⟩ => ?_)
    rw [e]
    exact q
  | .aug i o e, ρ, Q, E, h => by
    simp only [wS] at h
    cases e0 : ρ.at i with
    | none => rw [e0] at h; exact h.elim
    | some q0 =>
      rw [e0] at h
      have h2 := wE_ok c e _ _ _ h
      simp only [evS, e0]
      refine sat_bind.mpr (h2.mono fun p ρ1 q => ?_)
      split at q
      · exact q
      · exact q
      · exact q.elim
  | .sub i ix e, ρ, Q, E, h => by
    simp only [wS] at h
    refine k_sub ((wE_ok c e _ _ _ h).mono fun p ρ1 q => ?_)
    have q := wFrz_ok (k := fun p' => match ρ1.at i with
      | some (.lst _ _) => wP ix (wE c ix) ρ1 (fun o ρ2 => match ρ2.at i, rsv ρ2 o with
        | some (.lst true xs), some (.int k) => ∃ j, L2.ixN xs.length k = some j ∧ Q .nx (ρ2.set i (some (.lst true (xs.set j p'))))
        | _, _ => False) E
      | _ => False) q
    refine ⟨_, rfl, ?_⟩
    split at q
    · rename_i e1
      refine ⟨by rw [e1]; rfl, (wP_ok (wE_ok c ix) q).mono fun o ρ2 q => ?_⟩
      split at q
      · rename_i xs k e2 e3
        obtain ⟨j, e4, q⟩ := q
        exact ⟨xs, k, j, e2, e3, e4, q⟩
      · exact q.elim
    · exact q.elim
  | .app i e, ρ, Q, E, h => by
    simp only [wS] at h
    split at h
    · rename_i e1
      refine k_app (by rw [e1]; rfl) ((wE_ok c e _ _ _ h).mono fun p ρ1 q => ?_)
      have q := wFrz_ok (k := fun p' => match ρ1.at i with
        | some (.lst true xs) => xs.length < sizeLine ∧ Q .nx (ρ1.set i (some (.lst true (xs ++ [p']))))
        | _ => False) q
      split at q
      · rename_i xs e2
        exact ⟨_, xs, rfl, e2, q.1, q.2⟩
      · exact q.elim
    · exact h.elim
  | .ext i e, ρ, Q, E, h => by
    simp only [wS] at h
    split at h
    · rename_i e1
      refine k_ext (by rw [e1]; rfl) ((wE_ok c e _ _ _ h).mono fun p ρ1 q => ?_)
      have q := wFrz_ok (k := fun p' => match ρ1.at i, p' with
        | some (.lst true xs), .lst _ ys => xs.length + ys.length ≤ sizeLine ∧ Q .nx (ρ1.set i (some (.lst true (xs ++ ys))))
        | _, _ => False) q
      split at q
      · rename_i xs o ys e2 e3
        exact ⟨xs, o, ys, e2, e3, q.1, q.2⟩
      · exact q.elim
    · exact h.elim
  | .exp e, ρ, Q, E, h => k_exp (wE_ok c e _ _ _ (by simpa only [wS] using h))
  | .ret e, ρ, Q, E, h => k_ret (wE_ok c e _ _ _ (by simpa only [wS] using h))
  | .retN, ρ, Q, E, h => k_retN (by simpa only [wS] using h)
  | .ife t a b, ρ, Q, E, h => by
    simp only [wS] at h
    exact k_ife ((wT_ok c t _ _ _ h).mono fun k ρ1 q => ⟨fun hk => wB_ok c a _ _ _ (q.1 hk), fun hk => wB_ok c b _ _ _ (q.2 hk)⟩)
  | .fors tg src body, ρ, Q, E, h => by
    simp only [wS] at h
    have h2 := wSrc_ok c src _ _ _ h
    cases e : evSrc c src ρ with
    | bad => rw [e] at h2; exact h2.elim
    | ex x ρ1 =>
      rw [e] at h2
      simp only [evS, e]
      exact h2
    | ok xs ρ1 =>
      rw [e] at h2
      have h3 : zF tg (fun ρ Q => wB c body ρ Q E) xs ρ1 Q E := h2
      unfold zF at h3
      obtain ⟨I, h0, hend, step⟩ := h3
      refine k_for I (by rw [e]; exact h0) hend fun x r ρ hI => ?_
      obtain ⟨ρ2, e2, q⟩ := step x r ρ hI
      exact ⟨ρ2, e2, wB_ok c body _ _ _ q⟩
  | .forv tg i body, ρ, Q, E, h => by
    simp only [wS] at h
    simp only [evS]
    cases en : lenAt ρ i with
    | none => rw [en] at h; exact h.elim
    | some n =>
      rw [en] at h
      have h2 : zFv tg i (fun ρ Q => wB c body ρ Q E) n ρ Q E := h
      unfold zFv at h2
      obtain ⟨I, h0, hk, step⟩ := h2
      dsimp only
      refine for_vloop I hk (fun j ρ hj hI => ?_) n ρ (Nat.le_refl _) (by rw [Nat.sub_self]; exact h0)
      obtain ⟨x, ρ2, e1, e2, q⟩ := step j ρ hj hI
      refine ⟨x, e1, ?_⟩
      rw [e2]
      exact wB_ok c body _ _ _ q
  | .whl t body, ρ, Q, E, h => by
    simp only [wS] at h
    unfold zW at h
    obtain ⟨I, n, h0, hf, step⟩ := h
    refine k_whl I n h0 hf fun n ρ hI => (wT_ok c t _ _ _ (step n ρ hI)).mono fun k ρ1 q => ⟨fun hk => ?_, q.2⟩
    obtain ⟨m, e, q⟩ := q.1 hk
    exact ⟨m, e, wB_ok c body _ _ _ q⟩
  | .brk, ρ, Q, E, h => k_brk (by simpa only [wS] using h)
  | .cnt, ρ, Q, E, h => k_cnt (by simpa only [wS] using h)
  | .pas, ρ, Q, E, h => k_pas (by simpa only [wS] using h)
  | .rai C fs es, ρ, Q, E, h => by
    simp only [wS] at h
    simp only [evS]
    exact sat_bind.mpr ((wL_ok c es _ _ _ h).mono fun ps ρ1 q => wFrzL_ok (k := fun qs => E ⟨C, fs.zip qs⟩ ρ1) q)
theorem wB_ok (c : Cf) : ∀ (s : List IS) (ρ : Fr) (Q : Fl → Fr → Prop) (E : PX → Fr → Prop), wB c s ρ Q E → (evB c s ρ).sat Q E
  | [], ρ, Q, E, h => b_nil (by simpa only [wB] using h)
  | s :: r, ρ, Q, E, h => by
    simp only [wB] at h
    refine b_cons ((wS_ok c s _ _ _ h).mono fun f ρ1 q => ?_)
    cases f with
    | nx => exact wB_ok c r _ _ _ q
    | _ => exact q
end
/-- a def by its body -/
theorem run_ok {T : Tb} {fuel n : Nat} {k : Str} {as : List PV} {d : Fd} {Q : PV → Fr → Prop} {E : PX → Fr → Prop} (hT : T k = some d) (hl : as.length = d.ps) (h : wB ⟨callN T fuel n, lendOf T, fuel⟩ d.body (as.map some ++ List.replicate (d.n - d.ps) none) (fun f ρ => match f with
    | .rt p => Q p (maskF d.lend (ρ.take d.ps))
    | .nx => Q .non (maskF d.lend (ρ.take d.ps))
    | _ => False) fun x ρ => E x (maskF d.lend (ρ.take d.ps))) : zC (callN T fuel (n + 1)) k as Q E :=
  zC_ok.mpr (c_run hT hl (wB_ok _ _ _ _ _ h))
theorem zC_true {f : Str → List PV → CR} {k : Str} {as : List PV} (h : zC f k as (fun p _ => p = .bl true) NE) : ∃ as', f k as = .ok (.bl true) as' := sat_true (zC_ok.mp h)
end Y
end
section
set_option Elab.async false
set_option linter.all false
set_option maxRecDepth 100000
set_option maxHeartbeats 2000000
set_option autoImplicit false
/-! V4: what all the laws draw from: the pot. -/
namespace Y
open PySem
def drawB : List IS := [
  .sub 0 (.cst (.int 3)) (.op (.bin .Add) [.op .ix [.loc 0, .cst (.int 3)], .cst (.int 1)]),
  .ife (.op (.cmp .Eq) [.op .ix [.loc 0, .cst (.int 2)], .cst (.int 0)]) [.set 3 (.op .ix [.op .ix [.loc 0, .cst (.int 0)], .op (.bin .Mod) [.op .int [.op .ix [.loc 0, .cst (.int 1)]], .op .len [.op .ix [.loc 0, .cst (.int 0)]]]]), .sub 0 (.cst (.int 1)) (.op (.bin .Add) [.op .ix [.loc 0, .cst (.int 1)], .cst (.int 1)]), .ife (.op (.cmp .Lt) [.loc 3, .op (.bin .Pow) [.cst (.int 10), .cst (.int 18)]]) [.set 4 (.op (.bin .Mod) [.op .int [.op (.bin .Add) [.op (.bin .Add) [.op (.bin .Mult) [.loc 3, .cst (.int 48271)], .op (.bin .Mult) [.op .ix [.loc 0, .cst (.int 3)], .cst (.int 69621)]], .cst (.int 12345)]], .cst (.int 2147483629)]), .ret (.op (.bin .Mod) [.op (.bin .FloorDiv) [.op (.bin .Mod) [.op .int [.op (.bin .Add) [.op (.bin .Mult) [.loc 4, .cst (.int 16807)], .op (.bin .Mult) [.op .ix [.loc 0, .cst (.int 3)], .cst (.int 104729)]]], .cst (.int 2147483587)], .cst (.int 7)], .loc 1])] [], .sub 0 (.cst (.int 2)) (.loc 3)] [],
  .set 2 (.op (.bin .Mod) [.op .int [.op .ix [.loc 0, .cst (.int 2)]], .loc 1]),
  .sub 0 (.cst (.int 2)) (.op (.bin .FloorDiv) [.op .int [.op .ix [.loc 0, .cst (.int 2)]], .loc 1]),
  .ret (.mov 2)]
def potP (cs : List Int) (i r k : Int) : PV := .lst true [.lst false (cs.map .int), .int i, .int r, .int k]
theorem fzL_ints : ∀ cs : List Int, PV.fzL (cs.map .int) = true
  | [] => rfl
  | c :: cs => by simp [PV.fzL, PV.fz, fzL_ints cs]
theorem frzL_ints (cs : List Int) : PV.frzL (cs.map .int) = cs.map .int := PV.fzL_frzL _ (fzL_ints cs)
theorem fzL_strs : ∀ cs : List Str, PV.fzL (cs.map .str) = true
  | [] => rfl
  | c :: cs => by simp [PV.fzL, PV.fz, fzL_strs cs]
theorem fz_ints (cs : List Int) : (PV.lst false (cs.map .int)).fz = true := by simp [PV.fz, fzL_ints]
theorem fz_strs (cs : List Str) : (PV.lst false (cs.map .str)).fz = true := by simp [PV.fz, fzL_strs]
theorem fzL_app : ∀ (xs ys : List PV), PV.fzL (xs ++ ys) = (PV.fzL xs && PV.fzL ys)
  | [], ys => rfl
  | x :: xs, ys => by simp [PV.fzL, fzL_app xs ys, Bool.and_assoc]
theorem frz_lstp {o : Bool} {xs : List PV} (h : PV.fzL xs = true) : (PV.lst o xs).frz = .lst false xs := by
  simp only [PV.frz, PV.fzL_frzL xs h]
theorem atI_in {α : Type} {xs : List α} {i : Int} (h0 : 0 ≤ i) (h1 : i < xs.length) : ∃ x, L2.atI xs i = some x ∧ x ∈ xs ∧ xs[i.toNat]? = some x := by
  have hl : i.toNat < xs.length := by omega
  have e : xs[i.toNat]? = some xs[i.toNat] := List.getElem?_eq_getElem hl
  refine ⟨xs[i.toNat], ?_, List.getElem_mem hl, e⟩
  have := L2.atI_nat e
  rwa [show ((i.toNat : Nat) : Int) = i from by omega] at this
theorem lg {m : Int} (h0 : 0 < m) (h : m ≤ 10 ^ 18) : m.natAbs.log2 < 9000 := by
  have h1 : m.natAbs ≠ 0 := by omega
  have h2 : m.natAbs < 2 ^ 9000 := Nat.lt_of_lt_of_le (show m.natAbs < 2 ^ 60 by omega) (Nat.pow_le_pow_right (by decide) (by decide))
  exact (Nat.log2_lt h1).mpr h2
theorem draw_ok {T : Tb} {fuel n : Nat} (hT : T ("_law_draw" : Str) = some ⟨5, 2, [true, true], drawB⟩) {cs : List Int} {i r k m : Int} (hc : cs ≠ []) (hm : 0 < m) (hm2 : m.natAbs.log2 < 9000) {Q : PV → Fr → Prop} {E : PX → Fr → Prop}
    (h : ∀ d i' r' k', 0 ≤ d → d < m → Q (.int d) [some (potP cs i' r' k'), some (.int m)]) : zC (callN T fuel (n + 1)) ("_law_draw" : Str) [potP cs i r k, .int m] Q E := by
  have hlen : 0 < (((cs.map PV.int).length : Nat) : Int) := by
    rw [List.length_map]
    have := List.length_pos_iff.mpr hc
    omega
  have hf : (PV.lst false (cs.map .int)).fz = true := by simp [PV.fz, fzL_ints]
  obtain ⟨cell, hcell⟩ : ∃ cell, L2.atI (cs.map PV.int) (i % (((cs.map PV.int).length : Nat) : Int)) = some (.int cell) := by
    obtain ⟨x, h1, h2, _⟩ := atI_in (xs := cs.map PV.int) (Int.emod_nonneg i (by omega)) (Int.emod_lt_of_pos i hlen)
    obtain ⟨c, _, rfl⟩ := List.mem_map.mp h2
    exact ⟨c, h1⟩
  refine run_ok hT rfl ?_
  (conv => whnf); repeat (first | (refine ⟨_, rfl, (by first | assumption | rfl | exact fzL_ints _ | exact fzL_strs _ | exact fz_ints _ | exact fz_strs _), ?_⟩; conv => whnf) | (refine ⟨_, rfl, ?_⟩; conv => whnf) | (refine And.intro rfl ?_; conv => whnf) | (refine And.intro (by first | assumption | decide | omega) ?_; conv => whnf) | (refine And.intro (by first | assumption | rfl | exact fzL_ints _ | exact fzL_strs _ | exact fz_ints _ | exact fz_strs _) ?_; conv => whnf) | (refine And.intro (And.intro (by first | assumption | decide | omega) (by first | assumption | decide | omega)) ?_; conv => whnf) | (refine And.intro (And.intro (And.intro (by first | assumption | decide | omega) (by first | assumption | decide | omega)) (And.intro (by first | assumption | decide | omega) (by first | assumption | decide | omega))) ?_; conv => whnf) | (refine And.intro (And.intro (by first | assumption | rfl | exact fzL_ints _ | exact fzL_strs _ | exact fz_ints _ | exact fz_strs _) (And.intro (by first | assumption | rfl | exact fzL_ints _ | exact fzL_strs _ | exact fz_ints _ | exact fz_strs _) (by first | assumption | rfl | exact fzL_ints _ | exact fzL_strs _ | exact fz_ints _ | exact fz_strs _))) ?_; conv => whnf) | (refine And.intro (by first | exact Or.inl (by decide) | exact Or.inr (by decide)) ?_; conv => whnf) | (refine ⟨fun _ => ?_, fun z => Bool.noConfusion z⟩; conv => whnf) | (refine ⟨fun z => Bool.noConfusion z, fun _ => ?_⟩; conv => whnf) | (intro p0 z; rw [frz_lstp (by first | assumption | rfl | exact fzL_ints _ | exact fzL_strs _ | exact fz_ints _ | exact fz_strs _)] at z; subst z; conv => whnf) | (intro p0 z; rw [PV.fz_frz _ (by first | assumption | rfl | exact fzL_ints _ | exact fzL_strs _ | exact fz_ints _ | exact fz_strs _)] at z; subst z; conv => whnf))
  refine ⟨fun hk => ?_, fun hk => ?_⟩
  · (conv => whnf); repeat (first | (refine ⟨_, rfl, (by first | assumption | rfl | exact fzL_ints _ | exact fzL_strs _ | exact fz_ints _ | exact fz_strs _), ?_⟩; conv => whnf) | (refine ⟨_, rfl, ?_⟩; conv => whnf) | (refine And.intro rfl ?_; conv => whnf) | (refine And.intro (by first | assumption | decide | omega) ?_; conv => whnf) | (refine And.intro (by first | assumption | rfl | exact fzL_ints _ | exact fzL_strs _ | exact fz_ints _ | exact fz_strs _) ?_; conv => whnf) | (refine And.intro (And.intro (by first | assumption | decide | omega) (by first | assumption | decide | omega)) ?_; conv => whnf) | (refine And.intro (And.intro (And.intro (by first | assumption | decide | omega) (by first | assumption | decide | omega)) (And.intro (by first | assumption | decide | omega) (by first | assumption | decide | omega))) ?_; conv => whnf) | (refine And.intro (And.intro (by first | assumption | rfl | exact fzL_ints _ | exact fzL_strs _ | exact fz_ints _ | exact fz_strs _) (And.intro (by first | assumption | rfl | exact fzL_ints _ | exact fzL_strs _ | exact fz_ints _ | exact fz_strs _) (by first | assumption | rfl | exact fzL_ints _ | exact fzL_strs _ | exact fz_ints _ | exact fz_strs _))) ?_; conv => whnf) | (refine And.intro (by first | exact Or.inl (by decide) | exact Or.inr (by decide)) ?_; conv => whnf) | (refine ⟨fun _ => ?_, fun z => Bool.noConfusion z⟩; conv => whnf) | (refine ⟨fun z => Bool.noConfusion z, fun _ => ?_⟩; conv => whnf) | (intro p0 z; rw [frz_lstp (by first | assumption | rfl | exact fzL_ints _ | exact fzL_strs _ | exact fz_ints _ | exact fz_strs _)] at z; subst z; conv => whnf) | (intro p0 z; rw [PV.fz_frz _ (by first | assumption | rfl | exact fzL_ints _ | exact fzL_strs _ | exact fz_ints _ | exact fz_strs _)] at z; subst z; conv => whnf))
    refine ⟨_, hcell, rfl, ?_⟩
    (conv => whnf); repeat (first | (refine ⟨_, rfl, (by first | assumption | rfl | exact fzL_ints _ | exact fzL_strs _ | exact fz_ints _ | exact fz_strs _), ?_⟩; conv => whnf) | (refine ⟨_, rfl, ?_⟩; conv => whnf) | (refine And.intro rfl ?_; conv => whnf) | (refine And.intro (by first | assumption | decide | omega) ?_; conv => whnf) | (refine And.intro (by first | assumption | rfl | exact fzL_ints _ | exact fzL_strs _ | exact fz_ints _ | exact fz_strs _) ?_; conv => whnf) | (refine And.intro (And.intro (by first | assumption | decide | omega) (by first | assumption | decide | omega)) ?_; conv => whnf) | (refine And.intro (And.intro (And.intro (by first | assumption | decide | omega) (by first | assumption | decide | omega)) (And.intro (by first | assumption | decide | omega) (by first | assumption | decide | omega))) ?_; conv => whnf) | (refine And.intro (And.intro (by first | assumption | rfl | exact fzL_ints _ | exact fzL_strs _ | exact fz_ints _ | exact fz_strs _) (And.intro (by first | assumption | rfl | exact fzL_ints _ | exact fzL_strs _ | exact fz_ints _ | exact fz_strs _) (by first | assumption | rfl | exact fzL_ints _ | exact fzL_strs _ | exact fz_ints _ | exact fz_strs _))) ?_; conv => whnf) | (refine And.intro (by first | exact Or.inl (by decide) | exact Or.inr (by decide)) ?_; conv => whnf) | (refine ⟨fun _ => ?_, fun z => Bool.noConfusion z⟩; conv => whnf) | (refine ⟨fun z => Bool.noConfusion z, fun _ => ?_⟩; conv => whnf) | (intro p0 z; rw [frz_lstp (by first | assumption | rfl | exact fzL_ints _ | exact fzL_strs _ | exact fz_ints _ | exact fz_strs _)] at z; subst z; conv => whnf) | (intro p0 z; rw [PV.fz_frz _ (by first | assumption | rfl | exact fzL_ints _ | exact fzL_strs _ | exact fz_ints _ | exact fz_strs _)] at z; subst z; conv => whnf))
    refine ⟨fun hk2 => ?_, fun hk2 => ?_⟩
    · (conv => whnf); repeat (first | (refine ⟨_, rfl, (by first | assumption | rfl | exact fzL_ints _ | exact fzL_strs _ | exact fz_ints _ | exact fz_strs _), ?_⟩; conv => whnf) | (refine ⟨_, rfl, ?_⟩; conv => whnf) | (refine And.intro rfl ?_; conv => whnf) | (refine And.intro (by first | assumption | decide | omega) ?_; conv => whnf) | (refine And.intro (by first | assumption | rfl | exact fzL_ints _ | exact fzL_strs _ | exact fz_ints _ | exact fz_strs _) ?_; conv => whnf) | (refine And.intro (And.intro (by first | assumption | decide | omega) (by first | assumption | decide | omega)) ?_; conv => whnf) | (refine And.intro (And.intro (And.intro (by first | assumption | decide | omega) (by first | assumption | decide | omega)) (And.intro (by first | assumption | decide | omega) (by first | assumption | decide | omega))) ?_; conv => whnf) | (refine And.intro (And.intro (by first | assumption | rfl | exact fzL_ints _ | exact fzL_strs _ | exact fz_ints _ | exact fz_strs _) (And.intro (by first | assumption | rfl | exact fzL_ints _ | exact fzL_strs _ | exact fz_ints _ | exact fz_strs _) (by first | assumption | rfl | exact fzL_ints _ | exact fzL_strs _ | exact fz_ints _ | exact fz_strs _))) ?_; conv => whnf) | (refine And.intro (by first | exact Or.inl (by decide) | exact Or.inr (by decide)) ?_; conv => whnf) | (refine ⟨fun _ => ?_, fun z => Bool.noConfusion z⟩; conv => whnf) | (refine ⟨fun z => Bool.noConfusion z, fun _ => ?_⟩; conv => whnf) | (intro p0 z; rw [frz_lstp (by first | assumption | rfl | exact fzL_ints _ | exact fzL_strs _ | exact fz_ints _ | exact fz_strs _)] at z; subst z; conv => whnf) | (intro p0 z; rw [PV.fz_frz _ (by first | assumption | rfl | exact fzL_ints _ | exact fzL_strs _ | exact fz_ints _ | exact fz_strs _)] at z; subst z; conv => whnf))
      exact h _ _ _ _ (Int.emod_nonneg _ (by omega)) (Int.emod_lt_of_pos _ hm)
    · (conv => whnf); repeat (first | (refine ⟨_, rfl, (by first | assumption | rfl | exact fzL_ints _ | exact fzL_strs _ | exact fz_ints _ | exact fz_strs _), ?_⟩; conv => whnf) | (refine ⟨_, rfl, ?_⟩; conv => whnf) | (refine And.intro rfl ?_; conv => whnf) | (refine And.intro (by first | assumption | decide | omega) ?_; conv => whnf) | (refine And.intro (by first | assumption | rfl | exact fzL_ints _ | exact fzL_strs _ | exact fz_ints _ | exact fz_strs _) ?_; conv => whnf) | (refine And.intro (And.intro (by first | assumption | decide | omega) (by first | assumption | decide | omega)) ?_; conv => whnf) | (refine And.intro (And.intro (And.intro (by first | assumption | decide | omega) (by first | assumption | decide | omega)) (And.intro (by first | assumption | decide | omega) (by first | assumption | decide | omega))) ?_; conv => whnf) | (refine And.intro (And.intro (by first | assumption | rfl | exact fzL_ints _ | exact fzL_strs _ | exact fz_ints _ | exact fz_strs _) (And.intro (by first | assumption | rfl | exact fzL_ints _ | exact fzL_strs _ | exact fz_ints _ | exact fz_strs _) (by first | assumption | rfl | exact fzL_ints _ | exact fzL_strs _ | exact fz_ints _ | exact fz_strs _))) ?_; conv => whnf) | (refine And.intro (by first | exact Or.inl (by decide) | exact Or.inr (by decide)) ?_; conv => whnf) | (refine ⟨fun _ => ?_, fun z => Bool.noConfusion z⟩; conv => whnf) | (refine ⟨fun z => Bool.noConfusion z, fun _ => ?_⟩; conv => whnf) | (intro p0 z; rw [frz_lstp (by first | assumption | rfl | exact fzL_ints _ | exact fzL_strs _ | exact fz_ints _ | exact fz_strs _)] at z; subst z; conv => whnf) | (intro p0 z; rw [PV.fz_frz _ (by first | assumption | rfl | exact fzL_ints _ | exact fzL_strs _ | exact fz_ints _ | exact fz_strs _)] at z; subst z; conv => whnf))
      exact h _ _ _ _ (Int.emod_nonneg _ (by omega)) (Int.emod_lt_of_pos _ hm)
  · (conv => whnf); repeat (first | (refine ⟨_, rfl, (by first | assumption | rfl | exact fzL_ints _ | exact fzL_strs _ | exact fz_ints _ | exact fz_strs _), ?_⟩; conv => whnf) | (refine ⟨_, rfl, ?_⟩; conv => whnf) | (refine And.intro rfl ?_; conv => whnf) | (refine And.intro (by first | assumption | decide | omega) ?_; conv => whnf) | (refine And.intro (by first | assumption | rfl | exact fzL_ints _ | exact fzL_strs _ | exact fz_ints _ | exact fz_strs _) ?_; conv => whnf) | (refine And.intro (And.intro (by first | assumption | decide | omega) (by first | assumption | decide | omega)) ?_; conv => whnf) | (refine And.intro (And.intro (And.intro (by first | assumption | decide | omega) (by first | assumption | decide | omega)) (And.intro (by first | assumption | decide | omega) (by first | assumption | decide | omega))) ?_; conv => whnf) | (refine And.intro (And.intro (by first | assumption | rfl | exact fzL_ints _ | exact fzL_strs _ | exact fz_ints _ | exact fz_strs _) (And.intro (by first | assumption | rfl | exact fzL_ints _ | exact fzL_strs _ | exact fz_ints _ | exact fz_strs _) (by first | assumption | rfl | exact fzL_ints _ | exact fzL_strs _ | exact fz_ints _ | exact fz_strs _))) ?_; conv => whnf) | (refine And.intro (by first | exact Or.inl (by decide) | exact Or.inr (by decide)) ?_; conv => whnf) | (refine ⟨fun _ => ?_, fun z => Bool.noConfusion z⟩; conv => whnf) | (refine ⟨fun z => Bool.noConfusion z, fun _ => ?_⟩; conv => whnf) | (intro p0 z; rw [frz_lstp (by first | assumption | rfl | exact fzL_ints _ | exact fzL_strs _ | exact fz_ints _ | exact fz_strs _)] at z; subst z; conv => whnf) | (intro p0 z; rw [PV.fz_frz _ (by first | assumption | rfl | exact fzL_ints _ | exact fzL_strs _ | exact fz_ints _ | exact fz_strs _)] at z; subst z; conv => whnf))
    exact h _ _ _ _ (Int.emod_nonneg _ (by omega)) (Int.emod_lt_of_pos _ hm)
/-! comprehensions, loops: their heads -/
theorem zK_in {tg : IT} {own : List Nat} {ifs : Fr → (Bool → Fr → Prop) → Prop} {elt : Fr → (PV → Fr → Prop) → Prop} {xs : List PV} {ρ : Fr} {Q : PV → Fr → Prop} (I : List PV → List PV → Fr → Prop) (h0 : I xs [] (wipeF (frzAt ρ own) own)) (hk : ∀ ys ρ2, I [] ys ρ2 → Q (.lst true ys) (backAt (frzAt ρ own) ρ2 own))
    (step : ∀ x r acc ρ, I (x :: r) acc ρ → ∃ ρ2, asg tg x ρ = some ρ2 ∧ ifs ρ2 fun k ρ3 => (k = true → elt ρ3 fun y ρ4 => ∃ y', y.frz = y' ∧ acc.length < sizeLine ∧ I r (acc ++ [y']) (wipeF ρ4 own)) ∧ (k = false → I r acc (wipeF ρ3 own))) : zK tg own ifs elt xs ρ Q := by
  unfold zK
  exact ⟨I, h0, hk, step⟩
theorem zF_in {tg : IT} {body : Fr → (Fl → Fr → Prop) → Prop} {xs : List PV} {ρ : Fr} {Q : Fl → Fr → Prop} {E : PX → Fr → Prop} (I : List PV → Fr → Prop) (h0 : I xs ρ) (hk : ∀ ρ, I [] ρ → Q .nx ρ) (step : ∀ x r ρ, I (x :: r) ρ → ∃ ρ2, asg tg x ρ = some ρ2 ∧ body ρ2 fun f ρ1 => match f with
    | .nx => I r ρ1
    | .ct => I r ρ1
    | .bk => Q .nx ρ1
    | .rt p => Q (.rt p) ρ1) : zF tg body xs ρ Q E := by
  unfold zF
  exact ⟨I, h0, hk, step⟩
theorem zKv_in {tg : IT} {own : List Nat} {i : Nat} {ifs : Fr → (Bool → Fr → Prop) → Prop} {elt : Fr → (PV → Fr → Prop) → Prop} {n : Nat} {ρ : Fr} {Q : PV → Fr → Prop} (ho : own.contains i = false) (I : Nat → List PV → Fr → Prop) (h0 : I 0 [] (wipeF (frzAt ρ own) own)) (hk : ∀ ys ρ2, I n ys ρ2 → vwLen ρ2 i n = true ∧ Q (.lst true ys) (backAt (frzAt ρ own) ρ2 own))
    (step : ∀ j acc ρ, j < n → I j acc ρ → ∃ x ρ2, vwAt ρ i n j = some x ∧ asg tg x ρ = some ρ2 ∧ ifs ρ2 fun k ρ3 => (k = true → elt ρ3 fun y ρ4 => ∃ y', y.frz = y' ∧ acc.length < sizeLine ∧ I (j + 1) (acc ++ [y']) (wipeF ρ4 own)) ∧ (k = false → I (j + 1) acc (wipeF ρ3 own))) : zKv tg own i ifs elt n ρ Q := by
  unfold zKv
  exact ⟨ho, I, h0, hk, step⟩
theorem zFv_in {tg : IT} {i : Nat} {body : Fr → (Fl → Fr → Prop) → Prop} {n : Nat} {ρ : Fr} {Q : Fl → Fr → Prop} {E : PX → Fr → Prop} (I : Nat → Fr → Prop) (h0 : I 0 ρ) (hk : ∀ ρ, I n ρ → vwLen ρ i n = true ∧ Q .nx ρ) (step : ∀ j ρ, j < n → I j ρ → ∃ x ρ2, vwAt ρ i n j = some x ∧ asg tg x ρ = some ρ2 ∧ body ρ2 fun f ρ1 => match f with
    | .nx => I (j + 1) ρ1
    | .ct => I (j + 1) ρ1
    | .bk => Q .nx ρ1
    | .rt p => Q (.rt p) ρ1) : zFv tg i body n ρ Q E := by
  unfold zFv
  exact ⟨I, h0, hk, step⟩
theorem zC_mono {f : Str → List PV → CR} {k : Str} {as : List PV} {Q Q' : PV → Fr → Prop} {E : PX → Fr → Prop} (h : zC f k as Q' E) (i : ∀ a ρ, Q' a ρ → Q a ρ) : zC f k as Q E := zC_ok.mpr ((zC_ok.mp h).mono i)
/-! the pot -/
def potB : List IS := [
  .ret (.lst [.op (.bin .Add) [.op .list [.loc 0], .op (.bin .Mult) [.lst [.cst (.int 0)], .op .int [.op (.cmp .Eq) [.op .len [.loc 0], .cst (.int 0)]]]], .cst (.int 0), .cst (.int 0), .cst (.int 0)])]
theorem pot_ok {T : Tb} {fuel n : Nat} (hT : T ("_law_pot" : Str) = some ⟨1, 1, [true], potB⟩) {ns : List Int} (hl : ns.length ≤ 63) {Q : PV → Fr → Prop} {E : PX → Fr → Prop} (h : ∀ cs, cs ≠ [] → Q (potP cs 0 0 0) [some (.lck (ns.map .int))]) :
    zC (callN T fuel (n + 1)) ("_law_pot" : Str) [.lck (ns.map .int)] Q E := by
  have hf : (PV.lck (ns.map .int)).fz = true := by simp [PV.fz, fzL_ints]
  have hf2 : PV.fzL (ns.map .int) = true := fzL_ints ns
  cases ns with
  | nil =>
    refine run_ok hT rfl ?_
    (conv => whnf); repeat (first | (refine ⟨_, rfl, (by first | assumption | rfl | exact fzL_ints _ | exact fzL_strs _ | exact fz_ints _ | exact fz_strs _), ?_⟩; conv => whnf) | (refine ⟨_, rfl, ?_⟩; conv => whnf) | (refine And.intro rfl ?_; conv => whnf) | (refine And.intro (by first | assumption | decide | omega) ?_; conv => whnf) | (refine And.intro (by first | assumption | rfl | exact fzL_ints _ | exact fzL_strs _ | exact fz_ints _ | exact fz_strs _) ?_; conv => whnf) | (refine And.intro (And.intro (by first | assumption | decide | omega) (by first | assumption | decide | omega)) ?_; conv => whnf) | (refine And.intro (And.intro (And.intro (by first | assumption | decide | omega) (by first | assumption | decide | omega)) (And.intro (by first | assumption | decide | omega) (by first | assumption | decide | omega))) ?_; conv => whnf) | (refine And.intro (And.intro (by first | assumption | rfl | exact fzL_ints _ | exact fzL_strs _ | exact fz_ints _ | exact fz_strs _) (And.intro (by first | assumption | rfl | exact fzL_ints _ | exact fzL_strs _ | exact fz_ints _ | exact fz_strs _) (by first | assumption | rfl | exact fzL_ints _ | exact fzL_strs _ | exact fz_ints _ | exact fz_strs _))) ?_; conv => whnf) | (refine And.intro (by first | exact Or.inl (by decide) | exact Or.inr (by decide)) ?_; conv => whnf) | (refine ⟨fun _ => ?_, fun z => Bool.noConfusion z⟩; conv => whnf) | (refine ⟨fun z => Bool.noConfusion z, fun _ => ?_⟩; conv => whnf) | (intro p0 z; rw [frz_lstp (by first | assumption | rfl | exact fzL_ints _ | exact fzL_strs _ | exact fz_ints _ | exact fz_strs _)] at z; subst z; conv => whnf) | (intro p0 z; rw [PV.fz_frz _ (by first | assumption | rfl | exact fzL_ints _ | exact fzL_strs _ | exact fz_ints _ | exact fz_strs _)] at z; subst z; conv => whnf))
    exact h [0] (by simp)
  | cons a ns =>
    have hl2 : okS ((a :: ns).map PV.int).length = true := by
      simp only [List.length_map, List.length_cons] at hl ⊢
      exact decide_eq_true (Nat.le_trans hl (by decide))
    have hf3 : PV.fzL ((a :: ns).map .int ++ []) = true := by rw [List.append_nil]; exact hf2
    have he : decide ((((a :: ns).map PV.int).length : Int) = 0) = false := decide_eq_false (by simp; omega)
    refine run_ok hT rfl ?_
    (conv => whnf); repeat (first | (refine ⟨_, rfl, (by first | assumption | rfl | exact fzL_ints _ | exact fzL_strs _ | exact fz_ints _ | exact fz_strs _), ?_⟩; conv => whnf) | (refine ⟨_, rfl, ?_⟩; conv => whnf) | (refine And.intro rfl ?_; conv => whnf) | (refine And.intro (by first | assumption | decide | omega) ?_; conv => whnf) | (refine And.intro (by first | assumption | rfl | exact fzL_ints _ | exact fzL_strs _ | exact fz_ints _ | exact fz_strs _) ?_; conv => whnf) | (refine And.intro (And.intro (by first | assumption | decide | omega) (by first | assumption | decide | omega)) ?_; conv => whnf) | (refine And.intro (And.intro (And.intro (by first | assumption | decide | omega) (by first | assumption | decide | omega)) (And.intro (by first | assumption | decide | omega) (by first | assumption | decide | omega))) ?_; conv => whnf) | (refine And.intro (And.intro (by first | assumption | rfl | exact fzL_ints _ | exact fzL_strs _ | exact fz_ints _ | exact fz_strs _) (And.intro (by first | assumption | rfl | exact fzL_ints _ | exact fzL_strs _ | exact fz_ints _ | exact fz_strs _) (by first | assumption | rfl | exact fzL_ints _ | exact fzL_strs _ | exact fz_ints _ | exact fz_strs _))) ?_; conv => whnf) | (refine And.intro (by first | exact Or.inl (by decide) | exact Or.inr (by decide)) ?_; conv => whnf) | (refine ⟨fun _ => ?_, fun z => Bool.noConfusion z⟩; conv => whnf) | (refine ⟨fun z => Bool.noConfusion z, fun _ => ?_⟩; conv => whnf) | (intro p0 z; rw [frz_lstp (by first | assumption | rfl | exact fzL_ints _ | exact fzL_strs _ | exact fz_ints _ | exact fz_strs _)] at z; subst z; conv => whnf) | (intro p0 z; rw [PV.fz_frz _ (by first | assumption | rfl | exact fzL_ints _ | exact fzL_strs _ | exact fz_ints _ | exact fz_strs _)] at z; subst z; conv => whnf))
    rw [he]
    simp only [Bool.false_eq_true, if_false, Int.toNat_zero, List.replicate_zero, List.flatten_nil, List.append_nil]
    exact h (a :: ns) (by simp)
/-! texts -/
theorem join0 : ∀ ss : List Str, (Txt.join ("" : Str) ss).cps.toList = (ss.map fun s => s.cps.toList).flatten := fun ss => by
  rw [show Txt.join ("" : Str) ss = Str.join ("" : Str) ss from TL.join_eq _ _]
  induction ss with
  | nil => rfl
  | cons x r ih =>
    cases r with
    | nil => simp [Str.join]
    | cons y r =>
      rw [show Str.join ("" : Str) (x :: y :: r) = x ++ ("" : Str) ++ Str.join ("" : Str) (y :: r) from rfl]
      show ((x.cps ++ ("" : Str).cps) ++ (Str.join ("" : Str) (y :: r)).cps).toList = _
      rw [Array.toList_append, Array.toList_append, ih, show ("" : Str).cps.toList = [] from by decide +kernel]
      simp
theorem str_len (s : Str) : s.length = s.cps.toList.length := by simp [Str.length]
theorem strsP_mk : ∀ ss : List Str, strsP (ss.map .str) = some ss
  | [] => rfl
  | s :: ss => by simp [strsP, strsP_mk ss]
theorem intsP_mk : ∀ ss : List Int, intsP (ss.map .int) = some ss
  | [] => rfl
  | s :: ss => by simp [intsP, intsP_mk ss]
theorem n_join {z : Str} {o : Bool} {ss : List Str} (h : (ss.map (·.length)).sum + ss.length * z.length ≤ 16777216) : opN .join [.str z, .lst o (ss.map .str)] = some (.str (Txt.join z ss)) := by
  show joinP _ _ = _
  unfold joinP
  simp only [lstOf, Option.bind, strsP_mk]
  rw [if_pos (decide_eq_true h)]
theorem rng_one {d : Int} (h0 : -(2 ^ 62) ≤ d) (h1 : d < 2 ^ 62) : rngN [.int d] = some (rngI 0 d.toNat) := by
  show (if small62 d then _ else none) = _
  rw [if_pos (show small62 d = true from decide_eq_true ⟨h0, h1⟩)]
theorem rng_len : ∀ (n : Nat) (lo : Int), (rngI lo n).length = n
  | 0, _ => rfl
  | n + 1, lo => by simp [rngI, rng_len n]
theorem len0 : ("" : Str).length = 0 := by decide +kernel
theorem sum_ones : ∀ ss : List Str, (∀ s ∈ ss, s.length = 1) → (ss.map (·.length)).sum = ss.length
  | [], _ => rfl
  | s :: ss, h => by
    have h1 := h s List.mem_cons_self
    have h2 := sum_ones ss fun t ht => h t (List.mem_cons_of_mem _ ht)
    simp [h1, h2]
    omega
theorem flat_len : ∀ ss : List Str, (ss.map fun s => s.cps.toList).flatten.length = (ss.map (·.length)).sum
  | [] => rfl
  | s :: ss => by simp [flat_len ss, str_len]
/-! a text of the law's signs -/
def signs : Str := " !\"#$&'()*+,-./0123456789:;<=>?@ABCDEFGHIJKLMNOPQRSTUVWXYZ[\\]^_`abcdefghijklmnopqrstuvwxyz{|}~"
theorem signs_len : signs.cps.toList.length = 94 := by decide +kernel
theorem signs_ok : okS signs.length = true := by decide +kernel
theorem signs_all : ∀ x ∈ signs.cps.toList, 32 ≤ x ∧ x ≤ 126 := by decide +kernel
def textB : List IS := [
  .set 2 (.cst (.str " !\"#$&'()*+,-./0123456789:;<=>?@ABCDEFGHIJKLMNOPQRSTUVWXYZ[\\]^_`abcdefghijklmnopqrstuvwxyz{|}~")),
  .set 3 (.call "_law_draw" [true, true] [.loc 0, .op (.bin .Add) [.loc 1, .cst (.int 1)]]),
  .ret (.op .join [.cst (.str ""), .comp (.op .ix [.loc 2, .call "_law_draw" [true, true] [.loc 0, .cst (.int 94)]]) (.nm 4) (.rng [.loc 3]) [] [4]])]
/-- at most m signs, each from the blank to the tilde -/
def Plain (m : Int) (s : Str) : Prop := (s.length : Int) ≤ m ∧ ∀ x ∈ s.cps.toList, 32 ≤ x ∧ x ≤ 126
theorem text_ok {T : Tb} {fuel n : Nat} (hD : T ("_law_draw" : Str) = some ⟨5, 2, [true, true], drawB⟩) (hT : T ("_law_text" : Str) = some ⟨5, 2, [true, true], textB⟩) {cs : List Int} {i r k m : Int} (hc : cs ≠ []) (hm : 0 ≤ m) (hm2 : m ≤ 1000) {Q : PV → Fr → Prop} {E : PX → Fr → Prop}
    (h : ∀ s i' r' k', Plain m s → Q (.str s) [some (potP cs i' r' k'), some (.int m)]) : zC (callN T fuel (n + 2)) ("_law_text" : Str) [potP cs i r k, .int m] Q E := by
  refine run_ok hT rfl ?_
  (conv => whnf); repeat (first | (refine ⟨_, rfl, (by first | assumption | rfl | exact fzL_ints _ | exact fzL_strs _ | exact fz_ints _ | exact fz_strs _), ?_⟩; conv => whnf) | (refine ⟨_, rfl, ?_⟩; conv => whnf) | (refine And.intro rfl ?_; conv => whnf) | (refine And.intro (by first | assumption | decide | omega) ?_; conv => whnf) | (refine And.intro (by first | assumption | rfl | exact fzL_ints _ | exact fzL_strs _ | exact fz_ints _ | exact fz_strs _) ?_; conv => whnf) | (refine And.intro (And.intro (by first | assumption | decide | omega) (by first | assumption | decide | omega)) ?_; conv => whnf) | (refine And.intro (And.intro (And.intro (by first | assumption | decide | omega) (by first | assumption | decide | omega)) (And.intro (by first | assumption | decide | omega) (by first | assumption | decide | omega))) ?_; conv => whnf) | (refine And.intro (And.intro (by first | assumption | rfl | exact fzL_ints _ | exact fzL_strs _ | exact fz_ints _ | exact fz_strs _) (And.intro (by first | assumption | rfl | exact fzL_ints _ | exact fzL_strs _ | exact fz_ints _ | exact fz_strs _) (by first | assumption | rfl | exact fzL_ints _ | exact fzL_strs _ | exact fz_ints _ | exact fz_strs _))) ?_; conv => whnf) | (refine And.intro (by first | exact Or.inl (by decide) | exact Or.inr (by decide)) ?_; conv => whnf) | (refine ⟨fun _ => ?_, fun z => Bool.noConfusion z⟩; conv => whnf) | (refine ⟨fun z => Bool.noConfusion z, fun _ => ?_⟩; conv => whnf) | (intro p0 z; rw [frz_lstp (by first | assumption | rfl | exact fzL_ints _ | exact fzL_strs _ | exact fz_ints _ | exact fz_strs _)] at z; subst z; conv => whnf) | (intro p0 z; rw [PV.fz_frz _ (by first | assumption | rfl | exact fzL_ints _ | exact fzL_strs _ | exact fz_ints _ | exact fz_strs _)] at z; subst z; conv => whnf))
  refine draw_ok hD hc (by omega) (lg (by omega) (by omega)) fun d i1 r1 k1 hd0 hd1 => ?_
  (conv => whnf); repeat (first | (refine ⟨_, rfl, (by first | assumption | rfl | exact fzL_ints _ | exact fzL_strs _ | exact fz_ints _ | exact fz_strs _), ?_⟩; conv => whnf) | (refine ⟨_, rfl, ?_⟩; conv => whnf) | (refine And.intro rfl ?_; conv => whnf) | (refine And.intro (by first | assumption | decide | omega) ?_; conv => whnf) | (refine And.intro (by first | assumption | rfl | exact fzL_ints _ | exact fzL_strs _ | exact fz_ints _ | exact fz_strs _) ?_; conv => whnf) | (refine And.intro (And.intro (by first | assumption | decide | omega) (by first | assumption | decide | omega)) ?_; conv => whnf) | (refine And.intro (And.intro (And.intro (by first | assumption | decide | omega) (by first | assumption | decide | omega)) (And.intro (by first | assumption | decide | omega) (by first | assumption | decide | omega))) ?_; conv => whnf) | (refine And.intro (And.intro (by first | assumption | rfl | exact fzL_ints _ | exact fzL_strs _ | exact fz_ints _ | exact fz_strs _) (And.intro (by first | assumption | rfl | exact fzL_ints _ | exact fzL_strs _ | exact fz_ints _ | exact fz_strs _) (by first | assumption | rfl | exact fzL_ints _ | exact fzL_strs _ | exact fz_ints _ | exact fz_strs _))) ?_; conv => whnf) | (refine And.intro (by first | exact Or.inl (by decide) | exact Or.inr (by decide)) ?_; conv => whnf) | (refine ⟨fun _ => ?_, fun z => Bool.noConfusion z⟩; conv => whnf) | (refine ⟨fun z => Bool.noConfusion z, fun _ => ?_⟩; conv => whnf) | (intro p0 z; rw [frz_lstp (by first | assumption | rfl | exact fzL_ints _ | exact fzL_strs _ | exact fz_ints _ | exact fz_strs _)] at z; subst z; conv => whnf) | (intro p0 z; rw [PV.fz_frz _ (by first | assumption | rfl | exact fzL_ints _ | exact fzL_strs _ | exact fz_ints _ | exact fz_strs _)] at z; subst z; conv => whnf))
  refine zK_in (fun rest acc ρ => (∃ i2 r2 k2, ρ = [some (potP cs i2 r2 k2), some (.int m), some (.str signs), some (.int d), none]) ∧ ∃ ss : List Str, acc = ss.map .str ∧ (∀ s ∈ ss, s.length = 1 ∧ ∀ x ∈ s.cps.toList, 32 ≤ x ∧ x ≤ 126) ∧ ss.length + rest.length = d.toNat) ?_ ?_ ?_
  · exact ⟨⟨_, _, _, rfl⟩, [], rfl, by simp, by simp [rng_len]⟩
  · rintro _ _ ⟨⟨i2, r2, k2, rfl⟩, ss, rfl, hs, hl⟩
    (conv => whnf); repeat (first | (refine ⟨_, rfl, (by first | assumption | rfl | exact fzL_ints _ | exact fzL_strs _ | exact fz_ints _ | exact fz_strs _), ?_⟩; conv => whnf) | (refine ⟨_, rfl, ?_⟩; conv => whnf) | (refine And.intro rfl ?_; conv => whnf) | (refine And.intro (by first | assumption | decide | omega) ?_; conv => whnf) | (refine And.intro (by first | assumption | rfl | exact fzL_ints _ | exact fzL_strs _ | exact fz_ints _ | exact fz_strs _) ?_; conv => whnf) | (refine And.intro (And.intro (by first | assumption | decide | omega) (by first | assumption | decide | omega)) ?_; conv => whnf) | (refine And.intro (And.intro (And.intro (by first | assumption | decide | omega) (by first | assumption | decide | omega)) (And.intro (by first | assumption | decide | omega) (by first | assumption | decide | omega))) ?_; conv => whnf) | (refine And.intro (And.intro (by first | assumption | rfl | exact fzL_ints _ | exact fzL_strs _ | exact fz_ints _ | exact fz_strs _) (And.intro (by first | assumption | rfl | exact fzL_ints _ | exact fzL_strs _ | exact fz_ints _ | exact fz_strs _) (by first | assumption | rfl | exact fzL_ints _ | exact fzL_strs _ | exact fz_ints _ | exact fz_strs _))) ?_; conv => whnf) | (refine And.intro (by first | exact Or.inl (by decide) | exact Or.inr (by decide)) ?_; conv => whnf) | (refine ⟨fun _ => ?_, fun z => Bool.noConfusion z⟩; conv => whnf) | (refine ⟨fun z => Bool.noConfusion z, fun _ => ?_⟩; conv => whnf) | (intro p0 z; rw [frz_lstp (by first | assumption | rfl | exact fzL_ints _ | exact fzL_strs _ | exact fz_ints _ | exact fz_strs _)] at z; subst z; conv => whnf) | (intro p0 z; rw [PV.fz_frz _ (by first | assumption | rfl | exact fzL_ints _ | exact fzL_strs _ | exact fz_ints _ | exact fz_strs _)] at z; subst z; conv => whnf))
    have hsum := sum_ones ss fun s hs' => (hs s hs').1
    have hl' : ss.length = d.toNat := by simpa using hl
    refine ⟨_, n_join (by rw [hsum, len0, hl']; omega), ?_⟩
    (conv => whnf); repeat (first | (refine ⟨_, rfl, (by first | assumption | rfl | exact fzL_ints _ | exact fzL_strs _ | exact fz_ints _ | exact fz_strs _), ?_⟩; conv => whnf) | (refine ⟨_, rfl, ?_⟩; conv => whnf) | (refine And.intro rfl ?_; conv => whnf) | (refine And.intro (by first | assumption | decide | omega) ?_; conv => whnf) | (refine And.intro (by first | assumption | rfl | exact fzL_ints _ | exact fzL_strs _ | exact fz_ints _ | exact fz_strs _) ?_; conv => whnf) | (refine And.intro (And.intro (by first | assumption | decide | omega) (by first | assumption | decide | omega)) ?_; conv => whnf) | (refine And.intro (And.intro (And.intro (by first | assumption | decide | omega) (by first | assumption | decide | omega)) (And.intro (by first | assumption | decide | omega) (by first | assumption | decide | omega))) ?_; conv => whnf) | (refine And.intro (And.intro (by first | assumption | rfl | exact fzL_ints _ | exact fzL_strs _ | exact fz_ints _ | exact fz_strs _) (And.intro (by first | assumption | rfl | exact fzL_ints _ | exact fzL_strs _ | exact fz_ints _ | exact fz_strs _) (by first | assumption | rfl | exact fzL_ints _ | exact fzL_strs _ | exact fz_ints _ | exact fz_strs _))) ?_; conv => whnf) | (refine And.intro (by first | exact Or.inl (by decide) | exact Or.inr (by decide)) ?_; conv => whnf) | (refine ⟨fun _ => ?_, fun z => Bool.noConfusion z⟩; conv => whnf) | (refine ⟨fun z => Bool.noConfusion z, fun _ => ?_⟩; conv => whnf) | (intro p0 z; rw [frz_lstp (by first | assumption | rfl | exact fzL_ints _ | exact fzL_strs _ | exact fz_ints _ | exact fz_strs _)] at z; subst z; conv => whnf) | (intro p0 z; rw [PV.fz_frz _ (by first | assumption | rfl | exact fzL_ints _ | exact fzL_strs _ | exact fz_ints _ | exact fz_strs _)] at z; subst z; conv => whnf))
    refine h _ _ _ _ ⟨?_, ?_⟩
    · rw [str_len, join0, flat_len, hsum, hl']
      omega
    · rw [join0]
      intro x hx
      obtain ⟨l, hl1, hl2⟩ := List.mem_flatten.mp hx
      obtain ⟨s, hs1, rfl⟩ := List.mem_map.mp hl1
      exact (hs s hs1).2 x hl2
  · rintro x r acc _ ⟨⟨i2, r2, k2, rfl⟩, ss, rfl, hs, hl⟩
    refine ⟨_, rfl, ?_⟩
    (conv => whnf); repeat (first | (refine ⟨_, rfl, (by first | assumption | rfl | exact fzL_ints _ | exact fzL_strs _ | exact fz_ints _ | exact fz_strs _), ?_⟩; conv => whnf) | (refine ⟨_, rfl, ?_⟩; conv => whnf) | (refine And.intro rfl ?_; conv => whnf) | (refine And.intro (by first | assumption | decide | omega) ?_; conv => whnf) | (refine And.intro (by first | assumption | rfl | exact fzL_ints _ | exact fzL_strs _ | exact fz_ints _ | exact fz_strs _) ?_; conv => whnf) | (refine And.intro (And.intro (by first | assumption | decide | omega) (by first | assumption | decide | omega)) ?_; conv => whnf) | (refine And.intro (And.intro (And.intro (by first | assumption | decide | omega) (by first | assumption | decide | omega)) (And.intro (by first | assumption | decide | omega) (by first | assumption | decide | omega))) ?_; conv => whnf) | (refine And.intro (And.intro (by first | assumption | rfl | exact fzL_ints _ | exact fzL_strs _ | exact fz_ints _ | exact fz_strs _) (And.intro (by first | assumption | rfl | exact fzL_ints _ | exact fzL_strs _ | exact fz_ints _ | exact fz_strs _) (by first | assumption | rfl | exact fzL_ints _ | exact fzL_strs _ | exact fz_ints _ | exact fz_strs _))) ?_; conv => whnf) | (refine And.intro (by first | exact Or.inl (by decide) | exact Or.inr (by decide)) ?_; conv => whnf) | (refine ⟨fun _ => ?_, fun z => Bool.noConfusion z⟩; conv => whnf) | (refine ⟨fun z => Bool.noConfusion z, fun _ => ?_⟩; conv => whnf) | (intro p0 z; rw [frz_lstp (by first | assumption | rfl | exact fzL_ints _ | exact fzL_strs _ | exact fz_ints _ | exact fz_strs _)] at z; subst z; conv => whnf) | (intro p0 z; rw [PV.fz_frz _ (by first | assumption | rfl | exact fzL_ints _ | exact fzL_strs _ | exact fz_ints _ | exact fz_strs _)] at z; subst z; conv => whnf))
    refine draw_ok hD hc (by decide) (lg (by decide) (by decide)) fun j i3 r3 k3 hj0 hj1 => ?_
    (conv => whnf); repeat (first | (refine ⟨_, rfl, (by first | assumption | rfl | exact fzL_ints _ | exact fzL_strs _ | exact fz_ints _ | exact fz_strs _), ?_⟩; conv => whnf) | (refine ⟨_, rfl, ?_⟩; conv => whnf) | (refine And.intro rfl ?_; conv => whnf) | (refine And.intro (by first | assumption | decide | omega) ?_; conv => whnf) | (refine And.intro (by first | assumption | rfl | exact fzL_ints _ | exact fzL_strs _ | exact fz_ints _ | exact fz_strs _) ?_; conv => whnf) | (refine And.intro (And.intro (by first | assumption | decide | omega) (by first | assumption | decide | omega)) ?_; conv => whnf) | (refine And.intro (And.intro (And.intro (by first | assumption | decide | omega) (by first | assumption | decide | omega)) (And.intro (by first | assumption | decide | omega) (by first | assumption | decide | omega))) ?_; conv => whnf) | (refine And.intro (And.intro (by first | assumption | rfl | exact fzL_ints _ | exact fzL_strs _ | exact fz_ints _ | exact fz_strs _) (And.intro (by first | assumption | rfl | exact fzL_ints _ | exact fzL_strs _ | exact fz_ints _ | exact fz_strs _) (by first | assumption | rfl | exact fzL_ints _ | exact fzL_strs _ | exact fz_ints _ | exact fz_strs _))) ?_; conv => whnf) | (refine And.intro (by first | exact Or.inl (by decide) | exact Or.inr (by decide)) ?_; conv => whnf) | (refine ⟨fun _ => ?_, fun z => Bool.noConfusion z⟩; conv => whnf) | (refine ⟨fun z => Bool.noConfusion z, fun _ => ?_⟩; conv => whnf) | (intro p0 z; rw [frz_lstp (by first | assumption | rfl | exact fzL_ints _ | exact fzL_strs _ | exact fz_ints _ | exact fz_strs _)] at z; subst z; conv => whnf) | (intro p0 z; rw [PV.fz_frz _ (by first | assumption | rfl | exact fzL_ints _ | exact fzL_strs _ | exact fz_ints _ | exact fz_strs _)] at z; subst z; conv => whnf))
    obtain ⟨z, hz1, hz2, _⟩ := atI_in (xs := signs.cps.toList) hj0 (by rw [signs_len]; exact hj1)
    refine ⟨z, hz1, ?_⟩
    refine ⟨_, rfl, ?_, ⟨_, _, _, rfl⟩, ss ++ [⟨#[z]⟩], by simp [PV.frz], ?_, ?_⟩
    · rw [List.length_map]
      have : ss.length ≤ 1001 := by simp at hl; omega
      exact Nat.lt_of_le_of_lt this (by decide)
    · intro s hs'
      rcases List.mem_append.mp hs' with h1 | h1
      · exact hs s h1
      · rw [List.mem_singleton] at h1
        subst h1
        exact ⟨rfl, fun x hx => by simp at hx; subst hx; exact signs_all _ hz2⟩
    · simp at hl ⊢
      omega
end Y
end
section
set_option Elab.async false
set_option linter.all false
set_option maxRecDepth 100000
set_option maxHeartbeats 2000000
set_option autoImplicit false
/-! V5: pools, files, draws out of a list. -/
namespace Y
open PySem
theorem atI_map {α β : Type} {f : α → β} {xs : List α} {j : Nat} (h : j < xs.length) : L2.atI (xs.map f) (j : Int) = some (f xs[j]) := L2.atI_nat (by simp [h])
theorem datL_strs : ∀ a : List Str, PV.datL (a.map .str) = some (a.map .str)
  | [] => rfl
  | x :: a => by simp [PV.datL, PV.dat, datL_strs a]
theorem all_flat_strs : ∀ a : List Str, (a.map PV.str).all flat = true
  | [] => rfl
  | x :: a => by rw [List.map_cons, List.all_cons, all_flat_strs a]; rfl
theorem any_strs (w : Str) : ∀ a : List Str, ((a.map PyData.str).any fun z => PyData.eqv z (.str w)) = decide (w ∈ a)
  | [] => by simp
  | x :: a => by
    rw [List.map_cons, List.any_cons, any_strs w a, eqv_str]
    by_cases h : x = w
    · simp [h]
    · have : ¬ w = x := fun z => h z.symm
      simp [h, this]
theorem n_in {o : Bool} {w : Str} {ls : List Str} : opN (.cmp .In) [.str w, .lst o (ls.map .str)] = some (.bl (decide (w ∈ ls))) := by
  show (cmpN .In _ _).map _ = _
  simp only [cmpN, all_flat_strs, flat, Bool.and_self, if_true, flatIn, PV.dat, datL_strs, any_strs, Option.map]
theorem n_notin {o : Bool} {w : Str} {ls : List Str} : opN (.cmp .NotIn) [.str w, .lst o (ls.map .str)] = some (.bl (!decide (w ∈ ls))) := by
  show (cmpN .NotIn _ _).map _ = _
  simp only [cmpN, all_flat_strs, flat, Bool.and_self, if_true, flatIn, PV.dat, datL_strs, any_strs, Option.map]
theorem maxI_ge : ∀ (l : List Int) (a x : Int), x ∈ a :: l → x ≤ maxI a l
  | [], a, x, h => by
    simp at h
    simp [maxI, h]
  | b :: l, a, x, h => by
    rw [maxI]
    rcases List.mem_cons.mp h with rfl | h
    · refine Int.le_trans ?_ (maxI_ge l _ _ List.mem_cons_self)
      split <;> omega
    · rcases List.mem_cons.mp h with rfl | h
      · refine Int.le_trans ?_ (maxI_ge l _ _ List.mem_cons_self)
        split <;> omega
      · exact maxI_ge l _ _ (List.mem_cons_of_mem _ h)
theorem maxI_in : ∀ (l : List Int) (a : Int), maxI a l ∈ a :: l
  | [], a => by simp [maxI]
  | b :: l, a => by
    rw [maxI]
    have := maxI_in l (if b > a then b else a)
    rcases List.mem_cons.mp this with h | h
    · rw [h]
      split <;> simp
    · exact List.mem_cons_of_mem _ (List.mem_cons_of_mem _ h)
theorem n_max {o : Bool} {n : Int} {ns : List Int} : opN .max [.lst o ((n :: ns).map .int)] = some (.int (maxI n ns)) := by
  show maxP _ = _
  simp only [maxP, lstOf, Option.bind, intsP_mk]
theorem fold_app : ∀ (l : List (Array Nat)) (a : Array Nat), (l.foldl (· ++ ·) a).toList = a.toList ++ (l.map (·.toList)).flatten
  | [], a => by simp
  | x :: l, a => by
    rw [List.foldl_cons, fold_app l]
    simp
theorem mul_list (x : Str) {n : Int} (h : 1 ≤ n) : (Txt.mul x n).cps.toList = (List.replicate n.toNat x.cps.toList).flatten := by
  unfold Txt.mul
  rw [if_neg (by omega)]
  split
  · rename_i hh
    simp only [Bool.or_eq_true, beq_iff_eq] at hh
    rcases hh with rfl | hh
    · simp
    · have : x.cps.toList = [] := by
        rw [str_len] at hh
        exact List.eq_nil_of_length_eq_zero hh
      rw [this]
      simp
  · show ((List.replicate n.toNat x.cps).foldl (· ++ ·) #[]).toList = _
    rw [fold_app]
    simp
theorem zed : ("z" : Str).cps.toList = [122] := by decide +kernel
theorem mul_z {n : Int} (h : 1 ≤ n) : (Txt.mul ("z" : Str) n).cps.toList = List.replicate n.toNat 122 := by
  rw [mul_list _ h, zed]
  simp [List.flatten_replicate_singleton]
theorem n_mul_str {x : Str} {n : Int} (h1 : 1 ≤ n) (h2 : n ≤ 10000) (hx : x.length ≤ 100) : opN (.bin .Mult) [.str x, .int n] = some (.str (Txt.mul x n)) := by
  show (if decide (MulOk x n) then _ else none) = _
  have hp : x.length * n.toNat ≤ 100 * 10000 := Nat.mul_le_mul hx (by omega)
  have hm : MulOk x n := by
    refine ⟨?_, fun _ _ => ?_, fun _ _ => ?_⟩
    · simp only [Bool.or_eq_false_iff, decide_eq_false_iff_not]
      constructor <;> omega
    · have : (2 ^ 63 - 1) / n ≥ (2 ^ 63 - 1) / 10000 := by
        rw [ge_iff_le, Int.le_ediv_iff_mul_le (by omega)]
        have : (2 ^ 63 - 1 : Int) / 10000 * n ≤ (2 ^ 63 - 1) / 10000 * 10000 := Int.mul_le_mul_of_nonneg_left h2 (by decide)
        omega
      omega
    · show Builtin.Str.tooLong _ = false
      unfold Builtin.Str.tooLong
      simp only [decide_eq_false_iff_not]
      rw [sizeLine_eq]
      omega
  rw [if_pos (decide_eq_true hm)]
theorem n_mul_z {n : Int} (h1 : 1 ≤ n) (h2 : n ≤ 10000) : opN (.bin .Mult) [.str "z", .int n] = some (.str (Txt.mul ("z" : Str) n)) := n_mul_str h1 h2 (by decide +kernel)
theorem Plain.mono {m k : Int} {s : Str} (h : Plain m s) (hk : m ≤ k) : Plain k s := ⟨by have := h.1; omega, h.2⟩
/-! pools -/
def poolB : List IS := [
  .set 3 (.lst []),
  .fors (.nm 4) (.rng [.loc 1]) [.set 5 (.call "_law_text" [true, true] [.loc 0, .loc 2]), .ife (.op (.cmp .Eq) [.call "_law_draw" [true, true] [.loc 0, .cst (.int 9)], .cst (.int 4)]) [.set 5 (.op (.bin .Add) [.cst (.str "other "), .op .str [.op (.bin .Add) [.cst (.int 1), .call "_law_draw" [true, true] [.loc 0, .cst (.int 4)]]]])] [], .ife (.op (.cmp .In) [.loc 5, .loc 3]) [.set 5 (.op (.bin .Mult) [.cst (.str "z"), .op (.bin .Add) [.cst (.int 1), .op .max [.compv (.op .len [.loc 6]) (.nm 6) 3 [] [6]]]])] [], .app 3 (.loc 5)],
  .ret (.mov 3)]
theorem mem_app_one {α : Type} {a : List α} {x y : α} (h : x ∈ a ++ [y]) : x ∈ a ∨ x = y := by
  rcases List.mem_append.mp h with h | h
  · exact .inl h
  · exact .inr (List.mem_singleton.mp h)
theorem mem_of_dec {w : Str} {ls : List Str} (h : decide (w ∈ ls) = true) : w ∈ ls := of_decide_eq_true h
def lenI (s : Str) : Int := s.length
theorem okS_of {n : Nat} (h : n ≤ 10000) : okS n = true := decide_eq_true (Nat.le_trans h (by rw [sizeLine_eq]; decide))
theorem other_fit {d : Int} (h0 : 0 ≤ d) (h1 : d < 4) : okS (("other " : Str).length + ((toString (1 + d) : String) : Str).length) = true ∧ (1 + d).natAbs.log2 < 1920 := by
  obtain rfl | rfl | rfl | rfl : d = 0 ∨ d = 1 ∨ d = 2 ∨ d = 3 := by omega
  all_goals exact ⟨by decide +kernel, by decide +kernel⟩
theorem other_plain {d : Int} (h0 : 0 ≤ d) (h1 : d < 4) : Plain 7 (("other " : Str) ++ ((toString (1 + d) : String) : Str)) := by
  obtain rfl | rfl | rfl | rfl : d = 0 ∨ d = 1 ∨ d = 2 ∨ d = 3 := by omega
  all_goals exact ⟨by decide +kernel, by decide +kernel⟩
theorem take_map_step {α β : Type} {f : α → β} {ls : List α} {j : Nat} (hj : j < ls.length) : (ls.take j).map f ++ [f ls[j]] = (ls.take (j + 1)).map f := by
  rw [List.take_succ_eq_append_getElem hj, List.map_append]
  rfl
theorem pool_step {ls : List Str} {v : Str} {m : Int} (h2 : ls.Nodup) (h3 : ∀ s ∈ ls, Plain (m + ls.length) s) (hv : v ∉ ls) (hp : Plain (m + ls.length + 1) v) : (ls ++ [v]).Nodup ∧ ∀ s ∈ ls ++ [v], Plain (m + (ls ++ [v]).length) s := by
  constructor
  · refine List.nodup_append.mpr ⟨h2, by simp, fun a ha b hb e => ?_⟩
    rw [List.mem_singleton] at hb
    subst hb
    subst e
    exact hv ha
  · intro s hs
    rw [List.length_append]
    rcases mem_app_one hs with h | rfl
    · exact (h3 s h).mono (by simp; omega)
    · exact hp.mono (by simp; omega)
theorem z_new {ls : List Str} {l0 : Str} {l1 : List Str} {m : Int} (e : ls = l0 :: l1) (h3 : ∀ s ∈ ls, Plain (m + ls.length) s) (hm : 0 ≤ m) : (0 ≤ maxI (lenI l0) (l1.map lenI) ∧ maxI (lenI l0) (l1.map lenI) ≤ m + ls.length) ∧ Txt.mul ("z" : Str) (1 + maxI (lenI l0) (l1.map lenI)) ∉ ls ∧ Plain (m + ls.length + 1) (Txt.mul ("z" : Str) (1 + maxI (lenI l0) (l1.map lenI))) := by
  have hmem := maxI_in (l1.map lenI) (lenI l0)
  rw [← List.map_cons, ← e] at hmem
  obtain ⟨s0, hs0, es0⟩ := List.mem_map.mp hmem
  have hge : ∀ s ∈ ls, lenI s ≤ maxI (lenI l0) (l1.map lenI) := fun s hs => maxI_ge _ _ _ (by rw [← List.map_cons, ← e]; exact List.mem_map_of_mem hs)
  have h0 : 0 ≤ maxI (lenI l0) (l1.map lenI) := by rw [← es0]; exact Int.natCast_nonneg _
  have h1 : maxI (lenI l0) (l1.map lenI) ≤ m + ls.length := by rw [← es0]; exact (h3 s0 hs0).1
  have hz := mul_z (n := 1 + maxI (lenI l0) (l1.map lenI)) (by omega)
  have hzl : ((Txt.mul ("z" : Str) (1 + maxI (lenI l0) (l1.map lenI))).length : Int) = 1 + maxI (lenI l0) (l1.map lenI) := by
    rw [str_len, hz, List.length_replicate]
    omega
  refine ⟨⟨h0, h1⟩, fun hin => ?_, by omega, fun x hx => ?_⟩
  · have q : ((Txt.mul ("z" : Str) (1 + maxI (lenI l0) (l1.map lenI))).length : Int) ≤ maxI (lenI l0) (l1.map lenI) := hge _ hin
    omega
  · rw [hz] at hx
    rw [(List.mem_replicate.mp hx).2]
    decide
theorem pool_ok {T : Tb} {fuel n : Nat} (hD : T ("_law_draw" : Str) = some ⟨5, 2, [true, true], drawB⟩) (hX : T ("_law_text" : Str) = some ⟨5, 2, [true, true], textB⟩) (hT : T ("_law_pool" : Str) = some ⟨7, 3, [true, true, true], poolB⟩)
    {cs : List Int} {i r k c m : Int} (hc : cs ≠ []) (hc0 : 0 ≤ c) (hc1 : c ≤ 20) (hm : 7 ≤ m) (hm2 : m ≤ 100) {Q : PV → Fr → Prop} {E : PX → Fr → Prop}
    (h : ∀ (ls : List Str) i' r' k', ls.length = c.toNat → ls.Nodup → (∀ s ∈ ls, Plain (m + c) s) → Q (.lst true (ls.map .str)) [some (potP cs i' r' k'), some (.int c), some (.int m)]) : zC (callN T fuel (n + 3)) ("_law_pool" : Str) [potP cs i r k, .int c, .int m] Q E := by
  refine run_ok hT rfl ?_
  (conv => whnf); repeat (first | (refine ⟨_, rfl, (by first | assumption | rfl | exact fzL_ints _ | exact fzL_strs _ | exact fz_ints _ | exact fz_strs _), ?_⟩; conv => whnf) | (refine ⟨_, rfl, ?_⟩; conv => whnf) | (refine And.intro rfl ?_; conv => whnf) | (refine And.intro (by first | assumption | decide | omega) ?_; conv => whnf) | (refine And.intro (by first | assumption | rfl | exact fzL_ints _ | exact fzL_strs _ | exact fz_ints _ | exact fz_strs _) ?_; conv => whnf) | (refine And.intro (And.intro (by first | assumption | decide | omega) (by first | assumption | decide | omega)) ?_; conv => whnf) | (refine And.intro (And.intro (And.intro (by first | assumption | decide | omega) (by first | assumption | decide | omega)) (And.intro (by first | assumption | decide | omega) (by first | assumption | decide | omega))) ?_; conv => whnf) | (refine And.intro (And.intro (by first | assumption | rfl | exact fzL_ints _ | exact fzL_strs _ | exact fz_ints _ | exact fz_strs _) (And.intro (by first | assumption | rfl | exact fzL_ints _ | exact fzL_strs _ | exact fz_ints _ | exact fz_strs _) (by first | assumption | rfl | exact fzL_ints _ | exact fzL_strs _ | exact fz_ints _ | exact fz_strs _))) ?_; conv => whnf) | (refine And.intro (by first | exact Or.inl (by decide) | exact Or.inr (by decide)) ?_; conv => whnf) | (refine ⟨fun _ => ?_, fun z => Bool.noConfusion z⟩; conv => whnf) | (refine ⟨fun z => Bool.noConfusion z, fun _ => ?_⟩; conv => whnf) | (intro p0 z; rw [frz_lstp (by first | assumption | rfl | exact fzL_ints _ | exact fzL_strs _ | exact fz_ints _ | exact fz_strs _)] at z; subst z; conv => whnf) | (intro p0 z; rw [PV.fz_frz _ (by first | assumption | rfl | exact fzL_ints _ | exact fzL_strs _ | exact fz_ints _ | exact fz_strs _)] at z; subst z; conv => whnf))
  refine zF_in (fun rest ρ => ∃ (i' r' k' : Int) (ls : List Str) (z4 z5 : Option PV), ls.length + rest.length = c.toNat ∧ ls.Nodup ∧ (∀ s ∈ ls, Plain (m + ls.length) s) ∧ ρ = [some (potP cs i' r' k'), some (.int c), some (.int m), some (.lst true (ls.map .str)), z4, z5, none]) ?_ ?_ ?_
  · exact ⟨_, _, _, [], none, none, by simp [rng_len], by simp, by simp, rfl⟩
  · rintro ρ ⟨i', r', k', ls, z4, z5, h1, h2, h3, rfl⟩
    (conv => whnf); repeat (first | (refine ⟨_, rfl, (by first | assumption | rfl | exact fzL_ints _ | exact fzL_strs _ | exact fz_ints _ | exact fz_strs _), ?_⟩; conv => whnf) | (refine ⟨_, rfl, ?_⟩; conv => whnf) | (refine And.intro rfl ?_; conv => whnf) | (refine And.intro (by first | assumption | decide | omega) ?_; conv => whnf) | (refine And.intro (by first | assumption | rfl | exact fzL_ints _ | exact fzL_strs _ | exact fz_ints _ | exact fz_strs _) ?_; conv => whnf) | (refine And.intro (And.intro (by first | assumption | decide | omega) (by first | assumption | decide | omega)) ?_; conv => whnf) | (refine And.intro (And.intro (And.intro (by first | assumption | decide | omega) (by first | assumption | decide | omega)) (And.intro (by first | assumption | decide | omega) (by first | assumption | decide | omega))) ?_; conv => whnf) | (refine And.intro (And.intro (by first | assumption | rfl | exact fzL_ints _ | exact fzL_strs _ | exact fz_ints _ | exact fz_strs _) (And.intro (by first | assumption | rfl | exact fzL_ints _ | exact fzL_strs _ | exact fz_ints _ | exact fz_strs _) (by first | assumption | rfl | exact fzL_ints _ | exact fzL_strs _ | exact fz_ints _ | exact fz_strs _))) ?_; conv => whnf) | (refine And.intro (by first | exact Or.inl (by decide) | exact Or.inr (by decide)) ?_; conv => whnf) | (refine ⟨fun _ => ?_, fun z => Bool.noConfusion z⟩; conv => whnf) | (refine ⟨fun z => Bool.noConfusion z, fun _ => ?_⟩; conv => whnf) | (intro p0 z; rw [frz_lstp (by first | assumption | rfl | exact fzL_ints _ | exact fzL_strs _ | exact fz_ints _ | exact fz_strs _)] at z; subst z; conv => whnf) | (intro p0 z; rw [PV.fz_frz _ (by first | assumption | rfl | exact fzL_ints _ | exact fzL_strs _ | exact fz_ints _ | exact fz_strs _)] at z; subst z; conv => whnf))
    refine h ls _ _ _ (by simpa using h1) h2 fun s hs => (h3 s hs).mono ?_
    simp at h1
    omega
  · rintro x rest ρ ⟨i', r', k', ls, z4, z5, h1, h2, h3, rfl⟩
    simp only [List.length_cons] at h1
    refine ⟨_, rfl, ?_⟩
    (conv => whnf); repeat (first | (refine ⟨_, rfl, (by first | assumption | rfl | exact fzL_ints _ | exact fzL_strs _ | exact fz_ints _ | exact fz_strs _), ?_⟩; conv => whnf) | (refine ⟨_, rfl, ?_⟩; conv => whnf) | (refine And.intro rfl ?_; conv => whnf) | (refine And.intro (by first | assumption | decide | omega) ?_; conv => whnf) | (refine And.intro (by first | assumption | rfl | exact fzL_ints _ | exact fzL_strs _ | exact fz_ints _ | exact fz_strs _) ?_; conv => whnf) | (refine And.intro (And.intro (by first | assumption | decide | omega) (by first | assumption | decide | omega)) ?_; conv => whnf) | (refine And.intro (And.intro (And.intro (by first | assumption | decide | omega) (by first | assumption | decide | omega)) (And.intro (by first | assumption | decide | omega) (by first | assumption | decide | omega))) ?_; conv => whnf) | (refine And.intro (And.intro (by first | assumption | rfl | exact fzL_ints _ | exact fzL_strs _ | exact fz_ints _ | exact fz_strs _) (And.intro (by first | assumption | rfl | exact fzL_ints _ | exact fzL_strs _ | exact fz_ints _ | exact fz_strs _) (by first | assumption | rfl | exact fzL_ints _ | exact fzL_strs _ | exact fz_ints _ | exact fz_strs _))) ?_; conv => whnf) | (refine And.intro (by first | exact Or.inl (by decide) | exact Or.inr (by decide)) ?_; conv => whnf) | (refine ⟨fun _ => ?_, fun z => Bool.noConfusion z⟩; conv => whnf) | (refine ⟨fun z => Bool.noConfusion z, fun _ => ?_⟩; conv => whnf) | (intro p0 z; rw [frz_lstp (by first | assumption | rfl | exact fzL_ints _ | exact fzL_strs _ | exact fz_ints _ | exact fz_strs _)] at z; subst z; conv => whnf) | (intro p0 z; rw [PV.fz_frz _ (by first | assumption | rfl | exact fzL_ints _ | exact fzL_strs _ | exact fz_ints _ | exact fz_strs _)] at z; subst z; conv => whnf))
    refine text_ok hD hX hc (by omega) (by omega) fun s i2 r2 k2 hs => ?_
    (conv => whnf); repeat (first | (refine ⟨_, rfl, (by first | assumption | rfl | exact fzL_ints _ | exact fzL_strs _ | exact fz_ints _ | exact fz_strs _), ?_⟩; conv => whnf) | (refine ⟨_, rfl, ?_⟩; conv => whnf) | (refine And.intro rfl ?_; conv => whnf) | (refine And.intro (by first | assumption | decide | omega) ?_; conv => whnf) | (refine And.intro (by first | assumption | rfl | exact fzL_ints _ | exact fzL_strs _ | exact fz_ints _ | exact fz_strs _) ?_; conv => whnf) | (refine And.intro (And.intro (by first | assumption | decide | omega) (by first | assumption | decide | omega)) ?_; conv => whnf) | (refine And.intro (And.intro (And.intro (by first | assumption | decide | omega) (by first | assumption | decide | omega)) (And.intro (by first | assumption | decide | omega) (by first | assumption | decide | omega))) ?_; conv => whnf) | (refine And.intro (And.intro (by first | assumption | rfl | exact fzL_ints _ | exact fzL_strs _ | exact fz_ints _ | exact fz_strs _) (And.intro (by first | assumption | rfl | exact fzL_ints _ | exact fzL_strs _ | exact fz_ints _ | exact fz_strs _) (by first | assumption | rfl | exact fzL_ints _ | exact fzL_strs _ | exact fz_ints _ | exact fz_strs _))) ?_; conv => whnf) | (refine And.intro (by first | exact Or.inl (by decide) | exact Or.inr (by decide)) ?_; conv => whnf) | (refine ⟨fun _ => ?_, fun z => Bool.noConfusion z⟩; conv => whnf) | (refine ⟨fun z => Bool.noConfusion z, fun _ => ?_⟩; conv => whnf) | (intro p0 z; rw [frz_lstp (by first | assumption | rfl | exact fzL_ints _ | exact fzL_strs _ | exact fz_ints _ | exact fz_strs _)] at z; subst z; conv => whnf) | (intro p0 z; rw [PV.fz_frz _ (by first | assumption | rfl | exact fzL_ints _ | exact fzL_strs _ | exact fz_ints _ | exact fz_strs _)] at z; subst z; conv => whnf))
    refine draw_ok hD hc (by omega) (lg (by omega) (by omega)) fun d i3 r3 k3 hd0 hd1 => ?_
    (conv => whnf); repeat (first | (refine ⟨_, rfl, (by first | assumption | rfl | exact fzL_ints _ | exact fzL_strs _ | exact fz_ints _ | exact fz_strs _), ?_⟩; conv => whnf) | (refine ⟨_, rfl, ?_⟩; conv => whnf) | (refine And.intro rfl ?_; conv => whnf) | (refine And.intro (by first | assumption | decide | omega) ?_; conv => whnf) | (refine And.intro (by first | assumption | rfl | exact fzL_ints _ | exact fzL_strs _ | exact fz_ints _ | exact fz_strs _) ?_; conv => whnf) | (refine And.intro (And.intro (by first | assumption | decide | omega) (by first | assumption | decide | omega)) ?_; conv => whnf) | (refine And.intro (And.intro (And.intro (by first | assumption | decide | omega) (by first | assumption | decide | omega)) (And.intro (by first | assumption | decide | omega) (by first | assumption | decide | omega))) ?_; conv => whnf) | (refine And.intro (And.intro (by first | assumption | rfl | exact fzL_ints _ | exact fzL_strs _ | exact fz_ints _ | exact fz_strs _) (And.intro (by first | assumption | rfl | exact fzL_ints _ | exact fzL_strs _ | exact fz_ints _ | exact fz_strs _) (by first | assumption | rfl | exact fzL_ints _ | exact fzL_strs _ | exact fz_ints _ | exact fz_strs _))) ?_; conv => whnf) | (refine And.intro (by first | exact Or.inl (by decide) | exact Or.inr (by decide)) ?_; conv => whnf) | (refine ⟨fun _ => ?_, fun z => Bool.noConfusion z⟩; conv => whnf) | (refine ⟨fun z => Bool.noConfusion z, fun _ => ?_⟩; conv => whnf) | (intro p0 z; rw [frz_lstp (by first | assumption | rfl | exact fzL_ints _ | exact fzL_strs _ | exact fz_ints _ | exact fz_strs _)] at z; subst z; conv => whnf) | (intro p0 z; rw [PV.fz_frz _ (by first | assumption | rfl | exact fzL_ints _ | exact fzL_strs _ | exact fz_ints _ | exact fz_strs _)] at z; subst z; conv => whnf))
    refine ⟨fun hk => ?_, fun hk => ?_⟩
    rotate_left
    · have hw : Plain m s := hs
      (conv => whnf); repeat (first | (refine ⟨_, rfl, (by first | assumption | rfl | exact fzL_ints _ | exact fzL_strs _ | exact fz_ints _ | exact fz_strs _), ?_⟩; conv => whnf) | (refine ⟨_, rfl, ?_⟩; conv => whnf) | (refine And.intro rfl ?_; conv => whnf) | (refine And.intro (by first | assumption | decide | omega) ?_; conv => whnf) | (refine And.intro (by first | assumption | rfl | exact fzL_ints _ | exact fzL_strs _ | exact fz_ints _ | exact fz_strs _) ?_; conv => whnf) | (refine And.intro (And.intro (by first | assumption | decide | omega) (by first | assumption | decide | omega)) ?_; conv => whnf) | (refine And.intro (And.intro (And.intro (by first | assumption | decide | omega) (by first | assumption | decide | omega)) (And.intro (by first | assumption | decide | omega) (by first | assumption | decide | omega))) ?_; conv => whnf) | (refine And.intro (And.intro (by first | assumption | rfl | exact fzL_ints _ | exact fzL_strs _ | exact fz_ints _ | exact fz_strs _) (And.intro (by first | assumption | rfl | exact fzL_ints _ | exact fzL_strs _ | exact fz_ints _ | exact fz_strs _) (by first | assumption | rfl | exact fzL_ints _ | exact fzL_strs _ | exact fz_ints _ | exact fz_strs _))) ?_; conv => whnf) | (refine And.intro (by first | exact Or.inl (by decide) | exact Or.inr (by decide)) ?_; conv => whnf) | (refine ⟨fun _ => ?_, fun z => Bool.noConfusion z⟩; conv => whnf) | (refine ⟨fun z => Bool.noConfusion z, fun _ => ?_⟩; conv => whnf) | (intro p0 z; rw [frz_lstp (by first | assumption | rfl | exact fzL_ints _ | exact fzL_strs _ | exact fz_ints _ | exact fz_strs _)] at z; subst z; conv => whnf) | (intro p0 z; rw [PV.fz_frz _ (by first | assumption | rfl | exact fzL_ints _ | exact fzL_strs _ | exact fz_ints _ | exact fz_strs _)] at z; subst z; conv => whnf))
      refine ⟨_, n_in, ?_⟩
      (conv => whnf); repeat (first | (refine ⟨_, rfl, (by first | assumption | rfl | exact fzL_ints _ | exact fzL_strs _ | exact fz_ints _ | exact fz_strs _), ?_⟩; conv => whnf) | (refine ⟨_, rfl, ?_⟩; conv => whnf) | (refine And.intro rfl ?_; conv => whnf) | (refine And.intro (by first | assumption | decide | omega) ?_; conv => whnf) | (refine And.intro (by first | assumption | rfl | exact fzL_ints _ | exact fzL_strs _ | exact fz_ints _ | exact fz_strs _) ?_; conv => whnf) | (refine And.intro (And.intro (by first | assumption | decide | omega) (by first | assumption | decide | omega)) ?_; conv => whnf) | (refine And.intro (And.intro (And.intro (by first | assumption | decide | omega) (by first | assumption | decide | omega)) (And.intro (by first | assumption | decide | omega) (by first | assumption | decide | omega))) ?_; conv => whnf) | (refine And.intro (And.intro (by first | assumption | rfl | exact fzL_ints _ | exact fzL_strs _ | exact fz_ints _ | exact fz_strs _) (And.intro (by first | assumption | rfl | exact fzL_ints _ | exact fzL_strs _ | exact fz_ints _ | exact fz_strs _) (by first | assumption | rfl | exact fzL_ints _ | exact fzL_strs _ | exact fz_ints _ | exact fz_strs _))) ?_; conv => whnf) | (refine And.intro (by first | exact Or.inl (by decide) | exact Or.inr (by decide)) ?_; conv => whnf) | (refine ⟨fun _ => ?_, fun z => Bool.noConfusion z⟩; conv => whnf) | (refine ⟨fun z => Bool.noConfusion z, fun _ => ?_⟩; conv => whnf) | (intro p0 z; rw [frz_lstp (by first | assumption | rfl | exact fzL_ints _ | exact fzL_strs _ | exact fz_ints _ | exact fz_strs _)] at z; subst z; conv => whnf) | (intro p0 z; rw [PV.fz_frz _ (by first | assumption | rfl | exact fzL_ints _ | exact fzL_strs _ | exact fz_ints _ | exact fz_strs _)] at z; subst z; conv => whnf))
      refine ⟨fun hk2 => ?_, fun hk2 => ?_⟩
      · have hin : s ∈ ls := of_decide_eq_true hk2
        obtain ⟨l0, l1, el⟩ : ∃ l0 l1, ls = l0 :: l1 := by
          cases ls with
          | nil => cases hin
          | cons a b => exact ⟨a, b, rfl⟩
        obtain ⟨⟨z0, z1⟩, z2, z3⟩ := z_new el h3 (by omega)
        (conv => whnf); repeat (first | (refine ⟨_, rfl, (by first | assumption | rfl | exact fzL_ints _ | exact fzL_strs _ | exact fz_ints _ | exact fz_strs _), ?_⟩; conv => whnf) | (refine ⟨_, rfl, ?_⟩; conv => whnf) | (refine And.intro rfl ?_; conv => whnf) | (refine And.intro (by first | assumption | decide | omega) ?_; conv => whnf) | (refine And.intro (by first | assumption | rfl | exact fzL_ints _ | exact fzL_strs _ | exact fz_ints _ | exact fz_strs _) ?_; conv => whnf) | (refine And.intro (And.intro (by first | assumption | decide | omega) (by first | assumption | decide | omega)) ?_; conv => whnf) | (refine And.intro (And.intro (And.intro (by first | assumption | decide | omega) (by first | assumption | decide | omega)) (And.intro (by first | assumption | decide | omega) (by first | assumption | decide | omega))) ?_; conv => whnf) | (refine And.intro (And.intro (by first | assumption | rfl | exact fzL_ints _ | exact fzL_strs _ | exact fz_ints _ | exact fz_strs _) (And.intro (by first | assumption | rfl | exact fzL_ints _ | exact fzL_strs _ | exact fz_ints _ | exact fz_strs _) (by first | assumption | rfl | exact fzL_ints _ | exact fzL_strs _ | exact fz_ints _ | exact fz_strs _))) ?_; conv => whnf) | (refine And.intro (by first | exact Or.inl (by decide) | exact Or.inr (by decide)) ?_; conv => whnf) | (refine ⟨fun _ => ?_, fun z => Bool.noConfusion z⟩; conv => whnf) | (refine ⟨fun z => Bool.noConfusion z, fun _ => ?_⟩; conv => whnf) | (intro p0 z; rw [frz_lstp (by first | assumption | rfl | exact fzL_ints _ | exact fzL_strs _ | exact fz_ints _ | exact fz_strs _)] at z; subst z; conv => whnf) | (intro p0 z; rw [PV.fz_frz _ (by first | assumption | rfl | exact fzL_ints _ | exact fzL_strs _ | exact fz_ints _ | exact fz_strs _)] at z; subst z; conv => whnf))
        refine zKv_in rfl (fun j acc ρ => acc = ((ls.take j).map lenI).map .int ∧ ρ = [some (potP cs i3 r3 k3), some (.int c), some (.int m), some (.lst true (ls.map .str)), some x, some (.str s), none]) ?_ ?_ ?_
        · exact ⟨rfl, rfl⟩
        · rintro ys _ ⟨rfl, rfl⟩
          refine ⟨by simp [vwLen, Fr.at], ?_⟩
          (conv => whnf); repeat (first | (refine ⟨_, rfl, (by first | assumption | rfl | exact fzL_ints _ | exact fzL_strs _ | exact fz_ints _ | exact fz_strs _), ?_⟩; conv => whnf) | (refine ⟨_, rfl, ?_⟩; conv => whnf) | (refine And.intro rfl ?_; conv => whnf) | (refine And.intro (by first | assumption | decide | omega) ?_; conv => whnf) | (refine And.intro (by first | assumption | rfl | exact fzL_ints _ | exact fzL_strs _ | exact fz_ints _ | exact fz_strs _) ?_; conv => whnf) | (refine And.intro (And.intro (by first | assumption | decide | omega) (by first | assumption | decide | omega)) ?_; conv => whnf) | (refine And.intro (And.intro (And.intro (by first | assumption | decide | omega) (by first | assumption | decide | omega)) (And.intro (by first | assumption | decide | omega) (by first | assumption | decide | omega))) ?_; conv => whnf) | (refine And.intro (And.intro (by first | assumption | rfl | exact fzL_ints _ | exact fzL_strs _ | exact fz_ints _ | exact fz_strs _) (And.intro (by first | assumption | rfl | exact fzL_ints _ | exact fzL_strs _ | exact fz_ints _ | exact fz_strs _) (by first | assumption | rfl | exact fzL_ints _ | exact fzL_strs _ | exact fz_ints _ | exact fz_strs _))) ?_; conv => whnf) | (refine And.intro (by first | exact Or.inl (by decide) | exact Or.inr (by decide)) ?_; conv => whnf) | (refine ⟨fun _ => ?_, fun z => Bool.noConfusion z⟩; conv => whnf) | (refine ⟨fun z => Bool.noConfusion z, fun _ => ?_⟩; conv => whnf) | (intro p0 z; rw [frz_lstp (by first | assumption | rfl | exact fzL_ints _ | exact fzL_strs _ | exact fz_ints _ | exact fz_strs _)] at z; subst z; conv => whnf) | (intro p0 z; rw [PV.fz_frz _ (by first | assumption | rfl | exact fzL_ints _ | exact fzL_strs _ | exact fz_ints _ | exact fz_strs _)] at z; subst z; conv => whnf))
          have et : List.take (List.map PV.str ls).length ls = l0 :: l1 := by rw [List.length_map, List.take_length, el]
          rw [et]
          refine ⟨_, n_max, ?_⟩
          (conv => whnf); repeat (first | (refine ⟨_, rfl, (by first | assumption | rfl | exact fzL_ints _ | exact fzL_strs _ | exact fz_ints _ | exact fz_strs _), ?_⟩; conv => whnf) | (refine ⟨_, rfl, ?_⟩; conv => whnf) | (refine And.intro rfl ?_; conv => whnf) | (refine And.intro (by first | assumption | decide | omega) ?_; conv => whnf) | (refine And.intro (by first | assumption | rfl | exact fzL_ints _ | exact fzL_strs _ | exact fz_ints _ | exact fz_strs _) ?_; conv => whnf) | (refine And.intro (And.intro (by first | assumption | decide | omega) (by first | assumption | decide | omega)) ?_; conv => whnf) | (refine And.intro (And.intro (And.intro (by first | assumption | decide | omega) (by first | assumption | decide | omega)) (And.intro (by first | assumption | decide | omega) (by first | assumption | decide | omega))) ?_; conv => whnf) | (refine And.intro (And.intro (by first | assumption | rfl | exact fzL_ints _ | exact fzL_strs _ | exact fz_ints _ | exact fz_strs _) (And.intro (by first | assumption | rfl | exact fzL_ints _ | exact fzL_strs _ | exact fz_ints _ | exact fz_strs _) (by first | assumption | rfl | exact fzL_ints _ | exact fzL_strs _ | exact fz_ints _ | exact fz_strs _))) ?_; conv => whnf) | (refine And.intro (by first | exact Or.inl (by decide) | exact Or.inr (by decide)) ?_; conv => whnf) | (refine ⟨fun _ => ?_, fun z => Bool.noConfusion z⟩; conv => whnf) | (refine ⟨fun z => Bool.noConfusion z, fun _ => ?_⟩; conv => whnf) | (intro p0 z; rw [frz_lstp (by first | assumption | rfl | exact fzL_ints _ | exact fzL_strs _ | exact fz_ints _ | exact fz_strs _)] at z; subst z; conv => whnf) | (intro p0 z; rw [PV.fz_frz _ (by first | assumption | rfl | exact fzL_ints _ | exact fzL_strs _ | exact fz_ints _ | exact fz_strs _)] at z; subst z; conv => whnf))
          refine ⟨_, n_mul_z (by omega) (by omega), ?_⟩
          (conv => whnf); repeat (first | (refine ⟨_, rfl, (by first | assumption | rfl | exact fzL_ints _ | exact fzL_strs _ | exact fz_ints _ | exact fz_strs _), ?_⟩; conv => whnf) | (refine ⟨_, rfl, ?_⟩; conv => whnf) | (refine And.intro rfl ?_; conv => whnf) | (refine And.intro (by first | assumption | decide | omega) ?_; conv => whnf) | (refine And.intro (by first | assumption | rfl | exact fzL_ints _ | exact fzL_strs _ | exact fz_ints _ | exact fz_strs _) ?_; conv => whnf) | (refine And.intro (And.intro (by first | assumption | decide | omega) (by first | assumption | decide | omega)) ?_; conv => whnf) | (refine And.intro (And.intro (And.intro (by first | assumption | decide | omega) (by first | assumption | decide | omega)) (And.intro (by first | assumption | decide | omega) (by first | assumption | decide | omega))) ?_; conv => whnf) | (refine And.intro (And.intro (by first | assumption | rfl | exact fzL_ints _ | exact fzL_strs _ | exact fz_ints _ | exact fz_strs _) (And.intro (by first | assumption | rfl | exact fzL_ints _ | exact fzL_strs _ | exact fz_ints _ | exact fz_strs _) (by first | assumption | rfl | exact fzL_ints _ | exact fzL_strs _ | exact fz_ints _ | exact fz_strs _))) ?_; conv => whnf) | (refine And.intro (by first | exact Or.inl (by decide) | exact Or.inr (by decide)) ?_; conv => whnf) | (refine ⟨fun _ => ?_, fun z => Bool.noConfusion z⟩; conv => whnf) | (refine ⟨fun z => Bool.noConfusion z, fun _ => ?_⟩; conv => whnf) | (intro p0 z; rw [frz_lstp (by first | assumption | rfl | exact fzL_ints _ | exact fzL_strs _ | exact fz_ints _ | exact fz_strs _)] at z; subst z; conv => whnf) | (intro p0 z; rw [PV.fz_frz _ (by first | assumption | rfl | exact fzL_ints _ | exact fzL_strs _ | exact fz_ints _ | exact fz_strs _)] at z; subst z; conv => whnf))
          refine ⟨Nat.lt_of_le_of_lt (show _ ≤ 100 by simp; omega) (by rw [sizeLine_eq]; decide), ?_⟩
          obtain ⟨f1, f2⟩ := pool_step h2 h3 z2 z3
          exact ⟨_, _, _, ls ++ [_], _, _, by simp; omega, f1, f2, by rw [List.map_append]; rfl⟩
        · rintro j acc _ hj ⟨rfl, rfl⟩
          have hj' : j < ls.length := by simpa using hj
          refine ⟨.str ls[j], _, by simp [vwAt, Fr.at, PV.fz, hj'], rfl, ?_⟩
          (conv => whnf); repeat (first | (refine ⟨_, rfl, (by first | assumption | rfl | exact fzL_ints _ | exact fzL_strs _ | exact fz_ints _ | exact fz_strs _), ?_⟩; conv => whnf) | (refine ⟨_, rfl, ?_⟩; conv => whnf) | (refine And.intro rfl ?_; conv => whnf) | (refine And.intro (by first | assumption | decide | omega) ?_; conv => whnf) | (refine And.intro (by first | assumption | rfl | exact fzL_ints _ | exact fzL_strs _ | exact fz_ints _ | exact fz_strs _) ?_; conv => whnf) | (refine And.intro (And.intro (by first | assumption | decide | omega) (by first | assumption | decide | omega)) ?_; conv => whnf) | (refine And.intro (And.intro (And.intro (by first | assumption | decide | omega) (by first | assumption | decide | omega)) (And.intro (by first | assumption | decide | omega) (by first | assumption | decide | omega))) ?_; conv => whnf) | (refine And.intro (And.intro (by first | assumption | rfl | exact fzL_ints _ | exact fzL_strs _ | exact fz_ints _ | exact fz_strs _) (And.intro (by first | assumption | rfl | exact fzL_ints _ | exact fzL_strs _ | exact fz_ints _ | exact fz_strs _) (by first | assumption | rfl | exact fzL_ints _ | exact fzL_strs _ | exact fz_ints _ | exact fz_strs _))) ?_; conv => whnf) | (refine And.intro (by first | exact Or.inl (by decide) | exact Or.inr (by decide)) ?_; conv => whnf) | (refine ⟨fun _ => ?_, fun z => Bool.noConfusion z⟩; conv => whnf) | (refine ⟨fun z => Bool.noConfusion z, fun _ => ?_⟩; conv => whnf) | (intro p0 z; rw [frz_lstp (by first | assumption | rfl | exact fzL_ints _ | exact fzL_strs _ | exact fz_ints _ | exact fz_strs _)] at z; subst z; conv => whnf) | (intro p0 z; rw [PV.fz_frz _ (by first | assumption | rfl | exact fzL_ints _ | exact fzL_strs _ | exact fz_ints _ | exact fz_strs _)] at z; subst z; conv => whnf))
          have hb := (h3 ls[j] (List.getElem_mem hj')).1
          refine ⟨okS_of (by omega), ?_⟩
          refine ⟨_, rfl, Nat.lt_of_le_of_lt (show _ ≤ 100 by simp; omega) (by rw [sizeLine_eq]; decide), ?_, rfl⟩
          rw [← take_map_step (f := lenI) hj', List.map_append]
          rfl
      · have hout : s ∉ ls := of_decide_eq_false hk2
        (conv => whnf); repeat (first | (refine ⟨_, rfl, (by first | assumption | rfl | exact fzL_ints _ | exact fzL_strs _ | exact fz_ints _ | exact fz_strs _), ?_⟩; conv => whnf) | (refine ⟨_, rfl, ?_⟩; conv => whnf) | (refine And.intro rfl ?_; conv => whnf) | (refine And.intro (by first | assumption | decide | omega) ?_; conv => whnf) | (refine And.intro (by first | assumption | rfl | exact fzL_ints _ | exact fzL_strs _ | exact fz_ints _ | exact fz_strs _) ?_; conv => whnf) | (refine And.intro (And.intro (by first | assumption | decide | omega) (by first | assumption | decide | omega)) ?_; conv => whnf) | (refine And.intro (And.intro (And.intro (by first | assumption | decide | omega) (by first | assumption | decide | omega)) (And.intro (by first | assumption | decide | omega) (by first | assumption | decide | omega))) ?_; conv => whnf) | (refine And.intro (And.intro (by first | assumption | rfl | exact fzL_ints _ | exact fzL_strs _ | exact fz_ints _ | exact fz_strs _) (And.intro (by first | assumption | rfl | exact fzL_ints _ | exact fzL_strs _ | exact fz_ints _ | exact fz_strs _) (by first | assumption | rfl | exact fzL_ints _ | exact fzL_strs _ | exact fz_ints _ | exact fz_strs _))) ?_; conv => whnf) | (refine And.intro (by first | exact Or.inl (by decide) | exact Or.inr (by decide)) ?_; conv => whnf) | (refine ⟨fun _ => ?_, fun z => Bool.noConfusion z⟩; conv => whnf) | (refine ⟨fun z => Bool.noConfusion z, fun _ => ?_⟩; conv => whnf) | (intro p0 z; rw [frz_lstp (by first | assumption | rfl | exact fzL_ints _ | exact fzL_strs _ | exact fz_ints _ | exact fz_strs _)] at z; subst z; conv => whnf) | (intro p0 z; rw [PV.fz_frz _ (by first | assumption | rfl | exact fzL_ints _ | exact fzL_strs _ | exact fz_ints _ | exact fz_strs _)] at z; subst z; conv => whnf))
        refine ⟨Nat.lt_of_le_of_lt (show _ ≤ 100 by simp; omega) (by rw [sizeLine_eq]; decide), ?_⟩
        obtain ⟨f1, f2⟩ := pool_step h2 h3 hout (hw.mono (by omega))
        exact ⟨_, _, _, ls ++ [_], _, _, by simp; omega, f1, f2, by rw [List.map_append]; rfl⟩
    · have hw : Plain m s := hs
      (conv => whnf); repeat (first | (refine ⟨_, rfl, (by first | assumption | rfl | exact fzL_ints _ | exact fzL_strs _ | exact fz_ints _ | exact fz_strs _), ?_⟩; conv => whnf) | (refine ⟨_, rfl, ?_⟩; conv => whnf) | (refine And.intro rfl ?_; conv => whnf) | (refine And.intro (by first | assumption | decide | omega) ?_; conv => whnf) | (refine And.intro (by first | assumption | rfl | exact fzL_ints _ | exact fzL_strs _ | exact fz_ints _ | exact fz_strs _) ?_; conv => whnf) | (refine And.intro (And.intro (by first | assumption | decide | omega) (by first | assumption | decide | omega)) ?_; conv => whnf) | (refine And.intro (And.intro (And.intro (by first | assumption | decide | omega) (by first | assumption | decide | omega)) (And.intro (by first | assumption | decide | omega) (by first | assumption | decide | omega))) ?_; conv => whnf) | (refine And.intro (And.intro (by first | assumption | rfl | exact fzL_ints _ | exact fzL_strs _ | exact fz_ints _ | exact fz_strs _) (And.intro (by first | assumption | rfl | exact fzL_ints _ | exact fzL_strs _ | exact fz_ints _ | exact fz_strs _) (by first | assumption | rfl | exact fzL_ints _ | exact fzL_strs _ | exact fz_ints _ | exact fz_strs _))) ?_; conv => whnf) | (refine And.intro (by first | exact Or.inl (by decide) | exact Or.inr (by decide)) ?_; conv => whnf) | (refine ⟨fun _ => ?_, fun z => Bool.noConfusion z⟩; conv => whnf) | (refine ⟨fun z => Bool.noConfusion z, fun _ => ?_⟩; conv => whnf) | (intro p0 z; rw [frz_lstp (by first | assumption | rfl | exact fzL_ints _ | exact fzL_strs _ | exact fz_ints _ | exact fz_strs _)] at z; subst z; conv => whnf) | (intro p0 z; rw [PV.fz_frz _ (by first | assumption | rfl | exact fzL_ints _ | exact fzL_strs _ | exact fz_ints _ | exact fz_strs _)] at z; subst z; conv => whnf))
      refine draw_ok hD hc (by decide) (lg (by decide) (by decide)) fun d2 i3 r3 k3 he0 he1 => ?_
      (conv => whnf); repeat (first | (refine ⟨_, rfl, (by first | assumption | rfl | exact fzL_ints _ | exact fzL_strs _ | exact fz_ints _ | exact fz_strs _), ?_⟩; conv => whnf) | (refine ⟨_, rfl, ?_⟩; conv => whnf) | (refine And.intro rfl ?_; conv => whnf) | (refine And.intro (by first | assumption | decide | omega) ?_; conv => whnf) | (refine And.intro (by first | assumption | rfl | exact fzL_ints _ | exact fzL_strs _ | exact fz_ints _ | exact fz_strs _) ?_; conv => whnf) | (refine And.intro (And.intro (by first | assumption | decide | omega) (by first | assumption | decide | omega)) ?_; conv => whnf) | (refine And.intro (And.intro (And.intro (by first | assumption | decide | omega) (by first | assumption | decide | omega)) (And.intro (by first | assumption | decide | omega) (by first | assumption | decide | omega))) ?_; conv => whnf) | (refine And.intro (And.intro (by first | assumption | rfl | exact fzL_ints _ | exact fzL_strs _ | exact fz_ints _ | exact fz_strs _) (And.intro (by first | assumption | rfl | exact fzL_ints _ | exact fzL_strs _ | exact fz_ints _ | exact fz_strs _) (by first | assumption | rfl | exact fzL_ints _ | exact fzL_strs _ | exact fz_ints _ | exact fz_strs _))) ?_; conv => whnf) | (refine And.intro (by first | exact Or.inl (by decide) | exact Or.inr (by decide)) ?_; conv => whnf) | (refine ⟨fun _ => ?_, fun z => Bool.noConfusion z⟩; conv => whnf) | (refine ⟨fun z => Bool.noConfusion z, fun _ => ?_⟩; conv => whnf) | (intro p0 z; rw [frz_lstp (by first | assumption | rfl | exact fzL_ints _ | exact fzL_strs _ | exact fz_ints _ | exact fz_strs _)] at z; subst z; conv => whnf) | (intro p0 z; rw [PV.fz_frz _ (by first | assumption | rfl | exact fzL_ints _ | exact fzL_strs _ | exact fz_ints _ | exact fz_strs _)] at z; subst z; conv => whnf))
      obtain ⟨hf1, hf2⟩ := other_fit he0 he1
      have hw2 := other_plain he0 he1
      refine ⟨hf2, ?_⟩
      (conv => whnf); repeat (first | (refine ⟨_, rfl, (by first | assumption | rfl | exact fzL_ints _ | exact fzL_strs _ | exact fz_ints _ | exact fz_strs _), ?_⟩; conv => whnf) | (refine ⟨_, rfl, ?_⟩; conv => whnf) | (refine And.intro rfl ?_; conv => whnf) | (refine And.intro (by first | assumption | decide | omega) ?_; conv => whnf) | (refine And.intro (by first | assumption | rfl | exact fzL_ints _ | exact fzL_strs _ | exact fz_ints _ | exact fz_strs _) ?_; conv => whnf) | (refine And.intro (And.intro (by first | assumption | decide | omega) (by first | assumption | decide | omega)) ?_; conv => whnf) | (refine And.intro (And.intro (And.intro (by first | assumption | decide | omega) (by first | assumption | decide | omega)) (And.intro (by first | assumption | decide | omega) (by first | assumption | decide | omega))) ?_; conv => whnf) | (refine And.intro (And.intro (by first | assumption | rfl | exact fzL_ints _ | exact fzL_strs _ | exact fz_ints _ | exact fz_strs _) (And.intro (by first | assumption | rfl | exact fzL_ints _ | exact fzL_strs _ | exact fz_ints _ | exact fz_strs _) (by first | assumption | rfl | exact fzL_ints _ | exact fzL_strs _ | exact fz_ints _ | exact fz_strs _))) ?_; conv => whnf) | (refine And.intro (by first | exact Or.inl (by decide) | exact Or.inr (by decide)) ?_; conv => whnf) | (refine ⟨fun _ => ?_, fun z => Bool.noConfusion z⟩; conv => whnf) | (refine ⟨fun z => Bool.noConfusion z, fun _ => ?_⟩; conv => whnf) | (intro p0 z; rw [frz_lstp (by first | assumption | rfl | exact fzL_ints _ | exact fzL_strs _ | exact fz_ints _ | exact fz_strs _)] at z; subst z; conv => whnf) | (intro p0 z; rw [PV.fz_frz _ (by first | assumption | rfl | exact fzL_ints _ | exact fzL_strs _ | exact fz_ints _ | exact fz_strs _)] at z; subst z; conv => whnf))
      generalize hs2 : ("other " : Str) ++ ((toString (1 + d2) : String) : Str) = s2 at hw2
      have hw : Plain m s2 := hw2.mono (by omega)
      refine ⟨_, n_in, ?_⟩
      (conv => whnf); repeat (first | (refine ⟨_, rfl, (by first | assumption | rfl | exact fzL_ints _ | exact fzL_strs _ | exact fz_ints _ | exact fz_strs _), ?_⟩; conv => whnf) | (refine ⟨_, rfl, ?_⟩; conv => whnf) | (refine And.intro rfl ?_; conv => whnf) | (refine And.intro (by first | assumption | decide | omega) ?_; conv => whnf) | (refine And.intro (by first | assumption | rfl | exact fzL_ints _ | exact fzL_strs _ | exact fz_ints _ | exact fz_strs _) ?_; conv => whnf) | (refine And.intro (And.intro (by first | assumption | decide | omega) (by first | assumption | decide | omega)) ?_; conv => whnf) | (refine And.intro (And.intro (And.intro (by first | assumption | decide | omega) (by first | assumption | decide | omega)) (And.intro (by first | assumption | decide | omega) (by first | assumption | decide | omega))) ?_; conv => whnf) | (refine And.intro (And.intro (by first | assumption | rfl | exact fzL_ints _ | exact fzL_strs _ | exact fz_ints _ | exact fz_strs _) (And.intro (by first | assumption | rfl | exact fzL_ints _ | exact fzL_strs _ | exact fz_ints _ | exact fz_strs _) (by first | assumption | rfl | exact fzL_ints _ | exact fzL_strs _ | exact fz_ints _ | exact fz_strs _))) ?_; conv => whnf) | (refine And.intro (by first | exact Or.inl (by decide) | exact Or.inr (by decide)) ?_; conv => whnf) | (refine ⟨fun _ => ?_, fun z => Bool.noConfusion z⟩; conv => whnf) | (refine ⟨fun z => Bool.noConfusion z, fun _ => ?_⟩; conv => whnf) | (intro p0 z; rw [frz_lstp (by first | assumption | rfl | exact fzL_ints _ | exact fzL_strs _ | exact fz_ints _ | exact fz_strs _)] at z; subst z; conv => whnf) | (intro p0 z; rw [PV.fz_frz _ (by first | assumption | rfl | exact fzL_ints _ | exact fzL_strs _ | exact fz_ints _ | exact fz_strs _)] at z; subst z; conv => whnf))
      refine ⟨fun hk2 => ?_, fun hk2 => ?_⟩
      · have hin : s2 ∈ ls := of_decide_eq_true hk2
        obtain ⟨l0, l1, el⟩ : ∃ l0 l1, ls = l0 :: l1 := by
          cases ls with
          | nil => cases hin
          | cons a b => exact ⟨a, b, rfl⟩
        obtain ⟨⟨z0, z1⟩, z2, z3⟩ := z_new el h3 (by omega)
        (conv => whnf); repeat (first | (refine ⟨_, rfl, (by first | assumption | rfl | exact fzL_ints _ | exact fzL_strs _ | exact fz_ints _ | exact fz_strs _), ?_⟩; conv => whnf) | (refine ⟨_, rfl, ?_⟩; conv => whnf) | (refine And.intro rfl ?_; conv => whnf) | (refine And.intro (by first | assumption | decide | omega) ?_; conv => whnf) | (refine And.intro (by first | assumption | rfl | exact fzL_ints _ | exact fzL_strs _ | exact fz_ints _ | exact fz_strs _) ?_; conv => whnf) | (refine And.intro (And.intro (by first | assumption | decide | omega) (by first | assumption | decide | omega)) ?_; conv => whnf) | (refine And.intro (And.intro (And.intro (by first | assumption | decide | omega) (by first | assumption | decide | omega)) (And.intro (by first | assumption | decide | omega) (by first | assumption | decide | omega))) ?_; conv => whnf) | (refine And.intro (And.intro (by first | assumption | rfl | exact fzL_ints _ | exact fzL_strs _ | exact fz_ints _ | exact fz_strs _) (And.intro (by first | assumption | rfl | exact fzL_ints _ | exact fzL_strs _ | exact fz_ints _ | exact fz_strs _) (by first | assumption | rfl | exact fzL_ints _ | exact fzL_strs _ | exact fz_ints _ | exact fz_strs _))) ?_; conv => whnf) | (refine And.intro (by first | exact Or.inl (by decide) | exact Or.inr (by decide)) ?_; conv => whnf) | (refine ⟨fun _ => ?_, fun z => Bool.noConfusion z⟩; conv => whnf) | (refine ⟨fun z => Bool.noConfusion z, fun _ => ?_⟩; conv => whnf) | (intro p0 z; rw [frz_lstp (by first | assumption | rfl | exact fzL_ints _ | exact fzL_strs _ | exact fz_ints _ | exact fz_strs _)] at z; subst z; conv => whnf) | (intro p0 z; rw [PV.fz_frz _ (by first | assumption | rfl | exact fzL_ints _ | exact fzL_strs _ | exact fz_ints _ | exact fz_strs _)] at z; subst z; conv => whnf))
        refine zKv_in rfl (fun j acc ρ => acc = ((ls.take j).map lenI).map .int ∧ ρ = [some (potP cs i3 r3 k3), some (.int c), some (.int m), some (.lst true (ls.map .str)), some x, some (.str s2), none]) ?_ ?_ ?_
        · exact ⟨rfl, rfl⟩
        · rintro ys _ ⟨rfl, rfl⟩
          refine ⟨by simp [vwLen, Fr.at], ?_⟩
          (conv => whnf); repeat (first | (refine ⟨_, rfl, (by first | assumption | rfl | exact fzL_ints _ | exact fzL_strs _ | exact fz_ints _ | exact fz_strs _), ?_⟩; conv => whnf) | (refine ⟨_, rfl, ?_⟩; conv => whnf) | (refine And.intro rfl ?_; conv => whnf) | (refine And.intro (by first | assumption | decide | omega) ?_; conv => whnf) | (refine And.intro (by first | assumption | rfl | exact fzL_ints _ | exact fzL_strs _ | exact fz_ints _ | exact fz_strs _) ?_; conv => whnf) | (refine And.intro (And.intro (by first | assumption | decide | omega) (by first | assumption | decide | omega)) ?_; conv => whnf) | (refine And.intro (And.intro (And.intro (by first | assumption | decide | omega) (by first | assumption | decide | omega)) (And.intro (by first | assumption | decide | omega) (by first | assumption | decide | omega))) ?_; conv => whnf) | (refine And.intro (And.intro (by first | assumption | rfl | exact fzL_ints _ | exact fzL_strs _ | exact fz_ints _ | exact fz_strs _) (And.intro (by first | assumption | rfl | exact fzL_ints _ | exact fzL_strs _ | exact fz_ints _ | exact fz_strs _) (by first | assumption | rfl | exact fzL_ints _ | exact fzL_strs _ | exact fz_ints _ | exact fz_strs _))) ?_; conv => whnf) | (refine And.intro (by first | exact Or.inl (by decide) | exact Or.inr (by decide)) ?_; conv => whnf) | (refine ⟨fun _ => ?_, fun z => Bool.noConfusion z⟩; conv => whnf) | (refine ⟨fun z => Bool.noConfusion z, fun _ => ?_⟩; conv => whnf) | (intro p0 z; rw [frz_lstp (by first | assumption | rfl | exact fzL_ints _ | exact fzL_strs _ | exact fz_ints _ | exact fz_strs _)] at z; subst z; conv => whnf) | (intro p0 z; rw [PV.fz_frz _ (by first | assumption | rfl | exact fzL_ints _ | exact fzL_strs _ | exact fz_ints _ | exact fz_strs _)] at z; subst z; conv => whnf))
          have et : List.take (List.map PV.str ls).length ls = l0 :: l1 := by rw [List.length_map, List.take_length, el]
          rw [et]
          refine ⟨_, n_max, ?_⟩
          (conv => whnf); repeat (first | (refine ⟨_, rfl, (by first | assumption | rfl | exact fzL_ints _ | exact fzL_strs _ | exact fz_ints _ | exact fz_strs _), ?_⟩; conv => whnf) | (refine ⟨_, rfl, ?_⟩; conv => whnf) | (refine And.intro rfl ?_; conv => whnf) | (refine And.intro (by first | assumption | decide | omega) ?_; conv => whnf) | (refine And.intro (by first | assumption | rfl | exact fzL_ints _ | exact fzL_strs _ | exact fz_ints _ | exact fz_strs _) ?_; conv => whnf) | (refine And.intro (And.intro (by first | assumption | decide | omega) (by first | assumption | decide | omega)) ?_; conv => whnf) | (refine And.intro (And.intro (And.intro (by first | assumption | decide | omega) (by first | assumption | decide | omega)) (And.intro (by first | assumption | decide | omega) (by first | assumption | decide | omega))) ?_; conv => whnf) | (refine And.intro (And.intro (by first | assumption | rfl | exact fzL_ints _ | exact fzL_strs _ | exact fz_ints _ | exact fz_strs _) (And.intro (by first | assumption | rfl | exact fzL_ints _ | exact fzL_strs _ | exact fz_ints _ | exact fz_strs _) (by first | assumption | rfl | exact fzL_ints _ | exact fzL_strs _ | exact fz_ints _ | exact fz_strs _))) ?_; conv => whnf) | (refine And.intro (by first | exact Or.inl (by decide) | exact Or.inr (by decide)) ?_; conv => whnf) | (refine ⟨fun _ => ?_, fun z => Bool.noConfusion z⟩; conv => whnf) | (refine ⟨fun z => Bool.noConfusion z, fun _ => ?_⟩; conv => whnf) | (intro p0 z; rw [frz_lstp (by first | assumption | rfl | exact fzL_ints _ | exact fzL_strs _ | exact fz_ints _ | exact fz_strs _)] at z; subst z; conv => whnf) | (intro p0 z; rw [PV.fz_frz _ (by first | assumption | rfl | exact fzL_ints _ | exact fzL_strs _ | exact fz_ints _ | exact fz_strs _)] at z; subst z; conv => whnf))
          refine ⟨_, n_mul_z (by omega) (by omega), ?_⟩
          (conv => whnf); repeat (first | (refine ⟨_, rfl, (by first | assumption | rfl | exact fzL_ints _ | exact fzL_strs _ | exact fz_ints _ | exact fz_strs _), ?_⟩; conv => whnf) | (refine ⟨_, rfl, ?_⟩; conv => whnf) | (refine And.intro rfl ?_; conv => whnf) | (refine And.intro (by first | assumption | decide | omega) ?_; conv => whnf) | (refine And.intro (by first | assumption | rfl | exact fzL_ints _ | exact fzL_strs _ | exact fz_ints _ | exact fz_strs _) ?_; conv => whnf) | (refine And.intro (And.intro (by first | assumption | decide | omega) (by first | assumption | decide | omega)) ?_; conv => whnf) | (refine And.intro (And.intro (And.intro (by first | assumption | decide | omega) (by first | assumption | decide | omega)) (And.intro (by first | assumption | decide | omega) (by first | assumption | decide | omega))) ?_; conv => whnf) | (refine And.intro (And.intro (by first | assumption | rfl | exact fzL_ints _ | exact fzL_strs _ | exact fz_ints _ | exact fz_strs _) (And.intro (by first | assumption | rfl | exact fzL_ints _ | exact fzL_strs _ | exact fz_ints _ | exact fz_strs _) (by first | assumption | rfl | exact fzL_ints _ | exact fzL_strs _ | exact fz_ints _ | exact fz_strs _))) ?_; conv => whnf) | (refine And.intro (by first | exact Or.inl (by decide) | exact Or.inr (by decide)) ?_; conv => whnf) | (refine ⟨fun _ => ?_, fun z => Bool.noConfusion z⟩; conv => whnf) | (refine ⟨fun z => Bool.noConfusion z, fun _ => ?_⟩; conv => whnf) | (intro p0 z; rw [frz_lstp (by first | assumption | rfl | exact fzL_ints _ | exact fzL_strs _ | exact fz_ints _ | exact fz_strs _)] at z; subst z; conv => whnf) | (intro p0 z; rw [PV.fz_frz _ (by first | assumption | rfl | exact fzL_ints _ | exact fzL_strs _ | exact fz_ints _ | exact fz_strs _)] at z; subst z; conv => whnf))
          refine ⟨Nat.lt_of_le_of_lt (show _ ≤ 100 by simp; omega) (by rw [sizeLine_eq]; decide), ?_⟩
          obtain ⟨f1, f2⟩ := pool_step h2 h3 z2 z3
          exact ⟨_, _, _, ls ++ [_], _, _, by simp; omega, f1, f2, by rw [List.map_append]; rfl⟩
        · rintro j acc _ hj ⟨rfl, rfl⟩
          have hj' : j < ls.length := by simpa using hj
          refine ⟨.str ls[j], _, by simp [vwAt, Fr.at, PV.fz, hj'], rfl, ?_⟩
          (conv => whnf); repeat (first | (refine ⟨_, rfl, (by first | assumption | rfl | exact fzL_ints _ | exact fzL_strs _ | exact fz_ints _ | exact fz_strs _), ?_⟩; conv => whnf) | (refine ⟨_, rfl, ?_⟩; conv => whnf) | (refine And.intro rfl ?_; conv => whnf) | (refine And.intro (by first | assumption | decide | omega) ?_; conv => whnf) | (refine And.intro (by first | assumption | rfl | exact fzL_ints _ | exact fzL_strs _ | exact fz_ints _ | exact fz_strs _) ?_; conv => whnf) | (refine And.intro (And.intro (by first | assumption | decide | omega) (by first | assumption | decide | omega)) ?_; conv => whnf) | (refine And.intro (And.intro (And.intro (by first | assumption | decide | omega) (by first | assumption | decide | omega)) (And.intro (by first | assumption | decide | omega) (by first | assumption | decide | omega))) ?_; conv => whnf) | (refine And.intro (And.intro (by first | assumption | rfl | exact fzL_ints _ | exact fzL_strs _ | exact fz_ints _ | exact fz_strs _) (And.intro (by first | assumption | rfl | exact fzL_ints _ | exact fzL_strs _ | exact fz_ints _ | exact fz_strs _) (by first | assumption | rfl | exact fzL_ints _ | exact fzL_strs _ | exact fz_ints _ | exact fz_strs _))) ?_; conv => whnf) | (refine And.intro (by first | exact Or.inl (by decide) | exact Or.inr (by decide)) ?_; conv => whnf) | (refine ⟨fun _ => ?_, fun z => Bool.noConfusion z⟩; conv => whnf) | (refine ⟨fun z => Bool.noConfusion z, fun _ => ?_⟩; conv => whnf) | (intro p0 z; rw [frz_lstp (by first | assumption | rfl | exact fzL_ints _ | exact fzL_strs _ | exact fz_ints _ | exact fz_strs _)] at z; subst z; conv => whnf) | (intro p0 z; rw [PV.fz_frz _ (by first | assumption | rfl | exact fzL_ints _ | exact fzL_strs _ | exact fz_ints _ | exact fz_strs _)] at z; subst z; conv => whnf))
          have hb := (h3 ls[j] (List.getElem_mem hj')).1
          refine ⟨okS_of (by omega), ?_⟩
          refine ⟨_, rfl, Nat.lt_of_le_of_lt (show _ ≤ 100 by simp; omega) (by rw [sizeLine_eq]; decide), ?_, rfl⟩
          rw [← take_map_step (f := lenI) hj', List.map_append]
          rfl
      · have hout : s2 ∉ ls := of_decide_eq_false hk2
        (conv => whnf); repeat (first | (refine ⟨_, rfl, (by first | assumption | rfl | exact fzL_ints _ | exact fzL_strs _ | exact fz_ints _ | exact fz_strs _), ?_⟩; conv => whnf) | (refine ⟨_, rfl, ?_⟩; conv => whnf) | (refine And.intro rfl ?_; conv => whnf) | (refine And.intro (by first | assumption | decide | omega) ?_; conv => whnf) | (refine And.intro (by first | assumption | rfl | exact fzL_ints _ | exact fzL_strs _ | exact fz_ints _ | exact fz_strs _) ?_; conv => whnf) | (refine And.intro (And.intro (by first | assumption | decide | omega) (by first | assumption | decide | omega)) ?_; conv => whnf) | (refine And.intro (And.intro (And.intro (by first | assumption | decide | omega) (by first | assumption | decide | omega)) (And.intro (by first | assumption | decide | omega) (by first | assumption | decide | omega))) ?_; conv => whnf) | (refine And.intro (And.intro (by first | assumption | rfl | exact fzL_ints _ | exact fzL_strs _ | exact fz_ints _ | exact fz_strs _) (And.intro (by first | assumption | rfl | exact fzL_ints _ | exact fzL_strs _ | exact fz_ints _ | exact fz_strs _) (by first | assumption | rfl | exact fzL_ints _ | exact fzL_strs _ | exact fz_ints _ | exact fz_strs _))) ?_; conv => whnf) | (refine And.intro (by first | exact Or.inl (by decide) | exact Or.inr (by decide)) ?_; conv => whnf) | (refine ⟨fun _ => ?_, fun z => Bool.noConfusion z⟩; conv => whnf) | (refine ⟨fun z => Bool.noConfusion z, fun _ => ?_⟩; conv => whnf) | (intro p0 z; rw [frz_lstp (by first | assumption | rfl | exact fzL_ints _ | exact fzL_strs _ | exact fz_ints _ | exact fz_strs _)] at z; subst z; conv => whnf) | (intro p0 z; rw [PV.fz_frz _ (by first | assumption | rfl | exact fzL_ints _ | exact fzL_strs _ | exact fz_ints _ | exact fz_strs _)] at z; subst z; conv => whnf))
        refine ⟨Nat.lt_of_le_of_lt (show _ ≤ 100 by simp; omega) (by rw [sizeLine_eq]; decide), ?_⟩
        obtain ⟨f1, f2⟩ := pool_step h2 h3 hout (hw.mono (by omega))
        exact ⟨_, _, _, ls ++ [_], _, _, by simp; omega, f1, f2, by rw [List.map_append]; rfl⟩
/-! a file of a pool's lines -/
def fileB : List IS := [
  .set 3 (.call "_law_draw" [true, true] [.loc 0, .op (.bin .Add) [.loc 2, .cst (.int 1)]]),
  .ret (.comp (.op .ix [.loc 1, .call "_law_draw" [true, true] [.loc 0, .op .len [.loc 1]]]) (.nm 4) (.rng [.loc 3]) [] [4])]
theorem atI_str {ls : List Str} {j : Int} (h0 : 0 ≤ j) (h1 : j < ls.length) : ∃ s ∈ ls, L2.atI (ls.map PV.str) j = some (.str s) := by
  have h2 : j.toNat < ls.length := by omega
  refine ⟨ls[j.toNat], List.getElem_mem h2, ?_⟩
  have := atI_map (f := PV.str) h2
  rwa [show ((j.toNat : Nat) : Int) = j from by omega] at this
/-- the list of the lines may stand alone or not: b -/
theorem file_ok {T : Tb} {fuel n : Nat} (hD : T ("_law_draw" : Str) = some ⟨5, 2, [true, true], drawB⟩) (hT : T ("_law_file" : Str) = some ⟨5, 3, [true, true, true], fileB⟩)
    {cs : List Int} {i r k m : Int} {b : Bool} {ls : List Str} (hc : cs ≠ []) (hl : ls ≠ []) (hl2 : ls.length ≤ 1000) (hm : 0 ≤ m) (hm2 : m ≤ 1000) {Q : PV → Fr → Prop} {E : PX → Fr → Prop}
    (h : ∀ (fs : List Str) i' r' k', (fs.length : Int) ≤ m → (∀ s ∈ fs, s ∈ ls) → Q (.lst true (fs.map .str)) [some (potP cs i' r' k'), some (.lst b (ls.map .str)), some (.int m)]) : zC (callN T fuel (n + 2)) ("_law_file" : Str) [potP cs i r k, .lst b (ls.map .str), .int m] Q E := by
  have hlen : 0 < ls.length := List.length_pos_iff.mpr hl
  refine run_ok hT rfl ?_
  (conv => whnf); repeat (first | (refine ⟨_, rfl, (by first | assumption | rfl | exact fzL_ints _ | exact fzL_strs _ | exact fz_ints _ | exact fz_strs _), ?_⟩; conv => whnf) | (refine ⟨_, rfl, ?_⟩; conv => whnf) | (refine And.intro rfl ?_; conv => whnf) | (refine And.intro (by first | assumption | decide | omega) ?_; conv => whnf) | (refine And.intro (by first | assumption | rfl | exact fzL_ints _ | exact fzL_strs _ | exact fz_ints _ | exact fz_strs _) ?_; conv => whnf) | (refine And.intro (And.intro (by first | assumption | decide | omega) (by first | assumption | decide | omega)) ?_; conv => whnf) | (refine And.intro (And.intro (And.intro (by first | assumption | decide | omega) (by first | assumption | decide | omega)) (And.intro (by first | assumption | decide | omega) (by first | assumption | decide | omega))) ?_; conv => whnf) | (refine And.intro (And.intro (by first | assumption | rfl | exact fzL_ints _ | exact fzL_strs _ | exact fz_ints _ | exact fz_strs _) (And.intro (by first | assumption | rfl | exact fzL_ints _ | exact fzL_strs _ | exact fz_ints _ | exact fz_strs _) (by first | assumption | rfl | exact fzL_ints _ | exact fzL_strs _ | exact fz_ints _ | exact fz_strs _))) ?_; conv => whnf) | (refine And.intro (by first | exact Or.inl (by decide) | exact Or.inr (by decide)) ?_; conv => whnf) | (refine ⟨fun _ => ?_, fun z => Bool.noConfusion z⟩; conv => whnf) | (refine ⟨fun z => Bool.noConfusion z, fun _ => ?_⟩; conv => whnf) | (intro p0 z; rw [frz_lstp (by first | assumption | rfl | exact fzL_ints _ | exact fzL_strs _ | exact fz_ints _ | exact fz_strs _)] at z; subst z; conv => whnf) | (intro p0 z; rw [PV.fz_frz _ (by first | assumption | rfl | exact fzL_ints _ | exact fzL_strs _ | exact fz_ints _ | exact fz_strs _)] at z; subst z; conv => whnf))
  refine draw_ok hD hc (by omega) (lg (by omega) (by omega)) fun d i1 r1 k1 hd0 hd1 => ?_
  (conv => whnf); repeat (first | (refine ⟨_, rfl, (by first | assumption | rfl | exact fzL_ints _ | exact fzL_strs _ | exact fz_ints _ | exact fz_strs _), ?_⟩; conv => whnf) | (refine ⟨_, rfl, ?_⟩; conv => whnf) | (refine And.intro rfl ?_; conv => whnf) | (refine And.intro (by first | assumption | decide | omega) ?_; conv => whnf) | (refine And.intro (by first | assumption | rfl | exact fzL_ints _ | exact fzL_strs _ | exact fz_ints _ | exact fz_strs _) ?_; conv => whnf) | (refine And.intro (And.intro (by first | assumption | decide | omega) (by first | assumption | decide | omega)) ?_; conv => whnf) | (refine And.intro (And.intro (And.intro (by first | assumption | decide | omega) (by first | assumption | decide | omega)) (And.intro (by first | assumption | decide | omega) (by first | assumption | decide | omega))) ?_; conv => whnf) | (refine And.intro (And.intro (by first | assumption | rfl | exact fzL_ints _ | exact fzL_strs _ | exact fz_ints _ | exact fz_strs _) (And.intro (by first | assumption | rfl | exact fzL_ints _ | exact fzL_strs _ | exact fz_ints _ | exact fz_strs _) (by first | assumption | rfl | exact fzL_ints _ | exact fzL_strs _ | exact fz_ints _ | exact fz_strs _))) ?_; conv => whnf) | (refine And.intro (by first | exact Or.inl (by decide) | exact Or.inr (by decide)) ?_; conv => whnf) | (refine ⟨fun _ => ?_, fun z => Bool.noConfusion z⟩; conv => whnf) | (refine ⟨fun z => Bool.noConfusion z, fun _ => ?_⟩; conv => whnf) | (intro p0 z; rw [frz_lstp (by first | assumption | rfl | exact fzL_ints _ | exact fzL_strs _ | exact fz_ints _ | exact fz_strs _)] at z; subst z; conv => whnf) | (intro p0 z; rw [PV.fz_frz _ (by first | assumption | rfl | exact fzL_ints _ | exact fzL_strs _ | exact fz_ints _ | exact fz_strs _)] at z; subst z; conv => whnf))
  refine zK_in (fun rest acc ρ => ∃ (i2 r2 k2 : Int) (fs : List Str), acc = fs.map .str ∧ fs.length + rest.length = d.toNat ∧ (∀ s ∈ fs, s ∈ ls) ∧ ρ = [some (potP cs i2 r2 k2), some (.lst b (ls.map .str)), some (.int m), some (.int d), none]) ?_ ?_ ?_
  · exact ⟨_, _, _, [], rfl, by simp [rng_len], by simp, rfl⟩
  · rintro _ _ ⟨i2, r2, k2, fs, rfl, h1, h2, rfl⟩
    (conv => whnf); repeat (first | (refine ⟨_, rfl, (by first | assumption | rfl | exact fzL_ints _ | exact fzL_strs _ | exact fz_ints _ | exact fz_strs _), ?_⟩; conv => whnf) | (refine ⟨_, rfl, ?_⟩; conv => whnf) | (refine And.intro rfl ?_; conv => whnf) | (refine And.intro (by first | assumption | decide | omega) ?_; conv => whnf) | (refine And.intro (by first | assumption | rfl | exact fzL_ints _ | exact fzL_strs _ | exact fz_ints _ | exact fz_strs _) ?_; conv => whnf) | (refine And.intro (And.intro (by first | assumption | decide | omega) (by first | assumption | decide | omega)) ?_; conv => whnf) | (refine And.intro (And.intro (And.intro (by first | assumption | decide | omega) (by first | assumption | decide | omega)) (And.intro (by first | assumption | decide | omega) (by first | assumption | decide | omega))) ?_; conv => whnf) | (refine And.intro (And.intro (by first | assumption | rfl | exact fzL_ints _ | exact fzL_strs _ | exact fz_ints _ | exact fz_strs _) (And.intro (by first | assumption | rfl | exact fzL_ints _ | exact fzL_strs _ | exact fz_ints _ | exact fz_strs _) (by first | assumption | rfl | exact fzL_ints _ | exact fzL_strs _ | exact fz_ints _ | exact fz_strs _))) ?_; conv => whnf) | (refine And.intro (by first | exact Or.inl (by decide) | exact Or.inr (by decide)) ?_; conv => whnf) | (refine ⟨fun _ => ?_, fun z => Bool.noConfusion z⟩; conv => whnf) | (refine ⟨fun z => Bool.noConfusion z, fun _ => ?_⟩; conv => whnf) | (intro p0 z; rw [frz_lstp (by first | assumption | rfl | exact fzL_ints _ | exact fzL_strs _ | exact fz_ints _ | exact fz_strs _)] at z; subst z; conv => whnf) | (intro p0 z; rw [PV.fz_frz _ (by first | assumption | rfl | exact fzL_ints _ | exact fzL_strs _ | exact fz_ints _ | exact fz_strs _)] at z; subst z; conv => whnf))
    refine h fs _ _ _ ?_ h2
    simp at h1
    omega
  · rintro x rest acc _ ⟨i2, r2, k2, fs, rfl, h1, h2, rfl⟩
    simp only [List.length_cons] at h1
    refine ⟨_, rfl, ?_⟩
    (conv => whnf); repeat (first | (refine ⟨_, rfl, (by first | assumption | rfl | exact fzL_ints _ | exact fzL_strs _ | exact fz_ints _ | exact fz_strs _), ?_⟩; conv => whnf) | (refine ⟨_, rfl, ?_⟩; conv => whnf) | (refine And.intro rfl ?_; conv => whnf) | (refine And.intro (by first | assumption | decide | omega) ?_; conv => whnf) | (refine And.intro (by first | assumption | rfl | exact fzL_ints _ | exact fzL_strs _ | exact fz_ints _ | exact fz_strs _) ?_; conv => whnf) | (refine And.intro (And.intro (by first | assumption | decide | omega) (by first | assumption | decide | omega)) ?_; conv => whnf) | (refine And.intro (And.intro (And.intro (by first | assumption | decide | omega) (by first | assumption | decide | omega)) (And.intro (by first | assumption | decide | omega) (by first | assumption | decide | omega))) ?_; conv => whnf) | (refine And.intro (And.intro (by first | assumption | rfl | exact fzL_ints _ | exact fzL_strs _ | exact fz_ints _ | exact fz_strs _) (And.intro (by first | assumption | rfl | exact fzL_ints _ | exact fzL_strs _ | exact fz_ints _ | exact fz_strs _) (by first | assumption | rfl | exact fzL_ints _ | exact fzL_strs _ | exact fz_ints _ | exact fz_strs _))) ?_; conv => whnf) | (refine And.intro (by first | exact Or.inl (by decide) | exact Or.inr (by decide)) ?_; conv => whnf) | (refine ⟨fun _ => ?_, fun z => Bool.noConfusion z⟩; conv => whnf) | (refine ⟨fun z => Bool.noConfusion z, fun _ => ?_⟩; conv => whnf) | (intro p0 z; rw [frz_lstp (by first | assumption | rfl | exact fzL_ints _ | exact fzL_strs _ | exact fz_ints _ | exact fz_strs _)] at z; subst z; conv => whnf) | (intro p0 z; rw [PV.fz_frz _ (by first | assumption | rfl | exact fzL_ints _ | exact fzL_strs _ | exact fz_ints _ | exact fz_strs _)] at z; subst z; conv => whnf))
    have el : (((ls.map PV.str).length : Nat) : Int) = (ls.length : Int) := by simp
    rw [el]
    refine draw_ok hD hc (by omega) (lg (by omega) (by omega)) fun j i3 r3 k3 hj0 hj1 => ?_
    (conv => whnf); repeat (first | (refine ⟨_, rfl, (by first | assumption | rfl | exact fzL_ints _ | exact fzL_strs _ | exact fz_ints _ | exact fz_strs _), ?_⟩; conv => whnf) | (refine ⟨_, rfl, ?_⟩; conv => whnf) | (refine And.intro rfl ?_; conv => whnf) | (refine And.intro (by first | assumption | decide | omega) ?_; conv => whnf) | (refine And.intro (by first | assumption | rfl | exact fzL_ints _ | exact fzL_strs _ | exact fz_ints _ | exact fz_strs _) ?_; conv => whnf) | (refine And.intro (And.intro (by first | assumption | decide | omega) (by first | assumption | decide | omega)) ?_; conv => whnf) | (refine And.intro (And.intro (And.intro (by first | assumption | decide | omega) (by first | assumption | decide | omega)) (And.intro (by first | assumption | decide | omega) (by first | assumption | decide | omega))) ?_; conv => whnf) | (refine And.intro (And.intro (by first | assumption | rfl | exact fzL_ints _ | exact fzL_strs _ | exact fz_ints _ | exact fz_strs _) (And.intro (by first | assumption | rfl | exact fzL_ints _ | exact fzL_strs _ | exact fz_ints _ | exact fz_strs _) (by first | assumption | rfl | exact fzL_ints _ | exact fzL_strs _ | exact fz_ints _ | exact fz_strs _))) ?_; conv => whnf) | (refine And.intro (by first | exact Or.inl (by decide) | exact Or.inr (by decide)) ?_; conv => whnf) | (refine ⟨fun _ => ?_, fun z => Bool.noConfusion z⟩; conv => whnf) | (refine ⟨fun z => Bool.noConfusion z, fun _ => ?_⟩; conv => whnf) | (intro p0 z; rw [frz_lstp (by first | assumption | rfl | exact fzL_ints _ | exact fzL_strs _ | exact fz_ints _ | exact fz_strs _)] at z; subst z; conv => whnf) | (intro p0 z; rw [PV.fz_frz _ (by first | assumption | rfl | exact fzL_ints _ | exact fzL_strs _ | exact fz_ints _ | exact fz_strs _)] at z; subst z; conv => whnf))
    obtain ⟨s, hs, es⟩ := atI_str hj0 hj1
    refine ⟨_, es, rfl, ?_⟩
    refine ⟨_, rfl, Nat.lt_of_le_of_lt (show _ ≤ 1001 by simp; omega) (by rw [sizeLine_eq]; decide), _, _, _, fs ++ [s], by simp [PV.frz], by simp; omega, fun t ht => ?_, rfl⟩
    rcases mem_app_one ht with h | rfl
    · exact h2 t h
    · exact hs
end Y
end
section
set_option Elab.async false
set_option linter.all false
set_option maxRecDepth 100000
set_option maxHeartbeats 2000000
set_option autoImplicit false
/-! V6: == of lists of one kind. -/
namespace Y
open PySem
theorem datL_of {α : Type} {f : α → PV} {g : α → PyData} (h : ∀ x, (f x).dat = some (g x)) : ∀ xs : List α, PV.datL (xs.map f) = some (xs.map g)
  | [] => rfl
  | x :: xs => by simp only [List.map_cons, PV.datL, h, datL_of h xs]
theorem eqvAll_of {α : Type} [DecidableEq α] {g : α → PyData} (h : ∀ x y, PyData.eqv (g x) (g y) = decide (x = y)) : ∀ xs ys : List α, PyData.eqvAll (xs.map g) (ys.map g) = decide (xs = ys)
  | [], [] => rfl
  | [], _ :: _ => rfl
  | _ :: _, [] => rfl
  | x :: a, y :: b => by
    simp only [List.map_cons, PyData.eqvAll, eqvAll_of h a b, h]
    by_cases e : x = y <;> by_cases e2 : a = b <;> simp [e, e2]
theorem depthAll_of {α : Type} {g : α → PyData} {m : Nat} (h : ∀ x, (g x).depth ≤ m) : ∀ xs : List α, PyData.depthAll (xs.map g) ≤ m
  | [] => by simp [PyData.depthAll]
  | x :: xs => by
    have h1 := h x
    have h2 := depthAll_of h xs
    simp only [List.map_cons, PyData.depthAll]
    omega
/-- data of one kind -/
structure Kd (α : Type) [DecidableEq α] where
  f : α → PV
  g : α → PyData
  m : Nat
  dat : ∀ x, (f x).dat = some (g x)
  eqv : ∀ x y, PyData.eqv (g x) (g y) = decide (x = y)
  dep : ∀ x, (g x).depth ≤ m
theorem kd_eq {α : Type} [DecidableEq α] (K : Kd α) (hm : K.m < 60) {o o2 : Bool} {xs ys : List α} : opN (.cmp .Eq) [.lst o (xs.map K.f), .lst o2 (ys.map K.f)] = some (.bl (decide (xs = ys))) := by
  show (cmpN .Eq _ _).map _ = _
  have hd := depthAll_of K.dep xs
  have h1 : (PyData.list (xs.map K.g)).depth ≤ 60 := by simp only [PyData.depth]; omega
  simp only [cmpN, cdat, PV.dat, datL_of K.dat, Option.map, decide_eq_true h1, if_true, PyData.eqv, eqvAll_of K.eqv]
theorem kd_ne {α : Type} [DecidableEq α] (K : Kd α) (hm : K.m < 60) {o o2 : Bool} {xs ys : List α} : opN (.cmp .NotEq) [.lst o (xs.map K.f), .lst o2 (ys.map K.f)] = some (.bl (!decide (xs = ys))) := by
  show (cmpN .NotEq _ _).map _ = _
  have hd := depthAll_of K.dep xs
  have h1 : (PyData.list (xs.map K.g)).depth ≤ 60 := by simp only [PyData.depth]; omega
  simp only [cmpN, cdat, PV.dat, datL_of K.dat, Option.map, decide_eq_true h1, if_true, PyData.eqv, eqvAll_of K.eqv]
def kStr : Kd Str := ⟨.str, .str, 0, fun _ => rfl, eqv_str, fun _ => by simp [PyData.depth]⟩
def kInt : Kd Int := ⟨.int, .int, 0, fun _ => rfl, eqv_int, fun _ => by simp [PyData.depth]⟩
def Kd.list {α : Type} [DecidableEq α] (K : Kd α) : Kd (List α) := ⟨fun xs => .lst false (xs.map K.f), fun xs => .list (xs.map K.g), K.m + 1, fun xs => by simp only [PV.dat, datL_of K.dat]; rfl, fun xs ys => by simp only [PyData.eqv, eqvAll_of K.eqv],
  fun xs => by have := depthAll_of K.dep xs; simp only [PyData.depth]; omega⟩
theorem n_eqS {o o2 : Bool} {xs ys : List Str} : opN (.cmp .Eq) [.lst o (xs.map .str), .lst o2 (ys.map .str)] = some (.bl (decide (xs = ys))) := kd_eq kStr (by decide)
theorem n_neS {o o2 : Bool} {xs ys : List Str} : opN (.cmp .NotEq) [.lst o (xs.map .str), .lst o2 (ys.map .str)] = some (.bl (!decide (xs = ys))) := kd_ne kStr (by decide)
theorem n_neS0 {o o2 : Bool} {xs : List Str} : opN (.cmp .NotEq) [.lst o (xs.map .str), .lst o2 []] = some (.bl (!decide (xs = []))) := kd_ne kStr (by decide) (ys := [])
/-- a file -/
abbrev fP (a : List Str) : PV := .lst false (a.map .str)
theorem n_eqF {o o2 : Bool} {xs ys : List (List Str)} : opN (.cmp .Eq) [.lst o (xs.map fP), .lst o2 (ys.map fP)] = some (.bl (decide (xs = ys))) := kd_eq kStr.list (by decide)
theorem n_neF {o o2 : Bool} {xs ys : List (List Str)} : opN (.cmp .NotEq) [.lst o (xs.map fP), .lst o2 (ys.map fP)] = some (.bl (!decide (xs = ys))) := kd_ne kStr.list (by decide)
theorem fzL_fP : ∀ xs : List (List Str), PV.fzL (xs.map fP) = true
  | [] => rfl
  | x :: xs => by simp [PV.fzL, fz_strs, fzL_fP xs]
theorem vwAt_map {α : Type} {f : α → PV} (hf : ∀ x, (f x).fz = true) {ρ : Fr} {i j : Nat} {o : Bool} {xs : List α} (e : ρ.at i = some (.lst o (xs.map f))) (hj : j < xs.length) : vwAt ρ i (xs.map f).length j = some (f xs[j]) := by
  simp only [vwAt, e, if_true]
  simp [hj, hf]
theorem vwLen_map {α : Type} {f : α → PV} {ρ : Fr} {i : Nat} {o : Bool} {xs : List α} (e : ρ.at i = some (.lst o (xs.map f))) : vwLen ρ i (xs.map f).length = true := by
  simp only [vwLen, e]
  simp
theorem cut_map {α β : Type} (f : α → β) (xs : List α) (lo hi : Option Int) : cutP (xs.map f) lo hi = (cutP xs lo hi).map f := by
  simp only [cutP, List.length_map, List.map_take, List.map_drop]
theorem cut_len {α : Type} (xs : List α) (lo hi : Option Int) : (cutP xs lo hi).length ≤ xs.length := by
  simp only [cutP, List.length_take, List.length_drop]
  omega
theorem cut_mem {α : Type} {xs : List α} {lo hi : Option Int} {x : α} (h : x ∈ cutP xs lo hi) : x ∈ xs := List.mem_of_mem_drop (List.mem_of_mem_take h)
theorem ixN_in {n : Nat} {i : Int} (h0 : 0 ≤ i) (h1 : i < n) : L2.ixN n i = some i.toNat := by
  unfold L2.ixN
  rw [if_pos h0, if_pos h1]
theorem atI_get {α β : Type} {f : α → β} {xs : List α} {j : Int} (h0 : 0 ≤ j) (h1 : j < xs.length) : ∃ (hj : j.toNat < xs.length), L2.atI (xs.map f) j = some (f xs[j.toNat]) := by
  have h2 : j.toNat < xs.length := by omega
  refine ⟨h2, ?_⟩
  have := atI_map (f := f) h2
  rwa [show ((j.toNat : Nat) : Int) = j from by omega] at this
theorem small_lt {n m : Nat} (h : n ≤ m) (hm : m ≤ 10000 := by decide) : n < sizeLine := Nat.lt_of_le_of_lt h (Nat.lt_of_le_of_lt hm (by rw [sizeLine_eq]; decide))
end Y
end
section
set_option Elab.async false
set_option linter.all false
set_option maxRecDepth 100001
namespace K02
open PySem Y L2
def top (i : Nat) : Stmt := PySem.Challenge.pw_markedblocks_k02_order_of_files.main.body.getD i (.Pass ⟨0, 0, 0, 0⟩)
def b_comes_before : List IS := [
  .ret (.dcmp .Lt (some true) [.op .len [.loc 0], .loc 0] (some true) [.op .len [.loc 1], .loc 1])]
def fd_comes_before : Fd := ⟨2, 2, [true, true], b_comes_before⟩
def en_comes_before : Ent := ⟨"comes_before", top 1, ["file", "other"], ["file", "other"], fd_comes_before⟩
def b_least_of : List IS := [
  .set 1 (.cst .non),
  .fors (.nm 2) (.it (.loc 0)) [.ife (.and (.op (.cmp .IsNot) [.loc 2, .cst .non]) (.or (.op (.cmp .Is) [.loc 1, .cst .non]) (.call "comes_before" [true, true] [.loc 2, .loc 1]))) [.set 1 (.op .list [.loc 2])] []],
  .ret (.mov 1)]
def fd_least_of : Fd := ⟨3, 1, [true], b_least_of⟩
def en_least_of : Ent := ⟨"least_of", top 2, ["files", "least", "file"], ["files"], fd_least_of⟩
def b_law_draw : List IS := [
  .sub 0 (.cst (.int 3)) (.op (.bin .Add) [.op .ix [.loc 0, .cst (.int 3)], .cst (.int 1)]),
  .ife (.op (.cmp .Eq) [.op .ix [.loc 0, .cst (.int 2)], .cst (.int 0)]) [.set 3 (.op .ix [.op .ix [.loc 0, .cst (.int 0)], .op (.bin .Mod) [.op .int [.op .ix [.loc 0, .cst (.int 1)]], .op .len [.op .ix [.loc 0, .cst (.int 0)]]]]), .sub 0 (.cst (.int 1)) (.op (.bin .Add) [.op .ix [.loc 0, .cst (.int 1)], .cst (.int 1)]), .ife (.op (.cmp .Lt) [.loc 3, .op (.bin .Pow) [.cst (.int 10), .cst (.int 18)]]) [.set 4 (.op (.bin .Mod) [.op .int [.op (.bin .Add) [.op (.bin .Add) [.op (.bin .Mult) [.loc 3, .cst (.int 48271)], .op (.bin .Mult) [.op .ix [.loc 0, .cst (.int 3)], .cst (.int 69621)]], .cst (.int 12345)]], .cst (.int 2147483629)]), .ret (.op (.bin .Mod) [.op (.bin .FloorDiv) [.op (.bin .Mod) [.op .int [.op (.bin .Add) [.op (.bin .Mult) [.loc 4, .cst (.int 16807)], .op (.bin .Mult) [.op .ix [.loc 0, .cst (.int 3)], .cst (.int 104729)]]], .cst (.int 2147483587)], .cst (.int 7)], .loc 1])] [], .sub 0 (.cst (.int 2)) (.loc 3)] [],
  .set 2 (.op (.bin .Mod) [.op .int [.op .ix [.loc 0, .cst (.int 2)]], .loc 1]),
  .sub 0 (.cst (.int 2)) (.op (.bin .FloorDiv) [.op .int [.op .ix [.loc 0, .cst (.int 2)]], .loc 1]),
  .ret (.mov 2)]
def fd_law_draw : Fd := ⟨5, 2, [true, true], b_law_draw⟩
def en_law_draw : Ent := ⟨"_law_draw", top 4, ["_law_pot_here", "_law_many", "_law_digit", "_law_cell", "_law_mixed"], ["_law_pot_here", "_law_many"], fd_law_draw⟩
def b_law_pot : List IS := [
  .ret (.lst [.op (.bin .Add) [.op .list [.loc 0], .op (.bin .Mult) [.lst [.cst (.int 0)], .op .int [.op (.cmp .Eq) [.op .len [.loc 0], .cst (.int 0)]]]], .cst (.int 0), .cst (.int 0), .cst (.int 0)])]
def fd_law_pot : Fd := ⟨1, 1, [true], b_law_pot⟩
def en_law_pot : Ent := ⟨"_law_pot", top 5, ["_law_script"], ["_law_script"], fd_law_pot⟩
def b_law_text : List IS := [
  .set 2 (.cst (.str " !\"#$&'()*+,-./0123456789:;<=>?@ABCDEFGHIJKLMNOPQRSTUVWXYZ[\\]^_`abcdefghijklmnopqrstuvwxyz{|}~")),
  .set 3 (.call "_law_draw" [true, true] [.loc 0, .op (.bin .Add) [.loc 1, .cst (.int 1)]]),
  .ret (.op .join [.cst (.str ""), .comp (.op .ix [.loc 2, .call "_law_draw" [true, true] [.loc 0, .cst (.int 94)]]) (.nm 4) (.rng [.loc 3]) [] [4]])]
def fd_law_text : Fd := ⟨5, 2, [true, true], b_law_text⟩
def en_law_text : Ent := ⟨"_law_text", top 6, ["_law_pot_here", "_law_most", "_law_signs", "_law_size", "_law_k"], ["_law_pot_here", "_law_most"], fd_law_text⟩
def b_law_pool : List IS := [
  .set 3 (.lst []),
  .fors (.nm 4) (.rng [.loc 1]) [.set 5 (.call "_law_text" [true, true] [.loc 0, .loc 2]), .ife (.op (.cmp .Eq) [.call "_law_draw" [true, true] [.loc 0, .cst (.int 9)], .cst (.int 4)]) [.set 5 (.op (.bin .Add) [.cst (.str "other "), .op .str [.op (.bin .Add) [.cst (.int 1), .call "_law_draw" [true, true] [.loc 0, .cst (.int 4)]]]])] [], .ife (.op (.cmp .In) [.loc 5, .loc 3]) [.set 5 (.op (.bin .Mult) [.cst (.str "z"), .op (.bin .Add) [.cst (.int 1), .op .max [.compv (.op .len [.loc 6]) (.nm 6) 3 [] [6]]]])] [], .app 3 (.loc 5)],
  .ret (.mov 3)]
def fd_law_pool : Fd := ⟨7, 3, [true, true, true], b_law_pool⟩
def en_law_pool : Ent := ⟨"_law_pool", top 7, ["_law_pot_here", "_law_count", "_law_most", "_law_lines", "_law_k", "_law_word", "_law_line"], ["_law_pot_here", "_law_count", "_law_most"], fd_law_pool⟩
def b_law_file : List IS := [
  .set 3 (.call "_law_draw" [true, true] [.loc 0, .op (.bin .Add) [.loc 2, .cst (.int 1)]]),
  .ret (.comp (.op .ix [.loc 1, .call "_law_draw" [true, true] [.loc 0, .op .len [.loc 1]]]) (.nm 4) (.rng [.loc 3]) [] [4])]
def fd_law_file : Fd := ⟨5, 3, [true, true, true], b_law_file⟩
def en_law_file : Ent := ⟨"_law_file", top 8, ["_law_pot_here", "_law_lines", "_law_most", "_law_size", "_law_k"], ["_law_pot_here", "_law_lines", "_law_most"], fd_law_file⟩
def b_law_is : List IS := [
  .ret (.and (.op .isi [.loc 0, .cst (.ty "bool")]) (.op (.cmp .Eq) [.loc 0, .loc 1]))]
def fd_law_is : Fd := ⟨2, 2, [true, true], b_law_is⟩
def en_law_is : Ent := ⟨"_law_is", top 9, ["_law_told", "_law_due"], ["_law_told", "_law_due"], fd_law_is⟩
def b_law_less : List IS := [
  .ife (.op (.cmp .NotEq) [.op .len [.loc 0], .op .len [.loc 1]]) [.ret (.op (.cmp .Lt) [.op .len [.loc 0], .op .len [.loc 1]])] [],
  .fors (.nm 2) (.rng [.op .len [.loc 0]]) [.ife (.op (.cmp .NotEq) [.op .ix [.loc 0, .loc 2], .op .ix [.loc 1, .loc 2]]) [.ret (.op (.cmp .Lt) [.op .ix [.loc 0, .loc 2], .op .ix [.loc 1, .loc 2]])] []],
  .ret (.cst (.bl false))]
def fd_law_less : Fd := ⟨3, 2, [true, true], b_law_less⟩
def en_law_less : Ent := ⟨"_law_less", top 10, ["_law_file_here", "_law_other", "_law_k"], ["_law_file_here", "_law_other"], fd_law_less⟩
def b_law : List IS := [
  .set 1 (.call "_law_pot" [true] [.loc 0]),
  .set 2 (.call "_law_pool" [true, true, true] [.loc 1, .op (.bin .Add) [.cst (.int 2), .call "_law_draw" [true, true] [.loc 1, .cst (.int 4)]], .cst (.int 8)]),
  .set 3 (.comp (.call "_law_file" [true, true, true] [.loc 1, .loc 2, .cst (.int 6)]) (.nm 4) (.rng [.cst (.int 3)]) [] [4]),
  .fors (.nm 4) (.rng [.cst (.int 3)]) [.set 11 (.op .list [.op .ix [.loc 3, .call "_law_draw" [true, true] [.loc 1, .cst (.int 3)]]]), .ife (.and (.op (.cmp .Eq) [.call "_law_draw" [true, true] [.loc 1, .cst (.int 2)], .cst (.int 1)]) (.op (.cmp .NotEq) [.loc 11, .lst []])) [.sub 11 (.call "_law_draw" [true, true] [.loc 1, .op .len [.loc 11]]) (.op .ix [.loc 2, .call "_law_draw" [true, true] [.loc 1, .op .len [.loc 2]]])] [.ife (.op (.cmp .Gt) [.call "_law_draw" [true, true] [.loc 1, .cst (.int 3)], .cst (.int 0)]) [.set 11 (.op (.slice false true) [.loc 11, .call "_law_draw" [true, true] [.loc 1, .op (.bin .Add) [.op .len [.loc 11], .cst (.int 1)]]])] []], .app 3 (.loc 11)],
  .set 5 (.compv (.op .list [.loc 6]) (.nm 6) 3 [] [6]),
  .forv (.nm 6) 3 [.forv (.nm 12) 3 [.ife (.op .not [.call "_law_is" [true, true] [.call "comes_before" [true, true] [.loc 6, .loc 12], .call "_law_less" [true, true] [.loc 6, .loc 12]]]) [.ret (.cst (.bl false))] []]],
  .set 7 (.lst []),
  .fors (.nm 4) (.rng [.call "_law_draw" [true, true] [.loc 1, .cst (.int 8)]]) [.set 13 (.call "_law_draw" [true, true] [.loc 1, .cst (.int 9)]), .app 7 (.ite (.op (.cmp .Gt) [.loc 13, .cst (.int 5)]) (.cst .non) (.op .ix [.loc 3, .loc 13]))],
  .set 8 (.cst .non),
  .forv (.nm 6) 7 [.ife (.and (.op (.cmp .IsNot) [.loc 6, .cst .non]) (.or (.op (.cmp .Is) [.loc 8, .cst .non]) (.call "_law_less" [true, true] [.loc 6, .loc 8]))) [.set 8 (.loc 6)] []],
  .set 9 (.op .list [.loc 7]),
  .set 10 (.call "least_of" [true] [.loc 9]),
  .ife (.or (.op (.cmp .NotEq) [.loc 10, .loc 8]) (.op (.cmp .NotEq) [.loc 9, .loc 7])) [.ret (.cst (.bl false))] [],
  .ife (.op (.cmp .IsNot) [.loc 8, .cst .non]) [.ife (.op .not [.op .isi [.loc 10, .cst (.ty "list")]]) [.ret (.cst (.bl false))] [], .app 10 (.cst (.str "x"))] [],
  .ret (.and (.op (.cmp .Eq) [.loc 3, .loc 5]) (.and (.op (.cmp .Is) [.call "least_of" [true] [.lst []], .cst .non]) (.op (.cmp .Is) [.call "least_of" [true] [.lst [.cst .non, .cst .non]], .cst .non])))]
def fd_law : Fd := ⟨14, 1, [true], b_law⟩
def en_law : Ent := ⟨"law", top 11, ["_law_script", "_law_pot_here", "_law_pool_here", "_law_files", "_law_k", "_law_held", "_law_file_here", "_law_mixed", "_law_least", "_law_handed", "_law_told", "_law_near", "_law_other", "_law_pick"], ["_law_script"], fd_law⟩
def lw : Lw := ⟨[en_comes_before, en_least_of, en_law_draw, en_law_pot, en_law_text, en_law_pool, en_law_file, en_law_is, en_law_less, en_law], [], ["bool", "int", "isinstance", "len", "list", "max", "range", "str"]⟩
theorem c_comes_before : lw.entC en_comes_before = true := by decide +kernel
theorem c_least_of : lw.entC en_least_of = true := by decide +kernel
theorem c_law_draw : lw.entC en_law_draw = true := by decide +kernel
theorem c_law_pot : lw.entC en_law_pot = true := by decide +kernel
theorem c_law_text : lw.entC en_law_text = true := by decide +kernel
theorem c_law_pool : lw.entC en_law_pool = true := by decide +kernel
theorem c_law_file : lw.entC en_law_file = true := by decide +kernel
theorem c_law_is : lw.entC en_law_is = true := by decide +kernel
theorem c_law_less : lw.entC en_law_less = true := by decide +kernel
theorem c_law : lw.entC en_law = true := by decide +kernel
theorem lwok : lw.ok := ⟨by decide +kernel, fun e he => by
  simp only [lw, List.mem_cons, List.not_mem_nil, or_false] at he
  rcases he with rfl | rfl | rfl | rfl | rfl | rfl | rfl | rfl | rfl | rfl
  · exact c_comes_before
  · exact c_least_of
  · exact c_law_draw
  · exact c_law_pot
  · exact c_law_text
  · exact c_law_pool
  · exact c_law_file
  · exact c_law_is
  · exact c_law_less
  · exact c_law
  ⟩
end K02
end
section
set_option Elab.async false
set_option linter.all false
set_option maxRecDepth 100001
set_option maxHeartbeats 2000001
set_option autoImplicit false
namespace K02
open PySem Y
theorem nd : (lw.es.map (·.key)).Nodup := lwok.1
theorem T_draw : lw.T ("_law_draw" : Str) = some ⟨5, 2, [true, true], drawB⟩ := tblOf_mem (e := en_law_draw) nd (by simp [lw])
theorem T_text : lw.T ("_law_text" : Str) = some ⟨5, 2, [true, true], textB⟩ := tblOf_mem (e := en_law_text) nd (by simp [lw])
theorem T_pot : lw.T ("_law_pot" : Str) = some ⟨1, 1, [true], potB⟩ := tblOf_mem (e := en_law_pot) nd (by simp [lw])
theorem is_ok {n : Nat} {a b : Bool} {Q : PV → Fr → Prop} {E : PX → Fr → Prop} (h : Q (.bl (decide (a = b))) [some (.bl a), some (.bl b)]) : zC (callN lw.T 100 (n + 1)) ("_law_is" : Str) [.bl a, .bl b] Q E := by
  refine run_ok (tblOf_mem (e := en_law_is) nd (by simp [lw])) rfl ?_
  (conv => whnf); repeat (first | (refine ⟨_, rfl, (by first | assumption | rfl | exact fzL_ints _ | exact fzL_strs _ | exact fz_ints _ | exact fz_strs _), ?_⟩; conv => whnf) | (refine ⟨_, rfl, ?_⟩; conv => whnf) | (refine And.intro rfl ?_; conv => whnf) | (refine And.intro (by first | assumption | decide | omega) ?_; conv => whnf) | (refine And.intro (by first | assumption | rfl | exact fzL_ints _ | exact fzL_strs _ | exact fz_ints _ | exact fz_strs _) ?_; conv => whnf) | (refine And.intro (And.intro (by first | assumption | decide | omega) (by first | assumption | decide | omega)) ?_; conv => whnf) | (refine And.intro (And.intro (And.intro (by first | assumption | decide | omega) (by first | assumption | decide | omega)) (And.intro (by first | assumption | decide | omega) (by first | assumption | decide | omega))) ?_; conv => whnf) | (refine And.intro (And.intro (by first | assumption | rfl | exact fzL_ints _ | exact fzL_strs _ | exact fz_ints _ | exact fz_strs _) (And.intro (by first | assumption | rfl | exact fzL_ints _ | exact fzL_strs _ | exact fz_ints _ | exact fz_strs _) (by first | assumption | rfl | exact fzL_ints _ | exact fzL_strs _ | exact fz_ints _ | exact fz_strs _))) ?_; conv => whnf) | (refine And.intro (by first | exact Or.inl (by decide) | exact Or.inr (by decide)) ?_; conv => whnf) | (refine Or.inl (And.intro (by first | assumption | rfl | exact fzL_ints _ | exact fzL_strs _ | exact fz_ints _ | exact fz_strs _) ?_); conv => whnf) | (refine ⟨fun _ => ?_, fun z => Bool.noConfusion z⟩; conv => whnf) | (refine ⟨fun z => Bool.noConfusion z, fun _ => ?_⟩; conv => whnf) | (intro p0 z; rw [frz_lstp (by first | assumption | rfl | exact fzL_ints _ | exact fzL_strs _ | exact fz_ints _ | exact fz_strs _)] at z; subst z; conv => whnf) | (intro p0 z; rw [PV.fz_frz _ (by first | assumption | rfl | exact fzL_ints _ | exact fzL_strs _ | exact fz_ints _ | exact fz_strs _)] at z; subst z; conv => whnf))
  cases a <;> cases b <;> exact h
/-- the text's order of files, as data -/
def fD (a : List Str) : PyData := .tuple [.int a.length, .list (a.map .str)]
theorem alike_strs : ∀ a b : List Str, PySem.W.alikeAll (a.map .str) (b.map .str) = true
  | [], _ => by simp [PySem.W.alikeAll]
  | _ :: _, [] => by simp [PySem.W.alikeAll]
  | x :: a, y :: b => by simp [PySem.W.alikeAll, PySem.W.alike, alike_strs a b]
theorem depth_strs : ∀ a : List Str, PyData.depthAll (a.map .str) = 0
  | [] => rfl
  | x :: a => by simp [PyData.depthAll, PyData.depth, depth_strs a]
theorem n_ltF {o o2 : Bool} {a b : List Str} : opN (.cmp .Lt) [.tup [.int a.length, .lst o (a.map .str)], .tup [.int b.length, .lst o2 (b.map .str)]] = some (.bl (PySem.W.dataLt (fD a) (fD b))) := by
  show (cmpN .Lt _ _).map _ = _
  simp only [cmpN, ltD, PV.dat, PV.datL, datL_strs, Option.map]
  simp [PySem.W.alike, PySem.W.alikeAll, alike_strs, PyData.depth, PyData.depthAll, depth_strs, fD]
def lexL : List Str → List Str → Bool
  | x :: a, y :: b => if x = y then lexL a b else decide (x.cps.toList < y.cps.toList)
  | [], _ :: _ => true
  | _, [] => false
def lessF (a b : List Str) : Bool := if a.length = b.length then lexL a b else decide ((a.length : Int) < b.length)

theorem before_ok {n : Nat} {a b : List Str} {c d : Bool} {Q : PV → Fr → Prop} {E : PX → Fr → Prop} (h : Q (.bl (PySem.W.dataLt (fD a) (fD b))) [some (.lst c (a.map .str)), some (.lst d (b.map .str))]) : zC (callN lw.T 100 (n + 1)) ("comes_before" : Str) [.lst c (a.map .str), .lst d (b.map .str)] Q E := by
  refine run_ok (tblOf_mem (e := en_comes_before) nd (by simp [lw])) rfl ?_
  (conv => whnf); repeat (first | (refine ⟨_, rfl, (by first | assumption | rfl | exact fzL_ints _ | exact fzL_strs _ | exact fz_ints _ | exact fz_strs _), ?_⟩; conv => whnf) | (refine ⟨_, rfl, ?_⟩; conv => whnf) | (refine And.intro rfl ?_; conv => whnf) | (refine And.intro (by first | assumption | decide | omega) ?_; conv => whnf) | (refine And.intro (by first | assumption | rfl | exact fzL_ints _ | exact fzL_strs _ | exact fz_ints _ | exact fz_strs _) ?_; conv => whnf) | (refine And.intro (And.intro (by first | assumption | decide | omega) (by first | assumption | decide | omega)) ?_; conv => whnf) | (refine And.intro (And.intro (And.intro (by first | assumption | decide | omega) (by first | assumption | decide | omega)) (And.intro (by first | assumption | decide | omega) (by first | assumption | decide | omega))) ?_; conv => whnf) | (refine And.intro (And.intro (by first | assumption | rfl | exact fzL_ints _ | exact fzL_strs _ | exact fz_ints _ | exact fz_strs _) (And.intro (by first | assumption | rfl | exact fzL_ints _ | exact fzL_strs _ | exact fz_ints _ | exact fz_strs _) (by first | assumption | rfl | exact fzL_ints _ | exact fzL_strs _ | exact fz_ints _ | exact fz_strs _))) ?_; conv => whnf) | (refine And.intro (by first | exact Or.inl (by decide) | exact Or.inr (by decide)) ?_; conv => whnf) | (refine Or.inl (And.intro (by first | assumption | rfl | exact fzL_ints _ | exact fzL_strs _ | exact fz_ints _ | exact fz_strs _) ?_); conv => whnf) | (refine ⟨fun _ => ?_, fun z => Bool.noConfusion z⟩; conv => whnf) | (refine ⟨fun z => Bool.noConfusion z, fun _ => ?_⟩; conv => whnf) | (intro p0 z; rw [frz_lstp (by first | assumption | rfl | exact fzL_ints _ | exact fzL_strs _ | exact fz_ints _ | exact fz_strs _)] at z; subst z; conv => whnf) | (intro p0 z; rw [PV.fz_frz _ (by first | assumption | rfl | exact fzL_ints _ | exact fzL_strs _ | exact fz_ints _ | exact fz_strs _)] at z; subst z; conv => whnf))
  have hl : ∀ a : List Str, (((a.map PV.str).length : Nat) : Int) = (a.length : Int) := fun a => by simp
  rw [hl, hl]
  exact ⟨_, n_ltF, h⟩
theorem eqv_str2 (x y : Str) : PyData.eqv (.str x) (.str y) = decide (x = y) := eqv_str x y
theorem lt_strs : ∀ a b : List Str, a.length = b.length → PyProof.Rows.lexLt PyProof.Rows.itemOrd (PySem.W.keyToksAll (a.map .str)) (PySem.W.keyToksAll (b.map .str)) = lexL a b
  | [], [], _ => by simp [PySem.W.keyToksAll, lexL, PyProof.Rows.lexLt, PyProof.Rows.itemLt]
  | x :: a, y :: b, h => by
    have ih := lt_strs a b (by simpa using h)
    have al : PySem.W.alike (.str x) (.str y) = true := by simp [PySem.W.alike]
    simp only [List.map_cons, lexL]
    by_cases e : x = y
    · rw [if_pos e, PySem.W.dataLt_all_yes al (by rw [eqv_str2]; exact decide_eq_true e), ih]
    · rw [if_neg e, PySem.W.dataLt_all_no al (by rw [eqv_str2]; exact decide_eq_false e), PySem.W.dataLt_str]
  | [], _ :: _, h => by simp at h
  | _ :: _, [], h => by simp at h
theorem eqv_int2 (x y : Int) : PyData.eqv (.int x) (.int y) = decide (x = y) := eqv_int x y
theorem eqvL_strs : ∀ a b : List Str, PyData.eqvAll (a.map .str) (b.map .str) = decide (a = b)
  | [], [] => rfl
  | [], _ :: _ => rfl
  | _ :: _, [] => rfl
  | x :: a, y :: b => by
    simp only [List.map_cons, PyData.eqvAll, eqvL_strs a b, eqv_str2]
    by_cases e : x = y <;> by_cases e2 : a = b <;> simp [e, e2]
theorem lexL_self : ∀ a : List Str, lexL a a = false
  | [] => rfl
  | x :: a => by simp [lexL, lexL_self a]
theorem lt_files (a b : List Str) : PySem.W.dataLt (fD a) (fD b) = lessF a b := by
  unfold fD lessF
  rw [PySem.W.dataLt_tuple]
  have al : PySem.W.alike (.int (a.length : Int)) (.int (b.length : Int)) = true := by simp [PySem.W.alike]
  by_cases e : a.length = b.length
  · rw [if_pos e, PySem.W.dataLt_all_yes al (by rw [eqv_int2]; exact decide_eq_true (by omega))]
    have al2 : PySem.W.alike (.list (a.map .str)) (.list (b.map .str)) = true := by simp [PySem.W.alike, alike_strs]
    by_cases e2 : a = b
    · subst e2
      rw [PySem.W.dataLt_all_yes al2 (by simp only [PyData.eqv, eqvL_strs]; simp), lexL_self]
      rfl
    · rw [PySem.W.dataLt_all_no al2 (by simp only [PyData.eqv, eqvL_strs]; simp [e2]), PySem.W.dataLt_list, lt_strs a b e]
  · rw [if_neg e, PySem.W.dataLt_all_no al (by rw [eqv_int2]; exact decide_eq_false (by omega)), PySem.W.dataLt_int]
theorem less_ok {n : Nat} {a b : List Str} {c d : Bool} (ha : a.length ≤ 1000) {Q : PV → Fr → Prop} {E : PX → Fr → Prop} (h : Q (.bl (lessF a b)) [some (.lst c (a.map .str)), some (.lst d (b.map .str))]) : zC (callN lw.T 100 (n + 1)) ("_law_less" : Str) [.lst c (a.map .str), .lst d (b.map .str)] Q E := by
  have hl : ∀ a : List Str, (((a.map PV.str).length : Nat) : Int) = (a.length : Int) := fun a => by simp
  refine run_ok (tblOf_mem (e := en_law_less) nd (by simp [lw])) rfl ?_
  (conv => whnf); repeat (first | (refine ⟨_, rfl, (by first | assumption | rfl | exact fzL_ints _ | exact fzL_strs _ | exact fz_ints _ | exact fz_strs _), ?_⟩; conv => whnf) | (refine ⟨_, rfl, ?_⟩; conv => whnf) | (refine And.intro rfl ?_; conv => whnf) | (refine And.intro (by first | assumption | decide | omega) ?_; conv => whnf) | (refine And.intro (by first | assumption | rfl | exact fzL_ints _ | exact fzL_strs _ | exact fz_ints _ | exact fz_strs _) ?_; conv => whnf) | (refine And.intro (And.intro (by first | assumption | decide | omega) (by first | assumption | decide | omega)) ?_; conv => whnf) | (refine And.intro (And.intro (And.intro (by first | assumption | decide | omega) (by first | assumption | decide | omega)) (And.intro (by first | assumption | decide | omega) (by first | assumption | decide | omega))) ?_; conv => whnf) | (refine And.intro (And.intro (by first | assumption | rfl | exact fzL_ints _ | exact fzL_strs _ | exact fz_ints _ | exact fz_strs _) (And.intro (by first | assumption | rfl | exact fzL_ints _ | exact fzL_strs _ | exact fz_ints _ | exact fz_strs _) (by first | assumption | rfl | exact fzL_ints _ | exact fzL_strs _ | exact fz_ints _ | exact fz_strs _))) ?_; conv => whnf) | (refine And.intro (by first | exact Or.inl (by decide) | exact Or.inr (by decide)) ?_; conv => whnf) | (refine Or.inl (And.intro (by first | assumption | rfl | exact fzL_ints _ | exact fzL_strs _ | exact fz_ints _ | exact fz_strs _) ?_); conv => whnf) | (refine ⟨fun _ => ?_, fun z => Bool.noConfusion z⟩; conv => whnf) | (refine ⟨fun z => Bool.noConfusion z, fun _ => ?_⟩; conv => whnf) | (intro p0 z; rw [frz_lstp (by first | assumption | rfl | exact fzL_ints _ | exact fzL_strs _ | exact fz_ints _ | exact fz_strs _)] at z; subst z; conv => whnf) | (intro p0 z; rw [PV.fz_frz _ (by first | assumption | rfl | exact fzL_ints _ | exact fzL_strs _ | exact fz_ints _ | exact fz_strs _)] at z; subst z; conv => whnf))
  refine ⟨fun hk => ?_, fun hk => ?_⟩
  · rw [hl, hl] at hk
    have hn : a.length ≠ b.length := fun z => by simp [z] at hk
    (conv => whnf); repeat (first | (refine ⟨_, rfl, (by first | assumption | rfl | exact fzL_ints _ | exact fzL_strs _ | exact fz_ints _ | exact fz_strs _), ?_⟩; conv => whnf) | (refine ⟨_, rfl, ?_⟩; conv => whnf) | (refine And.intro rfl ?_; conv => whnf) | (refine And.intro (by first | assumption | decide | omega) ?_; conv => whnf) | (refine And.intro (by first | assumption | rfl | exact fzL_ints _ | exact fzL_strs _ | exact fz_ints _ | exact fz_strs _) ?_; conv => whnf) | (refine And.intro (And.intro (by first | assumption | decide | omega) (by first | assumption | decide | omega)) ?_; conv => whnf) | (refine And.intro (And.intro (And.intro (by first | assumption | decide | omega) (by first | assumption | decide | omega)) (And.intro (by first | assumption | decide | omega) (by first | assumption | decide | omega))) ?_; conv => whnf) | (refine And.intro (And.intro (by first | assumption | rfl | exact fzL_ints _ | exact fzL_strs _ | exact fz_ints _ | exact fz_strs _) (And.intro (by first | assumption | rfl | exact fzL_ints _ | exact fzL_strs _ | exact fz_ints _ | exact fz_strs _) (by first | assumption | rfl | exact fzL_ints _ | exact fzL_strs _ | exact fz_ints _ | exact fz_strs _))) ?_; conv => whnf) | (refine And.intro (by first | exact Or.inl (by decide) | exact Or.inr (by decide)) ?_; conv => whnf) | (refine Or.inl (And.intro (by first | assumption | rfl | exact fzL_ints _ | exact fzL_strs _ | exact fz_ints _ | exact fz_strs _) ?_); conv => whnf) | (refine ⟨fun _ => ?_, fun z => Bool.noConfusion z⟩; conv => whnf) | (refine ⟨fun z => Bool.noConfusion z, fun _ => ?_⟩; conv => whnf) | (intro p0 z; rw [frz_lstp (by first | assumption | rfl | exact fzL_ints _ | exact fzL_strs _ | exact fz_ints _ | exact fz_strs _)] at z; subst z; conv => whnf) | (intro p0 z; rw [PV.fz_frz _ (by first | assumption | rfl | exact fzL_ints _ | exact fzL_strs _ | exact fz_ints _ | exact fz_strs _)] at z; subst z; conv => whnf))
    rw [hl, hl]
    simp only [lessF, if_neg hn] at h
    exact h
  · rw [hl, hl] at hk
    have hn : a.length = b.length := by
      have : ¬ (a.length : Int) ≠ b.length := fun z => by simp [z] at hk
      omega
    have hla := hl a
    (conv => whnf); repeat (first | (refine ⟨_, rfl, (by first | assumption | rfl | exact fzL_ints _ | exact fzL_strs _ | exact fz_ints _ | exact fz_strs _), ?_⟩; conv => whnf) | (refine ⟨_, rfl, ?_⟩; conv => whnf) | (refine And.intro rfl ?_; conv => whnf) | (refine And.intro (by first | assumption | decide | omega) ?_; conv => whnf) | (refine And.intro (by first | assumption | rfl | exact fzL_ints _ | exact fzL_strs _ | exact fz_ints _ | exact fz_strs _) ?_; conv => whnf) | (refine And.intro (And.intro (by first | assumption | decide | omega) (by first | assumption | decide | omega)) ?_; conv => whnf) | (refine And.intro (And.intro (And.intro (by first | assumption | decide | omega) (by first | assumption | decide | omega)) (And.intro (by first | assumption | decide | omega) (by first | assumption | decide | omega))) ?_; conv => whnf) | (refine And.intro (And.intro (by first | assumption | rfl | exact fzL_ints _ | exact fzL_strs _ | exact fz_ints _ | exact fz_strs _) (And.intro (by first | assumption | rfl | exact fzL_ints _ | exact fzL_strs _ | exact fz_ints _ | exact fz_strs _) (by first | assumption | rfl | exact fzL_ints _ | exact fzL_strs _ | exact fz_ints _ | exact fz_strs _))) ?_; conv => whnf) | (refine And.intro (by first | exact Or.inl (by decide) | exact Or.inr (by decide)) ?_; conv => whnf) | (refine Or.inl (And.intro (by first | assumption | rfl | exact fzL_ints _ | exact fzL_strs _ | exact fz_ints _ | exact fz_strs _) ?_); conv => whnf) | (refine ⟨fun _ => ?_, fun z => Bool.noConfusion z⟩; conv => whnf) | (refine ⟨fun z => Bool.noConfusion z, fun _ => ?_⟩; conv => whnf) | (intro p0 z; rw [frz_lstp (by first | assumption | rfl | exact fzL_ints _ | exact fzL_strs _ | exact fz_ints _ | exact fz_strs _)] at z; subst z; conv => whnf) | (intro p0 z; rw [PV.fz_frz _ (by first | assumption | rfl | exact fzL_ints _ | exact fzL_strs _ | exact fz_ints _ | exact fz_strs _)] at z; subst z; conv => whnf))
    have e0 : lessF a b = lexL a b := by simp only [lessF, if_pos hn]
    rw [e0] at h
    refine zF_in (fun rest ρ => ∃ (j : Nat) (z : Option PV), j + rest.length = a.length ∧ rest = rngI j rest.length ∧ ρ = [some (.lst c (a.map .str)), some (.lst d (b.map .str)), z] ∧ lexL (a.drop j) (b.drop j) = lexL a b) ?_ ?_ ?_
    · exact ⟨0, none, by simp [rng_len], by simp [rng_len], rfl, rfl⟩
    · rintro ρ ⟨j, z, h1, _, rfl, h3⟩
      (conv => whnf); repeat (first | (refine ⟨_, rfl, (by first | assumption | rfl | exact fzL_ints _ | exact fzL_strs _ | exact fz_ints _ | exact fz_strs _), ?_⟩; conv => whnf) | (refine ⟨_, rfl, ?_⟩; conv => whnf) | (refine And.intro rfl ?_; conv => whnf) | (refine And.intro (by first | assumption | decide | omega) ?_; conv => whnf) | (refine And.intro (by first | assumption | rfl | exact fzL_ints _ | exact fzL_strs _ | exact fz_ints _ | exact fz_strs _) ?_; conv => whnf) | (refine And.intro (And.intro (by first | assumption | decide | omega) (by first | assumption | decide | omega)) ?_; conv => whnf) | (refine And.intro (And.intro (And.intro (by first | assumption | decide | omega) (by first | assumption | decide | omega)) (And.intro (by first | assumption | decide | omega) (by first | assumption | decide | omega))) ?_; conv => whnf) | (refine And.intro (And.intro (by first | assumption | rfl | exact fzL_ints _ | exact fzL_strs _ | exact fz_ints _ | exact fz_strs _) (And.intro (by first | assumption | rfl | exact fzL_ints _ | exact fzL_strs _ | exact fz_ints _ | exact fz_strs _) (by first | assumption | rfl | exact fzL_ints _ | exact fzL_strs _ | exact fz_ints _ | exact fz_strs _))) ?_; conv => whnf) | (refine And.intro (by first | exact Or.inl (by decide) | exact Or.inr (by decide)) ?_; conv => whnf) | (refine Or.inl (And.intro (by first | assumption | rfl | exact fzL_ints _ | exact fzL_strs _ | exact fz_ints _ | exact fz_strs _) ?_); conv => whnf) | (refine ⟨fun _ => ?_, fun z => Bool.noConfusion z⟩; conv => whnf) | (refine ⟨fun z => Bool.noConfusion z, fun _ => ?_⟩; conv => whnf) | (intro p0 z; rw [frz_lstp (by first | assumption | rfl | exact fzL_ints _ | exact fzL_strs _ | exact fz_ints _ | exact fz_strs _)] at z; subst z; conv => whnf) | (intro p0 z; rw [PV.fz_frz _ (by first | assumption | rfl | exact fzL_ints _ | exact fzL_strs _ | exact fz_ints _ | exact fz_strs _)] at z; subst z; conv => whnf))
      have : a.drop j = [] := List.drop_eq_nil_of_le (by simpa using Nat.le_of_eq h1.symm)
      have hb : b.drop j = [] := List.drop_eq_nil_of_le (by rw [← hn]; simpa using Nat.le_of_eq h1.symm)
      rw [this, hb] at h3
      rw [← h3] at h
      exact h
    · rintro x r ρ ⟨j, z, h1, h2, rfl, h3⟩
      simp only [List.length_cons] at h1 h2
      rw [rngI] at h2
      obtain ⟨rfl, hr⟩ := List.cons.inj h2
      have ha : j < a.length := by omega
      have hb : j < b.length := by omega
      have e1 : a.drop j = a[j] :: a.drop (j + 1) := List.drop_eq_getElem_cons ha
      have e2 : b.drop j = b[j] :: b.drop (j + 1) := List.drop_eq_getElem_cons hb
      rw [e1, e2, lexL] at h3
      refine ⟨_, rfl, ?_⟩
      (conv => whnf); repeat (first | (refine ⟨_, rfl, (by first | assumption | rfl | exact fzL_ints _ | exact fzL_strs _ | exact fz_ints _ | exact fz_strs _), ?_⟩; conv => whnf) | (refine ⟨_, rfl, ?_⟩; conv => whnf) | (refine And.intro rfl ?_; conv => whnf) | (refine And.intro (by first | assumption | decide | omega) ?_; conv => whnf) | (refine And.intro (by first | assumption | rfl | exact fzL_ints _ | exact fzL_strs _ | exact fz_ints _ | exact fz_strs _) ?_; conv => whnf) | (refine And.intro (And.intro (by first | assumption | decide | omega) (by first | assumption | decide | omega)) ?_; conv => whnf) | (refine And.intro (And.intro (And.intro (by first | assumption | decide | omega) (by first | assumption | decide | omega)) (And.intro (by first | assumption | decide | omega) (by first | assumption | decide | omega))) ?_; conv => whnf) | (refine And.intro (And.intro (by first | assumption | rfl | exact fzL_ints _ | exact fzL_strs _ | exact fz_ints _ | exact fz_strs _) (And.intro (by first | assumption | rfl | exact fzL_ints _ | exact fzL_strs _ | exact fz_ints _ | exact fz_strs _) (by first | assumption | rfl | exact fzL_ints _ | exact fzL_strs _ | exact fz_ints _ | exact fz_strs _))) ?_; conv => whnf) | (refine And.intro (by first | exact Or.inl (by decide) | exact Or.inr (by decide)) ?_; conv => whnf) | (refine Or.inl (And.intro (by first | assumption | rfl | exact fzL_ints _ | exact fzL_strs _ | exact fz_ints _ | exact fz_strs _) ?_); conv => whnf) | (refine ⟨fun _ => ?_, fun z => Bool.noConfusion z⟩; conv => whnf) | (refine ⟨fun z => Bool.noConfusion z, fun _ => ?_⟩; conv => whnf) | (intro p0 z; rw [frz_lstp (by first | assumption | rfl | exact fzL_ints _ | exact fzL_strs _ | exact fz_ints _ | exact fz_strs _)] at z; subst z; conv => whnf) | (intro p0 z; rw [PV.fz_frz _ (by first | assumption | rfl | exact fzL_ints _ | exact fzL_strs _ | exact fz_ints _ | exact fz_strs _)] at z; subst z; conv => whnf))
      refine ⟨_, atI_map ha, rfl, ?_⟩
      (conv => whnf); repeat (first | (refine ⟨_, rfl, (by first | assumption | rfl | exact fzL_ints _ | exact fzL_strs _ | exact fz_ints _ | exact fz_strs _), ?_⟩; conv => whnf) | (refine ⟨_, rfl, ?_⟩; conv => whnf) | (refine And.intro rfl ?_; conv => whnf) | (refine And.intro (by first | assumption | decide | omega) ?_; conv => whnf) | (refine And.intro (by first | assumption | rfl | exact fzL_ints _ | exact fzL_strs _ | exact fz_ints _ | exact fz_strs _) ?_; conv => whnf) | (refine And.intro (And.intro (by first | assumption | decide | omega) (by first | assumption | decide | omega)) ?_; conv => whnf) | (refine And.intro (And.intro (And.intro (by first | assumption | decide | omega) (by first | assumption | decide | omega)) (And.intro (by first | assumption | decide | omega) (by first | assumption | decide | omega))) ?_; conv => whnf) | (refine And.intro (And.intro (by first | assumption | rfl | exact fzL_ints _ | exact fzL_strs _ | exact fz_ints _ | exact fz_strs _) (And.intro (by first | assumption | rfl | exact fzL_ints _ | exact fzL_strs _ | exact fz_ints _ | exact fz_strs _) (by first | assumption | rfl | exact fzL_ints _ | exact fzL_strs _ | exact fz_ints _ | exact fz_strs _))) ?_; conv => whnf) | (refine And.intro (by first | exact Or.inl (by decide) | exact Or.inr (by decide)) ?_; conv => whnf) | (refine Or.inl (And.intro (by first | assumption | rfl | exact fzL_ints _ | exact fzL_strs _ | exact fz_ints _ | exact fz_strs _) ?_); conv => whnf) | (refine ⟨fun _ => ?_, fun z => Bool.noConfusion z⟩; conv => whnf) | (refine ⟨fun z => Bool.noConfusion z, fun _ => ?_⟩; conv => whnf) | (intro p0 z; rw [frz_lstp (by first | assumption | rfl | exact fzL_ints _ | exact fzL_strs _ | exact fz_ints _ | exact fz_strs _)] at z; subst z; conv => whnf) | (intro p0 z; rw [PV.fz_frz _ (by first | assumption | rfl | exact fzL_ints _ | exact fzL_strs _ | exact fz_ints _ | exact fz_strs _)] at z; subst z; conv => whnf))
      refine ⟨_, atI_map hb, rfl, ?_⟩
      (conv => whnf); repeat (first | (refine ⟨_, rfl, (by first | assumption | rfl | exact fzL_ints _ | exact fzL_strs _ | exact fz_ints _ | exact fz_strs _), ?_⟩; conv => whnf) | (refine ⟨_, rfl, ?_⟩; conv => whnf) | (refine And.intro rfl ?_; conv => whnf) | (refine And.intro (by first | assumption | decide | omega) ?_; conv => whnf) | (refine And.intro (by first | assumption | rfl | exact fzL_ints _ | exact fzL_strs _ | exact fz_ints _ | exact fz_strs _) ?_; conv => whnf) | (refine And.intro (And.intro (by first | assumption | decide | omega) (by first | assumption | decide | omega)) ?_; conv => whnf) | (refine And.intro (And.intro (And.intro (by first | assumption | decide | omega) (by first | assumption | decide | omega)) (And.intro (by first | assumption | decide | omega) (by first | assumption | decide | omega))) ?_; conv => whnf) | (refine And.intro (And.intro (by first | assumption | rfl | exact fzL_ints _ | exact fzL_strs _ | exact fz_ints _ | exact fz_strs _) (And.intro (by first | assumption | rfl | exact fzL_ints _ | exact fzL_strs _ | exact fz_ints _ | exact fz_strs _) (by first | assumption | rfl | exact fzL_ints _ | exact fzL_strs _ | exact fz_ints _ | exact fz_strs _))) ?_; conv => whnf) | (refine And.intro (by first | exact Or.inl (by decide) | exact Or.inr (by decide)) ?_; conv => whnf) | (refine Or.inl (And.intro (by first | assumption | rfl | exact fzL_ints _ | exact fzL_strs _ | exact fz_ints _ | exact fz_strs _) ?_); conv => whnf) | (refine ⟨fun _ => ?_, fun z => Bool.noConfusion z⟩; conv => whnf) | (refine ⟨fun z => Bool.noConfusion z, fun _ => ?_⟩; conv => whnf) | (intro p0 z; rw [frz_lstp (by first | assumption | rfl | exact fzL_ints _ | exact fzL_strs _ | exact fz_ints _ | exact fz_strs _)] at z; subst z; conv => whnf) | (intro p0 z; rw [PV.fz_frz _ (by first | assumption | rfl | exact fzL_ints _ | exact fzL_strs _ | exact fz_ints _ | exact fz_strs _)] at z; subst z; conv => whnf))
      refine ⟨fun hk => ?_, fun hk => ?_⟩
      · have hne : a[j] ≠ b[j] := by simpa using hk
        rw [if_neg hne] at h3
        (conv => whnf); repeat (first | (refine ⟨_, rfl, (by first | assumption | rfl | exact fzL_ints _ | exact fzL_strs _ | exact fz_ints _ | exact fz_strs _), ?_⟩; conv => whnf) | (refine ⟨_, rfl, ?_⟩; conv => whnf) | (refine And.intro rfl ?_; conv => whnf) | (refine And.intro (by first | assumption | decide | omega) ?_; conv => whnf) | (refine And.intro (by first | assumption | rfl | exact fzL_ints _ | exact fzL_strs _ | exact fz_ints _ | exact fz_strs _) ?_; conv => whnf) | (refine And.intro (And.intro (by first | assumption | decide | omega) (by first | assumption | decide | omega)) ?_; conv => whnf) | (refine And.intro (And.intro (And.intro (by first | assumption | decide | omega) (by first | assumption | decide | omega)) (And.intro (by first | assumption | decide | omega) (by first | assumption | decide | omega))) ?_; conv => whnf) | (refine And.intro (And.intro (by first | assumption | rfl | exact fzL_ints _ | exact fzL_strs _ | exact fz_ints _ | exact fz_strs _) (And.intro (by first | assumption | rfl | exact fzL_ints _ | exact fzL_strs _ | exact fz_ints _ | exact fz_strs _) (by first | assumption | rfl | exact fzL_ints _ | exact fzL_strs _ | exact fz_ints _ | exact fz_strs _))) ?_; conv => whnf) | (refine And.intro (by first | exact Or.inl (by decide) | exact Or.inr (by decide)) ?_; conv => whnf) | (refine Or.inl (And.intro (by first | assumption | rfl | exact fzL_ints _ | exact fzL_strs _ | exact fz_ints _ | exact fz_strs _) ?_); conv => whnf) | (refine ⟨fun _ => ?_, fun z => Bool.noConfusion z⟩; conv => whnf) | (refine ⟨fun z => Bool.noConfusion z, fun _ => ?_⟩; conv => whnf) | (intro p0 z; rw [frz_lstp (by first | assumption | rfl | exact fzL_ints _ | exact fzL_strs _ | exact fz_ints _ | exact fz_strs _)] at z; subst z; conv => whnf) | (intro p0 z; rw [PV.fz_frz _ (by first | assumption | rfl | exact fzL_ints _ | exact fzL_strs _ | exact fz_ints _ | exact fz_strs _)] at z; subst z; conv => whnf))
        refine ⟨_, atI_map ha, rfl, ?_⟩
        (conv => whnf); repeat (first | (refine ⟨_, rfl, (by first | assumption | rfl | exact fzL_ints _ | exact fzL_strs _ | exact fz_ints _ | exact fz_strs _), ?_⟩; conv => whnf) | (refine ⟨_, rfl, ?_⟩; conv => whnf) | (refine And.intro rfl ?_; conv => whnf) | (refine And.intro (by first | assumption | decide | omega) ?_; conv => whnf) | (refine And.intro (by first | assumption | rfl | exact fzL_ints _ | exact fzL_strs _ | exact fz_ints _ | exact fz_strs _) ?_; conv => whnf) | (refine And.intro (And.intro (by first | assumption | decide | omega) (by first | assumption | decide | omega)) ?_; conv => whnf) | (refine And.intro (And.intro (And.intro (by first | assumption | decide | omega) (by first | assumption | decide | omega)) (And.intro (by first | assumption | decide | omega) (by first | assumption | decide | omega))) ?_; conv => whnf) | (refine And.intro (And.intro (by first | assumption | rfl | exact fzL_ints _ | exact fzL_strs _ | exact fz_ints _ | exact fz_strs _) (And.intro (by first | assumption | rfl | exact fzL_ints _ | exact fzL_strs _ | exact fz_ints _ | exact fz_strs _) (by first | assumption | rfl | exact fzL_ints _ | exact fzL_strs _ | exact fz_ints _ | exact fz_strs _))) ?_; conv => whnf) | (refine And.intro (by first | exact Or.inl (by decide) | exact Or.inr (by decide)) ?_; conv => whnf) | (refine Or.inl (And.intro (by first | assumption | rfl | exact fzL_ints _ | exact fzL_strs _ | exact fz_ints _ | exact fz_strs _) ?_); conv => whnf) | (refine ⟨fun _ => ?_, fun z => Bool.noConfusion z⟩; conv => whnf) | (refine ⟨fun z => Bool.noConfusion z, fun _ => ?_⟩; conv => whnf) | (intro p0 z; rw [frz_lstp (by first | assumption | rfl | exact fzL_ints _ | exact fzL_strs _ | exact fz_ints _ | exact fz_strs _)] at z; subst z; conv => whnf) | (intro p0 z; rw [PV.fz_frz _ (by first | assumption | rfl | exact fzL_ints _ | exact fzL_strs _ | exact fz_ints _ | exact fz_strs _)] at z; subst z; conv => whnf))
        refine ⟨_, atI_map hb, rfl, ?_⟩
        (conv => whnf); repeat (first | (refine ⟨_, rfl, (by first | assumption | rfl | exact fzL_ints _ | exact fzL_strs _ | exact fz_ints _ | exact fz_strs _), ?_⟩; conv => whnf) | (refine ⟨_, rfl, ?_⟩; conv => whnf) | (refine And.intro rfl ?_; conv => whnf) | (refine And.intro (by first | assumption | decide | omega) ?_; conv => whnf) | (refine And.intro (by first | assumption | rfl | exact fzL_ints _ | exact fzL_strs _ | exact fz_ints _ | exact fz_strs _) ?_; conv => whnf) | (refine And.intro (And.intro (by first | assumption | decide | omega) (by first | assumption | decide | omega)) ?_; conv => whnf) | (refine And.intro (And.intro (And.intro (by first | assumption | decide | omega) (by first | assumption | decide | omega)) (And.intro (by first | assumption | decide | omega) (by first | assumption | decide | omega))) ?_; conv => whnf) | (refine And.intro (And.intro (by first | assumption | rfl | exact fzL_ints _ | exact fzL_strs _ | exact fz_ints _ | exact fz_strs _) (And.intro (by first | assumption | rfl | exact fzL_ints _ | exact fzL_strs _ | exact fz_ints _ | exact fz_strs _) (by first | assumption | rfl | exact fzL_ints _ | exact fzL_strs _ | exact fz_ints _ | exact fz_strs _))) ?_; conv => whnf) | (refine And.intro (by first | exact Or.inl (by decide) | exact Or.inr (by decide)) ?_; conv => whnf) | (refine Or.inl (And.intro (by first | assumption | rfl | exact fzL_ints _ | exact fzL_strs _ | exact fz_ints _ | exact fz_strs _) ?_); conv => whnf) | (refine ⟨fun _ => ?_, fun z => Bool.noConfusion z⟩; conv => whnf) | (refine ⟨fun z => Bool.noConfusion z, fun _ => ?_⟩; conv => whnf) | (intro p0 z; rw [frz_lstp (by first | assumption | rfl | exact fzL_ints _ | exact fzL_strs _ | exact fz_ints _ | exact fz_strs _)] at z; subst z; conv => whnf) | (intro p0 z; rw [PV.fz_frz _ (by first | assumption | rfl | exact fzL_ints _ | exact fzL_strs _ | exact fz_ints _ | exact fz_strs _)] at z; subst z; conv => whnf))
        rw [h3]
        exact h
      · have hne : a[j] = b[j] := by simpa using hk
        rw [if_pos hne] at h3
        (conv => whnf); repeat (first | (refine ⟨_, rfl, (by first | assumption | rfl | exact fzL_ints _ | exact fzL_strs _ | exact fz_ints _ | exact fz_strs _), ?_⟩; conv => whnf) | (refine ⟨_, rfl, ?_⟩; conv => whnf) | (refine And.intro rfl ?_; conv => whnf) | (refine And.intro (by first | assumption | decide | omega) ?_; conv => whnf) | (refine And.intro (by first | assumption | rfl | exact fzL_ints _ | exact fzL_strs _ | exact fz_ints _ | exact fz_strs _) ?_; conv => whnf) | (refine And.intro (And.intro (by first | assumption | decide | omega) (by first | assumption | decide | omega)) ?_; conv => whnf) | (refine And.intro (And.intro (And.intro (by first | assumption | decide | omega) (by first | assumption | decide | omega)) (And.intro (by first | assumption | decide | omega) (by first | assumption | decide | omega))) ?_; conv => whnf) | (refine And.intro (And.intro (by first | assumption | rfl | exact fzL_ints _ | exact fzL_strs _ | exact fz_ints _ | exact fz_strs _) (And.intro (by first | assumption | rfl | exact fzL_ints _ | exact fzL_strs _ | exact fz_ints _ | exact fz_strs _) (by first | assumption | rfl | exact fzL_ints _ | exact fzL_strs _ | exact fz_ints _ | exact fz_strs _))) ?_; conv => whnf) | (refine And.intro (by first | exact Or.inl (by decide) | exact Or.inr (by decide)) ?_; conv => whnf) | (refine Or.inl (And.intro (by first | assumption | rfl | exact fzL_ints _ | exact fzL_strs _ | exact fz_ints _ | exact fz_strs _) ?_); conv => whnf) | (refine ⟨fun _ => ?_, fun z => Bool.noConfusion z⟩; conv => whnf) | (refine ⟨fun z => Bool.noConfusion z, fun _ => ?_⟩; conv => whnf) | (intro p0 z; rw [frz_lstp (by first | assumption | rfl | exact fzL_ints _ | exact fzL_strs _ | exact fz_ints _ | exact fz_strs _)] at z; subst z; conv => whnf) | (intro p0 z; rw [PV.fz_frz _ (by first | assumption | rfl | exact fzL_ints _ | exact fzL_strs _ | exact fz_ints _ | exact fz_strs _)] at z; subst z; conv => whnf))
        exact ⟨j + 1, _, by omega, hr, rfl, h3⟩
/-! the least one -/
def oP : Option (List Str) → PV
  | none => .non
  | some a => .lst false (a.map .str)
def resP : Option (List Str) → PV
  | none => .non
  | some a => .lst true (a.map .str)
def stepF (acc x : Option (List Str)) : Option (List Str) := match x with
  | none => acc
  | some a => (match acc with
    | none => some a
    | some b => if lessF a b = true then some a else some b)
def leastG : Option (List Str) → List (Option (List Str)) → Option (List Str)
  | acc, [] => acc
  | acc, x :: r => leastG (stepF acc x) r
theorem fz_oP : ∀ x, (oP x).fz = true
  | none => rfl
  | some a => fz_strs a
theorem fzL_oP : ∀ ms : List (Option (List Str)), PV.fzL (ms.map oP) = true
  | [] => rfl
  | x :: ms => by simp [PV.fzL, fz_oP, fzL_oP ms]
theorem least_ok {n : Nat} {b : Bool} {ms : List (Option (List Str))} {Q : PV → Fr → Prop} {E : PX → Fr → Prop} (h : Q (resP (leastG none ms)) [some (.lst false (ms.map oP))]) : zC (callN lw.T 100 (n + 2)) ("least_of" : Str) [.lst b (ms.map oP)] Q E := by
  have hz := fzL_oP ms
  refine run_ok (tblOf_mem (e := en_least_of) nd (by simp [lw])) rfl ?_
  (conv => whnf); repeat (first | (refine ⟨_, rfl, (by first | assumption | rfl | exact fzL_ints _ | exact fzL_strs _ | exact fz_ints _ | exact fz_strs _), ?_⟩; conv => whnf) | (refine ⟨_, rfl, ?_⟩; conv => whnf) | (refine And.intro rfl ?_; conv => whnf) | (refine And.intro (by first | assumption | decide | omega) ?_; conv => whnf) | (refine And.intro (by first | assumption | rfl | exact fzL_ints _ | exact fzL_strs _ | exact fz_ints _ | exact fz_strs _) ?_; conv => whnf) | (refine And.intro (And.intro (by first | assumption | decide | omega) (by first | assumption | decide | omega)) ?_; conv => whnf) | (refine And.intro (And.intro (And.intro (by first | assumption | decide | omega) (by first | assumption | decide | omega)) (And.intro (by first | assumption | decide | omega) (by first | assumption | decide | omega))) ?_; conv => whnf) | (refine And.intro (And.intro (by first | assumption | rfl | exact fzL_ints _ | exact fzL_strs _ | exact fz_ints _ | exact fz_strs _) (And.intro (by first | assumption | rfl | exact fzL_ints _ | exact fzL_strs _ | exact fz_ints _ | exact fz_strs _) (by first | assumption | rfl | exact fzL_ints _ | exact fzL_strs _ | exact fz_ints _ | exact fz_strs _))) ?_; conv => whnf) | (refine And.intro (by first | exact Or.inl (by decide) | exact Or.inr (by decide)) ?_; conv => whnf) | (refine Or.inl (And.intro (by first | assumption | rfl | exact fzL_ints _ | exact fzL_strs _ | exact fz_ints _ | exact fz_strs _) ?_); conv => whnf) | (refine ⟨fun _ => ?_, fun z => Bool.noConfusion z⟩; conv => whnf) | (refine ⟨fun z => Bool.noConfusion z, fun _ => ?_⟩; conv => whnf) | (intro p0 z; rw [frz_lstp (by first | assumption | rfl | exact fzL_ints _ | exact fzL_strs _ | exact fz_ints _ | exact fz_strs _)] at z; subst z; conv => whnf) | (intro p0 z; rw [PV.fz_frz _ (by first | assumption | rfl | exact fzL_ints _ | exact fzL_strs _ | exact fz_ints _ | exact fz_strs _)] at z; subst z; conv => whnf))
  refine zF_in (fun rest ρ => ∃ (acc : Option (List Str)) (todo : List (Option (List Str))) (z : Option PV), rest = todo.map oP ∧ leastG acc todo = leastG none ms ∧ ρ = [some (.lst false (ms.map oP)), some (resP acc), z]) ?_ ?_ ?_
  · exact ⟨none, ms, none, rfl, rfl, rfl⟩
  · rintro ρ ⟨acc, todo, z, h1, h2, rfl⟩
    cases todo with
    | cons => cases h1
    | nil =>
      rw [← h2] at h
      (conv => whnf); repeat (first | (refine ⟨_, rfl, (by first | assumption | rfl | exact fzL_ints _ | exact fzL_strs _ | exact fz_ints _ | exact fz_strs _), ?_⟩; conv => whnf) | (refine ⟨_, rfl, ?_⟩; conv => whnf) | (refine And.intro rfl ?_; conv => whnf) | (refine And.intro (by first | assumption | decide | omega) ?_; conv => whnf) | (refine And.intro (by first | assumption | rfl | exact fzL_ints _ | exact fzL_strs _ | exact fz_ints _ | exact fz_strs _) ?_; conv => whnf) | (refine And.intro (And.intro (by first | assumption | decide | omega) (by first | assumption | decide | omega)) ?_; conv => whnf) | (refine And.intro (And.intro (And.intro (by first | assumption | decide | omega) (by first | assumption | decide | omega)) (And.intro (by first | assumption | decide | omega) (by first | assumption | decide | omega))) ?_; conv => whnf) | (refine And.intro (And.intro (by first | assumption | rfl | exact fzL_ints _ | exact fzL_strs _ | exact fz_ints _ | exact fz_strs _) (And.intro (by first | assumption | rfl | exact fzL_ints _ | exact fzL_strs _ | exact fz_ints _ | exact fz_strs _) (by first | assumption | rfl | exact fzL_ints _ | exact fzL_strs _ | exact fz_ints _ | exact fz_strs _))) ?_; conv => whnf) | (refine And.intro (by first | exact Or.inl (by decide) | exact Or.inr (by decide)) ?_; conv => whnf) | (refine Or.inl (And.intro (by first | assumption | rfl | exact fzL_ints _ | exact fzL_strs _ | exact fz_ints _ | exact fz_strs _) ?_); conv => whnf) | (refine ⟨fun _ => ?_, fun z => Bool.noConfusion z⟩; conv => whnf) | (refine ⟨fun z => Bool.noConfusion z, fun _ => ?_⟩; conv => whnf) | (intro p0 z; rw [frz_lstp (by first | assumption | rfl | exact fzL_ints _ | exact fzL_strs _ | exact fz_ints _ | exact fz_strs _)] at z; subst z; conv => whnf) | (intro p0 z; rw [PV.fz_frz _ (by first | assumption | rfl | exact fzL_ints _ | exact fzL_strs _ | exact fz_ints _ | exact fz_strs _)] at z; subst z; conv => whnf))
      exact h
  · rintro x rest ρ ⟨acc, todo, z, h1, h2, rfl⟩
    cases todo with
    | nil => cases h1
    | cons y todo =>
      obtain ⟨rfl, rfl⟩ := List.cons.inj h1
      refine ⟨_, rfl, ?_⟩
      cases y with
      | none =>
        (conv => whnf); repeat (first | (refine ⟨_, rfl, (by first | assumption | rfl | exact fzL_ints _ | exact fzL_strs _ | exact fz_ints _ | exact fz_strs _), ?_⟩; conv => whnf) | (refine ⟨_, rfl, ?_⟩; conv => whnf) | (refine And.intro rfl ?_; conv => whnf) | (refine And.intro (by first | assumption | decide | omega) ?_; conv => whnf) | (refine And.intro (by first | assumption | rfl | exact fzL_ints _ | exact fzL_strs _ | exact fz_ints _ | exact fz_strs _) ?_; conv => whnf) | (refine And.intro (And.intro (by first | assumption | decide | omega) (by first | assumption | decide | omega)) ?_; conv => whnf) | (refine And.intro (And.intro (And.intro (by first | assumption | decide | omega) (by first | assumption | decide | omega)) (And.intro (by first | assumption | decide | omega) (by first | assumption | decide | omega))) ?_; conv => whnf) | (refine And.intro (And.intro (by first | assumption | rfl | exact fzL_ints _ | exact fzL_strs _ | exact fz_ints _ | exact fz_strs _) (And.intro (by first | assumption | rfl | exact fzL_ints _ | exact fzL_strs _ | exact fz_ints _ | exact fz_strs _) (by first | assumption | rfl | exact fzL_ints _ | exact fzL_strs _ | exact fz_ints _ | exact fz_strs _))) ?_; conv => whnf) | (refine And.intro (by first | exact Or.inl (by decide) | exact Or.inr (by decide)) ?_; conv => whnf) | (refine Or.inl (And.intro (by first | assumption | rfl | exact fzL_ints _ | exact fzL_strs _ | exact fz_ints _ | exact fz_strs _) ?_); conv => whnf) | (refine ⟨fun _ => ?_, fun z => Bool.noConfusion z⟩; conv => whnf) | (refine ⟨fun z => Bool.noConfusion z, fun _ => ?_⟩; conv => whnf) | (intro p0 z; rw [frz_lstp (by first | assumption | rfl | exact fzL_ints _ | exact fzL_strs _ | exact fz_ints _ | exact fz_strs _)] at z; subst z; conv => whnf) | (intro p0 z; rw [PV.fz_frz _ (by first | assumption | rfl | exact fzL_ints _ | exact fzL_strs _ | exact fz_ints _ | exact fz_strs _)] at z; subst z; conv => whnf))
        exact ⟨acc, todo, _, rfl, h2, rfl⟩
      | some a =>
        cases acc with
        | none =>
          (conv => whnf); repeat (first | (refine ⟨_, rfl, (by first | assumption | rfl | exact fzL_ints _ | exact fzL_strs _ | exact fz_ints _ | exact fz_strs _), ?_⟩; conv => whnf) | (refine ⟨_, rfl, ?_⟩; conv => whnf) | (refine And.intro rfl ?_; conv => whnf) | (refine And.intro (by first | assumption | decide | omega) ?_; conv => whnf) | (refine And.intro (by first | assumption | rfl | exact fzL_ints _ | exact fzL_strs _ | exact fz_ints _ | exact fz_strs _) ?_; conv => whnf) | (refine And.intro (And.intro (by first | assumption | decide | omega) (by first | assumption | decide | omega)) ?_; conv => whnf) | (refine And.intro (And.intro (And.intro (by first | assumption | decide | omega) (by first | assumption | decide | omega)) (And.intro (by first | assumption | decide | omega) (by first | assumption | decide | omega))) ?_; conv => whnf) | (refine And.intro (And.intro (by first | assumption | rfl | exact fzL_ints _ | exact fzL_strs _ | exact fz_ints _ | exact fz_strs _) (And.intro (by first | assumption | rfl | exact fzL_ints _ | exact fzL_strs _ | exact fz_ints _ | exact fz_strs _) (by first | assumption | rfl | exact fzL_ints _ | exact fzL_strs _ | exact fz_ints _ | exact fz_strs _))) ?_; conv => whnf) | (refine And.intro (by first | exact Or.inl (by decide) | exact Or.inr (by decide)) ?_; conv => whnf) | (refine Or.inl (And.intro (by first | assumption | rfl | exact fzL_ints _ | exact fzL_strs _ | exact fz_ints _ | exact fz_strs _) ?_); conv => whnf) | (refine ⟨fun _ => ?_, fun z => Bool.noConfusion z⟩; conv => whnf) | (refine ⟨fun z => Bool.noConfusion z, fun _ => ?_⟩; conv => whnf) | (intro p0 z; rw [frz_lstp (by first | assumption | rfl | exact fzL_ints _ | exact fzL_strs _ | exact fz_ints _ | exact fz_strs _)] at z; subst z; conv => whnf) | (intro p0 z; rw [PV.fz_frz _ (by first | assumption | rfl | exact fzL_ints _ | exact fzL_strs _ | exact fz_ints _ | exact fz_strs _)] at z; subst z; conv => whnf))
          exact ⟨some a, todo, _, rfl, h2, rfl⟩
        | some b =>
          (conv => whnf); repeat (first | (refine ⟨_, rfl, (by first | assumption | rfl | exact fzL_ints _ | exact fzL_strs _ | exact fz_ints _ | exact fz_strs _), ?_⟩; conv => whnf) | (refine ⟨_, rfl, ?_⟩; conv => whnf) | (refine And.intro rfl ?_; conv => whnf) | (refine And.intro (by first | assumption | decide | omega) ?_; conv => whnf) | (refine And.intro (by first | assumption | rfl | exact fzL_ints _ | exact fzL_strs _ | exact fz_ints _ | exact fz_strs _) ?_; conv => whnf) | (refine And.intro (And.intro (by first | assumption | decide | omega) (by first | assumption | decide | omega)) ?_; conv => whnf) | (refine And.intro (And.intro (And.intro (by first | assumption | decide | omega) (by first | assumption | decide | omega)) (And.intro (by first | assumption | decide | omega) (by first | assumption | decide | omega))) ?_; conv => whnf) | (refine And.intro (And.intro (by first | assumption | rfl | exact fzL_ints _ | exact fzL_strs _ | exact fz_ints _ | exact fz_strs _) (And.intro (by first | assumption | rfl | exact fzL_ints _ | exact fzL_strs _ | exact fz_ints _ | exact fz_strs _) (by first | assumption | rfl | exact fzL_ints _ | exact fzL_strs _ | exact fz_ints _ | exact fz_strs _))) ?_; conv => whnf) | (refine And.intro (by first | exact Or.inl (by decide) | exact Or.inr (by decide)) ?_; conv => whnf) | (refine Or.inl (And.intro (by first | assumption | rfl | exact fzL_ints _ | exact fzL_strs _ | exact fz_ints _ | exact fz_strs _) ?_); conv => whnf) | (refine ⟨fun _ => ?_, fun z => Bool.noConfusion z⟩; conv => whnf) | (refine ⟨fun z => Bool.noConfusion z, fun _ => ?_⟩; conv => whnf) | (intro p0 z; rw [frz_lstp (by first | assumption | rfl | exact fzL_ints _ | exact fzL_strs _ | exact fz_ints _ | exact fz_strs _)] at z; subst z; conv => whnf) | (intro p0 z; rw [PV.fz_frz _ (by first | assumption | rfl | exact fzL_ints _ | exact fzL_strs _ | exact fz_ints _ | exact fz_strs _)] at z; subst z; conv => whnf))
          refine before_ok ?_
          rw [lt_files]
          (conv => whnf); repeat (first | (refine ⟨_, rfl, (by first | assumption | rfl | exact fzL_ints _ | exact fzL_strs _ | exact fz_ints _ | exact fz_strs _), ?_⟩; conv => whnf) | (refine ⟨_, rfl, ?_⟩; conv => whnf) | (refine And.intro rfl ?_; conv => whnf) | (refine And.intro (by first | assumption | decide | omega) ?_; conv => whnf) | (refine And.intro (by first | assumption | rfl | exact fzL_ints _ | exact fzL_strs _ | exact fz_ints _ | exact fz_strs _) ?_; conv => whnf) | (refine And.intro (And.intro (by first | assumption | decide | omega) (by first | assumption | decide | omega)) ?_; conv => whnf) | (refine And.intro (And.intro (And.intro (by first | assumption | decide | omega) (by first | assumption | decide | omega)) (And.intro (by first | assumption | decide | omega) (by first | assumption | decide | omega))) ?_; conv => whnf) | (refine And.intro (And.intro (by first | assumption | rfl | exact fzL_ints _ | exact fzL_strs _ | exact fz_ints _ | exact fz_strs _) (And.intro (by first | assumption | rfl | exact fzL_ints _ | exact fzL_strs _ | exact fz_ints _ | exact fz_strs _) (by first | assumption | rfl | exact fzL_ints _ | exact fzL_strs _ | exact fz_ints _ | exact fz_strs _))) ?_; conv => whnf) | (refine And.intro (by first | exact Or.inl (by decide) | exact Or.inr (by decide)) ?_; conv => whnf) | (refine Or.inl (And.intro (by first | assumption | rfl | exact fzL_ints _ | exact fzL_strs _ | exact fz_ints _ | exact fz_strs _) ?_); conv => whnf) | (refine ⟨fun _ => ?_, fun z => Bool.noConfusion z⟩; conv => whnf) | (refine ⟨fun z => Bool.noConfusion z, fun _ => ?_⟩; conv => whnf) | (intro p0 z; rw [frz_lstp (by first | assumption | rfl | exact fzL_ints _ | exact fzL_strs _ | exact fz_ints _ | exact fz_strs _)] at z; subst z; conv => whnf) | (intro p0 z; rw [PV.fz_frz _ (by first | assumption | rfl | exact fzL_ints _ | exact fzL_strs _ | exact fz_ints _ | exact fz_strs _)] at z; subst z; conv => whnf))
          refine ⟨fun hk => ?_, fun hk => ?_⟩
          · (conv => whnf); repeat (first | (refine ⟨_, rfl, (by first | assumption | rfl | exact fzL_ints _ | exact fzL_strs _ | exact fz_ints _ | exact fz_strs _), ?_⟩; conv => whnf) | (refine ⟨_, rfl, ?_⟩; conv => whnf) | (refine And.intro rfl ?_; conv => whnf) | (refine And.intro (by first | assumption | decide | omega) ?_; conv => whnf) | (refine And.intro (by first | assumption | rfl | exact fzL_ints _ | exact fzL_strs _ | exact fz_ints _ | exact fz_strs _) ?_; conv => whnf) | (refine And.intro (And.intro (by first | assumption | decide | omega) (by first | assumption | decide | omega)) ?_; conv => whnf) | (refine And.intro (And.intro (And.intro (by first | assumption | decide | omega) (by first | assumption | decide | omega)) (And.intro (by first | assumption | decide | omega) (by first | assumption | decide | omega))) ?_; conv => whnf) | (refine And.intro (And.intro (by first | assumption | rfl | exact fzL_ints _ | exact fzL_strs _ | exact fz_ints _ | exact fz_strs _) (And.intro (by first | assumption | rfl | exact fzL_ints _ | exact fzL_strs _ | exact fz_ints _ | exact fz_strs _) (by first | assumption | rfl | exact fzL_ints _ | exact fzL_strs _ | exact fz_ints _ | exact fz_strs _))) ?_; conv => whnf) | (refine And.intro (by first | exact Or.inl (by decide) | exact Or.inr (by decide)) ?_; conv => whnf) | (refine Or.inl (And.intro (by first | assumption | rfl | exact fzL_ints _ | exact fzL_strs _ | exact fz_ints _ | exact fz_strs _) ?_); conv => whnf) | (refine ⟨fun _ => ?_, fun z => Bool.noConfusion z⟩; conv => whnf) | (refine ⟨fun z => Bool.noConfusion z, fun _ => ?_⟩; conv => whnf) | (intro p0 z; rw [frz_lstp (by first | assumption | rfl | exact fzL_ints _ | exact fzL_strs _ | exact fz_ints _ | exact fz_strs _)] at z; subst z; conv => whnf) | (intro p0 z; rw [PV.fz_frz _ (by first | assumption | rfl | exact fzL_ints _ | exact fzL_strs _ | exact fz_ints _ | exact fz_strs _)] at z; subst z; conv => whnf))
            exact ⟨some a, todo, _, rfl, by rw [leastG, stepF] at h2; simpa [hk] using h2, rfl⟩
          · (conv => whnf); repeat (first | (refine ⟨_, rfl, (by first | assumption | rfl | exact fzL_ints _ | exact fzL_strs _ | exact fz_ints _ | exact fz_strs _), ?_⟩; conv => whnf) | (refine ⟨_, rfl, ?_⟩; conv => whnf) | (refine And.intro rfl ?_; conv => whnf) | (refine And.intro (by first | assumption | decide | omega) ?_; conv => whnf) | (refine And.intro (by first | assumption | rfl | exact fzL_ints _ | exact fzL_strs _ | exact fz_ints _ | exact fz_strs _) ?_; conv => whnf) | (refine And.intro (And.intro (by first | assumption | decide | omega) (by first | assumption | decide | omega)) ?_; conv => whnf) | (refine And.intro (And.intro (And.intro (by first | assumption | decide | omega) (by first | assumption | decide | omega)) (And.intro (by first | assumption | decide | omega) (by first | assumption | decide | omega))) ?_; conv => whnf) | (refine And.intro (And.intro (by first | assumption | rfl | exact fzL_ints _ | exact fzL_strs _ | exact fz_ints _ | exact fz_strs _) (And.intro (by first | assumption | rfl | exact fzL_ints _ | exact fzL_strs _ | exact fz_ints _ | exact fz_strs _) (by first | assumption | rfl | exact fzL_ints _ | exact fzL_strs _ | exact fz_ints _ | exact fz_strs _))) ?_; conv => whnf) | (refine And.intro (by first | exact Or.inl (by decide) | exact Or.inr (by decide)) ?_; conv => whnf) | (refine Or.inl (And.intro (by first | assumption | rfl | exact fzL_ints _ | exact fzL_strs _ | exact fz_ints _ | exact fz_strs _) ?_); conv => whnf) | (refine ⟨fun _ => ?_, fun z => Bool.noConfusion z⟩; conv => whnf) | (refine ⟨fun z => Bool.noConfusion z, fun _ => ?_⟩; conv => whnf) | (intro p0 z; rw [frz_lstp (by first | assumption | rfl | exact fzL_ints _ | exact fzL_strs _ | exact fz_ints _ | exact fz_strs _)] at z; subst z; conv => whnf) | (intro p0 z; rw [PV.fz_frz _ (by first | assumption | rfl | exact fzL_ints _ | exact fzL_strs _ | exact fz_ints _ | exact fz_strs _)] at z; subst z; conv => whnf))
            exact ⟨some b, todo, _, rfl, by rw [leastG, stepF] at h2; simpa [hk] using h2, rfl⟩
end K02
end
section
set_option Elab.async false
set_option linter.all false
set_option maxRecDepth 100001
set_option maxHeartbeats 4000001
set_option autoImplicit false
namespace K02
open PySem Y
theorem T_pool : lw.T ("_law_pool" : Str) = some ⟨7, 3, [true, true, true], poolB⟩ := tblOf_mem (e := en_law_pool) nd (by simp [lw])
theorem T_file : lw.T ("_law_file" : Str) = some ⟨5, 3, [true, true, true], fileB⟩ := tblOf_mem (e := en_law_file) nd (by simp [lw])
def kO : Kd (Option (List Str)) := ⟨oP, fun x => match x with
    | none => .none
    | some a => .list (a.map .str), 1, fun x => by
    cases x with
    | none => rfl
    | some a => exact (kStr.list).dat a, fun x y => by
    cases x with
    | none =>
      cases y with
      | none => rfl
      | some b => simp [PyData.eqv]
    | some a =>
      cases y with
      | none => simp [PyData.eqv]
      | some b => exact ((kStr.list).eqv a b).trans (by simp), fun x => by
    cases x with
    | none => simp [PyData.depth]
    | some a => exact (kStr.list).dep a⟩
theorem law_ok {n : Nat} {ns : List Int} (hl : ns.length ≤ 63) : zC (callN lw.T 100 (n + 4)) ("law" : Str) [.lck (ns.map .int)] (fun p _ => p = .bl true) NE := by
  refine run_ok (tblOf_mem (e := en_law) nd (by simp [lw])) rfl ?_
  (conv => whnf); repeat (first | (refine ⟨_, rfl, (by first | assumption | rfl | exact fzL_ints _ | exact fzL_strs _ | exact fz_ints _ | exact fz_strs _), ?_⟩; conv => whnf) | (refine ⟨_, rfl, ?_⟩; conv => whnf) | (refine And.intro rfl ?_; conv => whnf) | (refine And.intro (by first | assumption | decide | omega) ?_; conv => whnf) | (refine And.intro (by first | assumption | rfl | exact fzL_ints _ | exact fzL_strs _ | exact fz_ints _ | exact fz_strs _) ?_; conv => whnf) | (refine And.intro (And.intro (by first | assumption | decide | omega) (by first | assumption | decide | omega)) ?_; conv => whnf) | (refine And.intro (And.intro (And.intro (by first | assumption | decide | omega) (by first | assumption | decide | omega)) (And.intro (by first | assumption | decide | omega) (by first | assumption | decide | omega))) ?_; conv => whnf) | (refine And.intro (And.intro (by first | assumption | rfl | exact fzL_ints _ | exact fzL_strs _ | exact fz_ints _ | exact fz_strs _) (And.intro (by first | assumption | rfl | exact fzL_ints _ | exact fzL_strs _ | exact fz_ints _ | exact fz_strs _) (by first | assumption | rfl | exact fzL_ints _ | exact fzL_strs _ | exact fz_ints _ | exact fz_strs _))) ?_; conv => whnf) | (refine And.intro (by first | exact Or.inl (by decide) | exact Or.inr (by decide)) ?_; conv => whnf) | (refine Or.inl (And.intro (by first | assumption | rfl | exact fzL_ints _ | exact fzL_strs _ | exact fz_ints _ | exact fz_strs _) ?_); conv => whnf) | (refine ⟨fun _ => ?_, fun z => Bool.noConfusion z⟩; conv => whnf) | (refine ⟨fun z => Bool.noConfusion z, fun _ => ?_⟩; conv => whnf) | (intro p0 z; rw [frz_lstp (by first | assumption | rfl | exact fzL_ints _ | exact fzL_strs _ | exact fz_ints _ | exact fz_strs _)] at z; subst z; conv => whnf) | (intro p0 z; rw [PV.fz_frz _ (by first | assumption | rfl | exact fzL_ints _ | exact fzL_strs _ | exact fz_ints _ | exact fz_strs _)] at z; subst z; conv => whnf))
  refine pot_ok T_pot hl fun cs hc => ?_
  (conv => whnf); repeat (first | (refine ⟨_, rfl, (by first | assumption | rfl | exact fzL_ints _ | exact fzL_strs _ | exact fz_ints _ | exact fz_strs _), ?_⟩; conv => whnf) | (refine ⟨_, rfl, ?_⟩; conv => whnf) | (refine And.intro rfl ?_; conv => whnf) | (refine And.intro (by first | assumption | decide | omega) ?_; conv => whnf) | (refine And.intro (by first | assumption | rfl | exact fzL_ints _ | exact fzL_strs _ | exact fz_ints _ | exact fz_strs _) ?_; conv => whnf) | (refine And.intro (And.intro (by first | assumption | decide | omega) (by first | assumption | decide | omega)) ?_; conv => whnf) | (refine And.intro (And.intro (And.intro (by first | assumption | decide | omega) (by first | assumption | decide | omega)) (And.intro (by first | assumption | decide | omega) (by first | assumption | decide | omega))) ?_; conv => whnf) | (refine And.intro (And.intro (by first | assumption | rfl | exact fzL_ints _ | exact fzL_strs _ | exact fz_ints _ | exact fz_strs _) (And.intro (by first | assumption | rfl | exact fzL_ints _ | exact fzL_strs _ | exact fz_ints _ | exact fz_strs _) (by first | assumption | rfl | exact fzL_ints _ | exact fzL_strs _ | exact fz_ints _ | exact fz_strs _))) ?_; conv => whnf) | (refine And.intro (by first | exact Or.inl (by decide) | exact Or.inr (by decide)) ?_; conv => whnf) | (refine Or.inl (And.intro (by first | assumption | rfl | exact fzL_ints _ | exact fzL_strs _ | exact fz_ints _ | exact fz_strs _) ?_); conv => whnf) | (refine ⟨fun _ => ?_, fun z => Bool.noConfusion z⟩; conv => whnf) | (refine ⟨fun z => Bool.noConfusion z, fun _ => ?_⟩; conv => whnf) | (intro p0 z; rw [frz_lstp (by first | assumption | rfl | exact fzL_ints _ | exact fzL_strs _ | exact fz_ints _ | exact fz_strs _)] at z; subst z; conv => whnf) | (intro p0 z; rw [PV.fz_frz _ (by first | assumption | rfl | exact fzL_ints _ | exact fzL_strs _ | exact fz_ints _ | exact fz_strs _)] at z; subst z; conv => whnf))
  refine draw_ok T_draw hc (by decide) (lg (by decide) (by decide)) fun d i1 r1 k1 h0 h1 => ?_
  (conv => whnf); repeat (first | (refine ⟨_, rfl, (by first | assumption | rfl | exact fzL_ints _ | exact fzL_strs _ | exact fz_ints _ | exact fz_strs _), ?_⟩; conv => whnf) | (refine ⟨_, rfl, ?_⟩; conv => whnf) | (refine And.intro rfl ?_; conv => whnf) | (refine And.intro (by first | assumption | decide | omega) ?_; conv => whnf) | (refine And.intro (by first | assumption | rfl | exact fzL_ints _ | exact fzL_strs _ | exact fz_ints _ | exact fz_strs _) ?_; conv => whnf) | (refine And.intro (And.intro (by first | assumption | decide | omega) (by first | assumption | decide | omega)) ?_; conv => whnf) | (refine And.intro (And.intro (And.intro (by first | assumption | decide | omega) (by first | assumption | decide | omega)) (And.intro (by first | assumption | decide | omega) (by first | assumption | decide | omega))) ?_; conv => whnf) | (refine And.intro (And.intro (by first | assumption | rfl | exact fzL_ints _ | exact fzL_strs _ | exact fz_ints _ | exact fz_strs _) (And.intro (by first | assumption | rfl | exact fzL_ints _ | exact fzL_strs _ | exact fz_ints _ | exact fz_strs _) (by first | assumption | rfl | exact fzL_ints _ | exact fzL_strs _ | exact fz_ints _ | exact fz_strs _))) ?_; conv => whnf) | (refine And.intro (by first | exact Or.inl (by decide) | exact Or.inr (by decide)) ?_; conv => whnf) | (refine Or.inl (And.intro (by first | assumption | rfl | exact fzL_ints _ | exact fzL_strs _ | exact fz_ints _ | exact fz_strs _) ?_); conv => whnf) | (refine ⟨fun _ => ?_, fun z => Bool.noConfusion z⟩; conv => whnf) | (refine ⟨fun z => Bool.noConfusion z, fun _ => ?_⟩; conv => whnf) | (intro p0 z; rw [frz_lstp (by first | assumption | rfl | exact fzL_ints _ | exact fzL_strs _ | exact fz_ints _ | exact fz_strs _)] at z; subst z; conv => whnf) | (intro p0 z; rw [PV.fz_frz _ (by first | assumption | rfl | exact fzL_ints _ | exact fzL_strs _ | exact fz_ints _ | exact fz_strs _)] at z; subst z; conv => whnf))
  refine pool_ok T_draw T_text T_pool hc (by omega) (by omega) (by decide) (by decide) fun ls i2 r2 k2 hp1 hp2 hp3 => ?_
  have hls : ls ≠ [] := fun z => by rw [z] at hp1; simp at hp1; omega
  have hls2 : ls.length ≤ 1000 := by omega
  have hlsp : 0 < ls.length := List.length_pos_iff.mpr hls
  (conv => whnf); repeat (first | (refine ⟨_, rfl, (by first | assumption | rfl | exact fzL_ints _ | exact fzL_strs _ | exact fz_ints _ | exact fz_strs _), ?_⟩; conv => whnf) | (refine ⟨_, rfl, ?_⟩; conv => whnf) | (refine And.intro rfl ?_; conv => whnf) | (refine And.intro (by first | assumption | decide | omega) ?_; conv => whnf) | (refine And.intro (by first | assumption | rfl | exact fzL_ints _ | exact fzL_strs _ | exact fz_ints _ | exact fz_strs _) ?_; conv => whnf) | (refine And.intro (And.intro (by first | assumption | decide | omega) (by first | assumption | decide | omega)) ?_; conv => whnf) | (refine And.intro (And.intro (And.intro (by first | assumption | decide | omega) (by first | assumption | decide | omega)) (And.intro (by first | assumption | decide | omega) (by first | assumption | decide | omega))) ?_; conv => whnf) | (refine And.intro (And.intro (by first | assumption | rfl | exact fzL_ints _ | exact fzL_strs _ | exact fz_ints _ | exact fz_strs _) (And.intro (by first | assumption | rfl | exact fzL_ints _ | exact fzL_strs _ | exact fz_ints _ | exact fz_strs _) (by first | assumption | rfl | exact fzL_ints _ | exact fzL_strs _ | exact fz_ints _ | exact fz_strs _))) ?_; conv => whnf) | (refine And.intro (by first | exact Or.inl (by decide) | exact Or.inr (by decide)) ?_; conv => whnf) | (refine Or.inl (And.intro (by first | assumption | rfl | exact fzL_ints _ | exact fzL_strs _ | exact fz_ints _ | exact fz_strs _) ?_); conv => whnf) | (refine ⟨fun _ => ?_, fun z => Bool.noConfusion z⟩; conv => whnf) | (refine ⟨fun z => Bool.noConfusion z, fun _ => ?_⟩; conv => whnf) | (intro p0 z; rw [frz_lstp (by first | assumption | rfl | exact fzL_ints _ | exact fzL_strs _ | exact fz_ints _ | exact fz_strs _)] at z; subst z; conv => whnf) | (intro p0 z; rw [PV.fz_frz _ (by first | assumption | rfl | exact fzL_ints _ | exact fzL_strs _ | exact fz_ints _ | exact fz_strs _)] at z; subst z; conv => whnf))
  refine zK_in (fun rest acc ρ => ∃ (i r k : Int) (fs : List (List Str)), acc = fs.map fP ∧ fs.length + rest.length = 3 ∧ (∀ f ∈ fs, f.length ≤ 6) ∧ ρ = [some (.lck (ns.map .int)), some (potP cs i r k), some (.lst true (ls.map .str)), none, none, none, none, none, none, none, none, none, none, none]) ?_ ?_ ?_
  · exact ⟨_, _, _, [], rfl, rfl, by simp, rfl⟩
  rotate_left
  · rintro x rest acc _ ⟨i, r, k, fs, rfl, a1, a2, rfl⟩
    refine ⟨_, rfl, ?_⟩
    (conv => whnf); repeat (first | (refine ⟨_, rfl, (by first | assumption | rfl | exact fzL_ints _ | exact fzL_strs _ | exact fz_ints _ | exact fz_strs _), ?_⟩; conv => whnf) | (refine ⟨_, rfl, ?_⟩; conv => whnf) | (refine And.intro rfl ?_; conv => whnf) | (refine And.intro (by first | assumption | decide | omega) ?_; conv => whnf) | (refine And.intro (by first | assumption | rfl | exact fzL_ints _ | exact fzL_strs _ | exact fz_ints _ | exact fz_strs _) ?_; conv => whnf) | (refine And.intro (And.intro (by first | assumption | decide | omega) (by first | assumption | decide | omega)) ?_; conv => whnf) | (refine And.intro (And.intro (And.intro (by first | assumption | decide | omega) (by first | assumption | decide | omega)) (And.intro (by first | assumption | decide | omega) (by first | assumption | decide | omega))) ?_; conv => whnf) | (refine And.intro (And.intro (by first | assumption | rfl | exact fzL_ints _ | exact fzL_strs _ | exact fz_ints _ | exact fz_strs _) (And.intro (by first | assumption | rfl | exact fzL_ints _ | exact fzL_strs _ | exact fz_ints _ | exact fz_strs _) (by first | assumption | rfl | exact fzL_ints _ | exact fzL_strs _ | exact fz_ints _ | exact fz_strs _))) ?_; conv => whnf) | (refine And.intro (by first | exact Or.inl (by decide) | exact Or.inr (by decide)) ?_; conv => whnf) | (refine Or.inl (And.intro (by first | assumption | rfl | exact fzL_ints _ | exact fzL_strs _ | exact fz_ints _ | exact fz_strs _) ?_); conv => whnf) | (refine ⟨fun _ => ?_, fun z => Bool.noConfusion z⟩; conv => whnf) | (refine ⟨fun z => Bool.noConfusion z, fun _ => ?_⟩; conv => whnf) | (intro p0 z; rw [frz_lstp (by first | assumption | rfl | exact fzL_ints _ | exact fzL_strs _ | exact fz_ints _ | exact fz_strs _)] at z; subst z; conv => whnf) | (intro p0 z; rw [PV.fz_frz _ (by first | assumption | rfl | exact fzL_ints _ | exact fzL_strs _ | exact fz_ints _ | exact fz_strs _)] at z; subst z; conv => whnf))
    refine file_ok T_draw T_file hc hls hls2 (by decide) (by decide) fun f i3 r3 k3 f1 f2 => ?_
    refine ⟨_, frz_lstp (fzL_strs _), Nat.lt_of_le_of_lt (show _ ≤ 10 by simp at a1 ⊢; omega) (by rw [sizeLine_eq]; decide), _, _, _, fs ++ [f], by simp, by simp at a1 ⊢; omega, fun g hg => ?_, rfl⟩
    rcases mem_app_one hg with h | rfl
    · exact a2 g h
    · omega
  rintro _ _ ⟨i, r, k, fs, rfl, a1, a2, rfl⟩
  have a1 : fs.length = 3 := by simpa using a1
  (conv => whnf); repeat (first | (refine ⟨_, rfl, (by first | assumption | rfl | exact fzL_ints _ | exact fzL_strs _ | exact fz_ints _ | exact fz_strs _), ?_⟩; conv => whnf) | (refine ⟨_, rfl, ?_⟩; conv => whnf) | (refine And.intro rfl ?_; conv => whnf) | (refine And.intro (by first | assumption | decide | omega) ?_; conv => whnf) | (refine And.intro (by first | assumption | rfl | exact fzL_ints _ | exact fzL_strs _ | exact fz_ints _ | exact fz_strs _) ?_; conv => whnf) | (refine And.intro (And.intro (by first | assumption | decide | omega) (by first | assumption | decide | omega)) ?_; conv => whnf) | (refine And.intro (And.intro (And.intro (by first | assumption | decide | omega) (by first | assumption | decide | omega)) (And.intro (by first | assumption | decide | omega) (by first | assumption | decide | omega))) ?_; conv => whnf) | (refine And.intro (And.intro (by first | assumption | rfl | exact fzL_ints _ | exact fzL_strs _ | exact fz_ints _ | exact fz_strs _) (And.intro (by first | assumption | rfl | exact fzL_ints _ | exact fzL_strs _ | exact fz_ints _ | exact fz_strs _) (by first | assumption | rfl | exact fzL_ints _ | exact fzL_strs _ | exact fz_ints _ | exact fz_strs _))) ?_; conv => whnf) | (refine And.intro (by first | exact Or.inl (by decide) | exact Or.inr (by decide)) ?_; conv => whnf) | (refine Or.inl (And.intro (by first | assumption | rfl | exact fzL_ints _ | exact fzL_strs _ | exact fz_ints _ | exact fz_strs _) ?_); conv => whnf) | (refine ⟨fun _ => ?_, fun z => Bool.noConfusion z⟩; conv => whnf) | (refine ⟨fun z => Bool.noConfusion z, fun _ => ?_⟩; conv => whnf) | (intro p0 z; rw [frz_lstp (by first | assumption | rfl | exact fzL_ints _ | exact fzL_strs _ | exact fz_ints _ | exact fz_strs _)] at z; subst z; conv => whnf) | (intro p0 z; rw [PV.fz_frz _ (by first | assumption | rfl | exact fzL_ints _ | exact fzL_strs _ | exact fz_ints _ | exact fz_strs _)] at z; subst z; conv => whnf))
  refine zF_in (fun rest ρ => ∃ (i r k : Int) (gs : List (List Str)) (z4 z11 : Option PV), gs.length + rest.length = 6 ∧ 3 ≤ gs.length ∧ (∀ f ∈ gs, f.length ≤ 6) ∧ ρ = [some (.lck (ns.map .int)), some (potP cs i r k), some (.lst true (ls.map .str)), some (.lst true (gs.map fP)), z4, none, none, none, none, none, none, z11, none, none]) ?_ ?_ ?_
  · exact ⟨_, _, _, fs, none, none, by simp [rng_len]; omega, by omega, a2, rfl⟩
  rotate_left
  · rintro x rest _ ⟨i, r, k, gs, z4, z11, b1, b2, b3, rfl⟩
    simp only [List.length_cons] at b1
    refine ⟨_, rfl, ?_⟩
    (conv => whnf); repeat (first | (refine ⟨_, rfl, (by first | assumption | rfl | exact fzL_ints _ | exact fzL_strs _ | exact fz_ints _ | exact fz_strs _), ?_⟩; conv => whnf) | (refine ⟨_, rfl, ?_⟩; conv => whnf) | (refine And.intro rfl ?_; conv => whnf) | (refine And.intro (by first | assumption | decide | omega) ?_; conv => whnf) | (refine And.intro (by first | assumption | rfl | exact fzL_ints _ | exact fzL_strs _ | exact fz_ints _ | exact fz_strs _) ?_; conv => whnf) | (refine And.intro (And.intro (by first | assumption | decide | omega) (by first | assumption | decide | omega)) ?_; conv => whnf) | (refine And.intro (And.intro (And.intro (by first | assumption | decide | omega) (by first | assumption | decide | omega)) (And.intro (by first | assumption | decide | omega) (by first | assumption | decide | omega))) ?_; conv => whnf) | (refine And.intro (And.intro (by first | assumption | rfl | exact fzL_ints _ | exact fzL_strs _ | exact fz_ints _ | exact fz_strs _) (And.intro (by first | assumption | rfl | exact fzL_ints _ | exact fzL_strs _ | exact fz_ints _ | exact fz_strs _) (by first | assumption | rfl | exact fzL_ints _ | exact fzL_strs _ | exact fz_ints _ | exact fz_strs _))) ?_; conv => whnf) | (refine And.intro (by first | exact Or.inl (by decide) | exact Or.inr (by decide)) ?_; conv => whnf) | (refine Or.inl (And.intro (by first | assumption | rfl | exact fzL_ints _ | exact fzL_strs _ | exact fz_ints _ | exact fz_strs _) ?_); conv => whnf) | (refine ⟨fun _ => ?_, fun z => Bool.noConfusion z⟩; conv => whnf) | (refine ⟨fun z => Bool.noConfusion z, fun _ => ?_⟩; conv => whnf) | (intro p0 z; rw [frz_lstp (by first | assumption | rfl | exact fzL_ints _ | exact fzL_strs _ | exact fz_ints _ | exact fz_strs _)] at z; subst z; conv => whnf) | (intro p0 z; rw [PV.fz_frz _ (by first | assumption | rfl | exact fzL_ints _ | exact fzL_strs _ | exact fz_ints _ | exact fz_strs _)] at z; subst z; conv => whnf))
    refine draw_ok T_draw hc (by decide) (lg (by decide) (by decide)) fun d3 i3 r3 k3 c0 c1 => ?_
    (conv => whnf); repeat (first | (refine ⟨_, rfl, (by first | assumption | rfl | exact fzL_ints _ | exact fzL_strs _ | exact fz_ints _ | exact fz_strs _), ?_⟩; conv => whnf) | (refine ⟨_, rfl, ?_⟩; conv => whnf) | (refine And.intro rfl ?_; conv => whnf) | (refine And.intro (by first | assumption | decide | omega) ?_; conv => whnf) | (refine And.intro (by first | assumption | rfl | exact fzL_ints _ | exact fzL_strs _ | exact fz_ints _ | exact fz_strs _) ?_; conv => whnf) | (refine And.intro (And.intro (by first | assumption | decide | omega) (by first | assumption | decide | omega)) ?_; conv => whnf) | (refine And.intro (And.intro (And.intro (by first | assumption | decide | omega) (by first | assumption | decide | omega)) (And.intro (by first | assumption | decide | omega) (by first | assumption | decide | omega))) ?_; conv => whnf) | (refine And.intro (And.intro (by first | assumption | rfl | exact fzL_ints _ | exact fzL_strs _ | exact fz_ints _ | exact fz_strs _) (And.intro (by first | assumption | rfl | exact fzL_ints _ | exact fzL_strs _ | exact fz_ints _ | exact fz_strs _) (by first | assumption | rfl | exact fzL_ints _ | exact fzL_strs _ | exact fz_ints _ | exact fz_strs _))) ?_; conv => whnf) | (refine And.intro (by first | exact Or.inl (by decide) | exact Or.inr (by decide)) ?_; conv => whnf) | (refine Or.inl (And.intro (by first | assumption | rfl | exact fzL_ints _ | exact fzL_strs _ | exact fz_ints _ | exact fz_strs _) ?_); conv => whnf) | (refine ⟨fun _ => ?_, fun z => Bool.noConfusion z⟩; conv => whnf) | (refine ⟨fun z => Bool.noConfusion z, fun _ => ?_⟩; conv => whnf) | (intro p0 z; rw [frz_lstp (by first | assumption | rfl | exact fzL_ints _ | exact fzL_strs _ | exact fz_ints _ | exact fz_strs _)] at z; subst z; conv => whnf) | (intro p0 z; rw [PV.fz_frz _ (by first | assumption | rfl | exact fzL_ints _ | exact fzL_strs _ | exact fz_ints _ | exact fz_strs _)] at z; subst z; conv => whnf))
    obtain ⟨near, hn, en⟩ : ∃ f ∈ gs, L2.atI (gs.map fP) d3 = some (fP f) := by
      have h2 : d3.toNat < gs.length := by omega
      refine ⟨gs[d3.toNat], List.getElem_mem h2, ?_⟩
      have := atI_map (f := fP) h2
      rwa [show ((d3.toNat : Nat) : Int) = d3 from by omega] at this
    have hn6 := b3 near hn
    refine ⟨_, en, fz_strs _, ?_⟩
    (conv => whnf); repeat (first | (refine ⟨_, rfl, (by first | assumption | rfl | exact fzL_ints _ | exact fzL_strs _ | exact fz_ints _ | exact fz_strs _), ?_⟩; conv => whnf) | (refine ⟨_, rfl, ?_⟩; conv => whnf) | (refine And.intro rfl ?_; conv => whnf) | (refine And.intro (by first | assumption | decide | omega) ?_; conv => whnf) | (refine And.intro (by first | assumption | rfl | exact fzL_ints _ | exact fzL_strs _ | exact fz_ints _ | exact fz_strs _) ?_; conv => whnf) | (refine And.intro (And.intro (by first | assumption | decide | omega) (by first | assumption | decide | omega)) ?_; conv => whnf) | (refine And.intro (And.intro (And.intro (by first | assumption | decide | omega) (by first | assumption | decide | omega)) (And.intro (by first | assumption | decide | omega) (by first | assumption | decide | omega))) ?_; conv => whnf) | (refine And.intro (And.intro (by first | assumption | rfl | exact fzL_ints _ | exact fzL_strs _ | exact fz_ints _ | exact fz_strs _) (And.intro (by first | assumption | rfl | exact fzL_ints _ | exact fzL_strs _ | exact fz_ints _ | exact fz_strs _) (by first | assumption | rfl | exact fzL_ints _ | exact fzL_strs _ | exact fz_ints _ | exact fz_strs _))) ?_; conv => whnf) | (refine And.intro (by first | exact Or.inl (by decide) | exact Or.inr (by decide)) ?_; conv => whnf) | (refine Or.inl (And.intro (by first | assumption | rfl | exact fzL_ints _ | exact fzL_strs _ | exact fz_ints _ | exact fz_strs _) ?_); conv => whnf) | (refine ⟨fun _ => ?_, fun z => Bool.noConfusion z⟩; conv => whnf) | (refine ⟨fun z => Bool.noConfusion z, fun _ => ?_⟩; conv => whnf) | (intro p0 z; rw [frz_lstp (by first | assumption | rfl | exact fzL_ints _ | exact fzL_strs _ | exact fz_ints _ | exact fz_strs _)] at z; subst z; conv => whnf) | (intro p0 z; rw [PV.fz_frz _ (by first | assumption | rfl | exact fzL_ints _ | exact fzL_strs _ | exact fz_ints _ | exact fz_strs _)] at z; subst z; conv => whnf))
    refine draw_ok T_draw hc (by decide) (lg (by decide) (by decide)) fun d4 i4 r4 k4 c2 c3 => ?_
    (conv => whnf); repeat (first | (refine ⟨_, rfl, (by first | assumption | rfl | exact fzL_ints _ | exact fzL_strs _ | exact fz_ints _ | exact fz_strs _), ?_⟩; conv => whnf) | (refine ⟨_, rfl, ?_⟩; conv => whnf) | (refine And.intro rfl ?_; conv => whnf) | (refine And.intro (by first | assumption | decide | omega) ?_; conv => whnf) | (refine And.intro (by first | assumption | rfl | exact fzL_ints _ | exact fzL_strs _ | exact fz_ints _ | exact fz_strs _) ?_; conv => whnf) | (refine And.intro (And.intro (by first | assumption | decide | omega) (by first | assumption | decide | omega)) ?_; conv => whnf) | (refine And.intro (And.intro (And.intro (by first | assumption | decide | omega) (by first | assumption | decide | omega)) (And.intro (by first | assumption | decide | omega) (by first | assumption | decide | omega))) ?_; conv => whnf) | (refine And.intro (And.intro (by first | assumption | rfl | exact fzL_ints _ | exact fzL_strs _ | exact fz_ints _ | exact fz_strs _) (And.intro (by first | assumption | rfl | exact fzL_ints _ | exact fzL_strs _ | exact fz_ints _ | exact fz_strs _) (by first | assumption | rfl | exact fzL_ints _ | exact fzL_strs _ | exact fz_ints _ | exact fz_strs _))) ?_; conv => whnf) | (refine And.intro (by first | exact Or.inl (by decide) | exact Or.inr (by decide)) ?_; conv => whnf) | (refine Or.inl (And.intro (by first | assumption | rfl | exact fzL_ints _ | exact fzL_strs _ | exact fz_ints _ | exact fz_strs _) ?_); conv => whnf) | (refine ⟨fun _ => ?_, fun z => Bool.noConfusion z⟩; conv => whnf) | (refine ⟨fun z => Bool.noConfusion z, fun _ => ?_⟩; conv => whnf) | (intro p0 z; rw [frz_lstp (by first | assumption | rfl | exact fzL_ints _ | exact fzL_strs _ | exact fz_ints _ | exact fz_strs _)] at z; subst z; conv => whnf) | (intro p0 z; rw [PV.fz_frz _ (by first | assumption | rfl | exact fzL_ints _ | exact fzL_strs _ | exact fz_ints _ | exact fz_strs _)] at z; subst z; conv => whnf))
    refine ⟨fun e4 => ?_, fun e4 => ?_⟩
    · (conv => whnf); repeat (first | (refine ⟨_, rfl, (by first | assumption | rfl | exact fzL_ints _ | exact fzL_strs _ | exact fz_ints _ | exact fz_strs _), ?_⟩; conv => whnf) | (refine ⟨_, rfl, ?_⟩; conv => whnf) | (refine And.intro rfl ?_; conv => whnf) | (refine And.intro (by first | assumption | decide | omega) ?_; conv => whnf) | (refine And.intro (by first | assumption | rfl | exact fzL_ints _ | exact fzL_strs _ | exact fz_ints _ | exact fz_strs _) ?_; conv => whnf) | (refine And.intro (And.intro (by first | assumption | decide | omega) (by first | assumption | decide | omega)) ?_; conv => whnf) | (refine And.intro (And.intro (And.intro (by first | assumption | decide | omega) (by first | assumption | decide | omega)) (And.intro (by first | assumption | decide | omega) (by first | assumption | decide | omega))) ?_; conv => whnf) | (refine And.intro (And.intro (by first | assumption | rfl | exact fzL_ints _ | exact fzL_strs _ | exact fz_ints _ | exact fz_strs _) (And.intro (by first | assumption | rfl | exact fzL_ints _ | exact fzL_strs _ | exact fz_ints _ | exact fz_strs _) (by first | assumption | rfl | exact fzL_ints _ | exact fzL_strs _ | exact fz_ints _ | exact fz_strs _))) ?_; conv => whnf) | (refine And.intro (by first | exact Or.inl (by decide) | exact Or.inr (by decide)) ?_; conv => whnf) | (refine Or.inl (And.intro (by first | assumption | rfl | exact fzL_ints _ | exact fzL_strs _ | exact fz_ints _ | exact fz_strs _) ?_); conv => whnf) | (refine ⟨fun _ => ?_, fun z => Bool.noConfusion z⟩; conv => whnf) | (refine ⟨fun z => Bool.noConfusion z, fun _ => ?_⟩; conv => whnf) | (intro p0 z; rw [frz_lstp (by first | assumption | rfl | exact fzL_ints _ | exact fzL_strs _ | exact fz_ints _ | exact fz_strs _)] at z; subst z; conv => whnf) | (intro p0 z; rw [PV.fz_frz _ (by first | assumption | rfl | exact fzL_ints _ | exact fzL_strs _ | exact fz_ints _ | exact fz_strs _)] at z; subst z; conv => whnf))
      refine ⟨_, n_neS0, ?_⟩
      (conv => whnf); repeat (first | (refine ⟨_, rfl, (by first | assumption | rfl | exact fzL_ints _ | exact fzL_strs _ | exact fz_ints _ | exact fz_strs _), ?_⟩; conv => whnf) | (refine ⟨_, rfl, ?_⟩; conv => whnf) | (refine And.intro rfl ?_; conv => whnf) | (refine And.intro (by first | assumption | decide | omega) ?_; conv => whnf) | (refine And.intro (by first | assumption | rfl | exact fzL_ints _ | exact fzL_strs _ | exact fz_ints _ | exact fz_strs _) ?_; conv => whnf) | (refine And.intro (And.intro (by first | assumption | decide | omega) (by first | assumption | decide | omega)) ?_; conv => whnf) | (refine And.intro (And.intro (And.intro (by first | assumption | decide | omega) (by first | assumption | decide | omega)) (And.intro (by first | assumption | decide | omega) (by first | assumption | decide | omega))) ?_; conv => whnf) | (refine And.intro (And.intro (by first | assumption | rfl | exact fzL_ints _ | exact fzL_strs _ | exact fz_ints _ | exact fz_strs _) (And.intro (by first | assumption | rfl | exact fzL_ints _ | exact fzL_strs _ | exact fz_ints _ | exact fz_strs _) (by first | assumption | rfl | exact fzL_ints _ | exact fzL_strs _ | exact fz_ints _ | exact fz_strs _))) ?_; conv => whnf) | (refine And.intro (by first | exact Or.inl (by decide) | exact Or.inr (by decide)) ?_; conv => whnf) | (refine Or.inl (And.intro (by first | assumption | rfl | exact fzL_ints _ | exact fzL_strs _ | exact fz_ints _ | exact fz_strs _) ?_); conv => whnf) | (refine ⟨fun _ => ?_, fun z => Bool.noConfusion z⟩; conv => whnf) | (refine ⟨fun z => Bool.noConfusion z, fun _ => ?_⟩; conv => whnf) | (intro p0 z; rw [frz_lstp (by first | assumption | rfl | exact fzL_ints _ | exact fzL_strs _ | exact fz_ints _ | exact fz_strs _)] at z; subst z; conv => whnf) | (intro p0 z; rw [PV.fz_frz _ (by first | assumption | rfl | exact fzL_ints _ | exact fzL_strs _ | exact fz_ints _ | exact fz_strs _)] at z; subst z; conv => whnf))
      refine ⟨fun e5 => ?_, fun e5 => ?_⟩
      · have hnz : near ≠ [] := by simpa using e5
        have hnp : 0 < near.length := List.length_pos_iff.mpr hnz
        (conv => whnf); repeat (first | (refine ⟨_, rfl, (by first | assumption | rfl | exact fzL_ints _ | exact fzL_strs _ | exact fz_ints _ | exact fz_strs _), ?_⟩; conv => whnf) | (refine ⟨_, rfl, ?_⟩; conv => whnf) | (refine And.intro rfl ?_; conv => whnf) | (refine And.intro (by first | assumption | decide | omega) ?_; conv => whnf) | (refine And.intro (by first | assumption | rfl | exact fzL_ints _ | exact fzL_strs _ | exact fz_ints _ | exact fz_strs _) ?_; conv => whnf) | (refine And.intro (And.intro (by first | assumption | decide | omega) (by first | assumption | decide | omega)) ?_; conv => whnf) | (refine And.intro (And.intro (And.intro (by first | assumption | decide | omega) (by first | assumption | decide | omega)) (And.intro (by first | assumption | decide | omega) (by first | assumption | decide | omega))) ?_; conv => whnf) | (refine And.intro (And.intro (by first | assumption | rfl | exact fzL_ints _ | exact fzL_strs _ | exact fz_ints _ | exact fz_strs _) (And.intro (by first | assumption | rfl | exact fzL_ints _ | exact fzL_strs _ | exact fz_ints _ | exact fz_strs _) (by first | assumption | rfl | exact fzL_ints _ | exact fzL_strs _ | exact fz_ints _ | exact fz_strs _))) ?_; conv => whnf) | (refine And.intro (by first | exact Or.inl (by decide) | exact Or.inr (by decide)) ?_; conv => whnf) | (refine Or.inl (And.intro (by first | assumption | rfl | exact fzL_ints _ | exact fzL_strs _ | exact fz_ints _ | exact fz_strs _) ?_); conv => whnf) | (refine ⟨fun _ => ?_, fun z => Bool.noConfusion z⟩; conv => whnf) | (refine ⟨fun z => Bool.noConfusion z, fun _ => ?_⟩; conv => whnf) | (intro p0 z; rw [frz_lstp (by first | assumption | rfl | exact fzL_ints _ | exact fzL_strs _ | exact fz_ints _ | exact fz_strs _)] at z; subst z; conv => whnf) | (intro p0 z; rw [PV.fz_frz _ (by first | assumption | rfl | exact fzL_ints _ | exact fzL_strs _ | exact fz_ints _ | exact fz_strs _)] at z; subst z; conv => whnf))
        refine draw_ok T_draw hc (by rw [List.length_map]; omega) (lg (by rw [List.length_map]; omega) (by rw [List.length_map]; omega)) fun d5 i5 r5 k5 g0 g1 => ?_
        (conv => whnf); repeat (first | (refine ⟨_, rfl, (by first | assumption | rfl | exact fzL_ints _ | exact fzL_strs _ | exact fz_ints _ | exact fz_strs _), ?_⟩; conv => whnf) | (refine ⟨_, rfl, ?_⟩; conv => whnf) | (refine And.intro rfl ?_; conv => whnf) | (refine And.intro (by first | assumption | decide | omega) ?_; conv => whnf) | (refine And.intro (by first | assumption | rfl | exact fzL_ints _ | exact fzL_strs _ | exact fz_ints _ | exact fz_strs _) ?_; conv => whnf) | (refine And.intro (And.intro (by first | assumption | decide | omega) (by first | assumption | decide | omega)) ?_; conv => whnf) | (refine And.intro (And.intro (And.intro (by first | assumption | decide | omega) (by first | assumption | decide | omega)) (And.intro (by first | assumption | decide | omega) (by first | assumption | decide | omega))) ?_; conv => whnf) | (refine And.intro (And.intro (by first | assumption | rfl | exact fzL_ints _ | exact fzL_strs _ | exact fz_ints _ | exact fz_strs _) (And.intro (by first | assumption | rfl | exact fzL_ints _ | exact fzL_strs _ | exact fz_ints _ | exact fz_strs _) (by first | assumption | rfl | exact fzL_ints _ | exact fzL_strs _ | exact fz_ints _ | exact fz_strs _))) ?_; conv => whnf) | (refine And.intro (by first | exact Or.inl (by decide) | exact Or.inr (by decide)) ?_; conv => whnf) | (refine Or.inl (And.intro (by first | assumption | rfl | exact fzL_ints _ | exact fzL_strs _ | exact fz_ints _ | exact fz_strs _) ?_); conv => whnf) | (refine ⟨fun _ => ?_, fun z => Bool.noConfusion z⟩; conv => whnf) | (refine ⟨fun z => Bool.noConfusion z, fun _ => ?_⟩; conv => whnf) | (intro p0 z; rw [frz_lstp (by first | assumption | rfl | exact fzL_ints _ | exact fzL_strs _ | exact fz_ints _ | exact fz_strs _)] at z; subst z; conv => whnf) | (intro p0 z; rw [PV.fz_frz _ (by first | assumption | rfl | exact fzL_ints _ | exact fzL_strs _ | exact fz_ints _ | exact fz_strs _)] at z; subst z; conv => whnf))
        obtain ⟨s, hs, es⟩ := atI_str (ls := ls) g0 (by rw [List.length_map] at g1; exact g1)
        refine ⟨_, es, rfl, ?_⟩
        (conv => whnf); repeat (first | (refine ⟨_, rfl, (by first | assumption | rfl | exact fzL_ints _ | exact fzL_strs _ | exact fz_ints _ | exact fz_strs _), ?_⟩; conv => whnf) | (refine ⟨_, rfl, ?_⟩; conv => whnf) | (refine And.intro rfl ?_; conv => whnf) | (refine And.intro (by first | assumption | decide | omega) ?_; conv => whnf) | (refine And.intro (by first | assumption | rfl | exact fzL_ints _ | exact fzL_strs _ | exact fz_ints _ | exact fz_strs _) ?_; conv => whnf) | (refine And.intro (And.intro (by first | assumption | decide | omega) (by first | assumption | decide | omega)) ?_; conv => whnf) | (refine And.intro (And.intro (And.intro (by first | assumption | decide | omega) (by first | assumption | decide | omega)) (And.intro (by first | assumption | decide | omega) (by first | assumption | decide | omega))) ?_; conv => whnf) | (refine And.intro (And.intro (by first | assumption | rfl | exact fzL_ints _ | exact fzL_strs _ | exact fz_ints _ | exact fz_strs _) (And.intro (by first | assumption | rfl | exact fzL_ints _ | exact fzL_strs _ | exact fz_ints _ | exact fz_strs _) (by first | assumption | rfl | exact fzL_ints _ | exact fzL_strs _ | exact fz_ints _ | exact fz_strs _))) ?_; conv => whnf) | (refine And.intro (by first | exact Or.inl (by decide) | exact Or.inr (by decide)) ?_; conv => whnf) | (refine Or.inl (And.intro (by first | assumption | rfl | exact fzL_ints _ | exact fzL_strs _ | exact fz_ints _ | exact fz_strs _) ?_); conv => whnf) | (refine ⟨fun _ => ?_, fun z => Bool.noConfusion z⟩; conv => whnf) | (refine ⟨fun z => Bool.noConfusion z, fun _ => ?_⟩; conv => whnf) | (intro p0 z; rw [frz_lstp (by first | assumption | rfl | exact fzL_ints _ | exact fzL_strs _ | exact fz_ints _ | exact fz_strs _)] at z; subst z; conv => whnf) | (intro p0 z; rw [PV.fz_frz _ (by first | assumption | rfl | exact fzL_ints _ | exact fzL_strs _ | exact fz_ints _ | exact fz_strs _)] at z; subst z; conv => whnf))
        refine draw_ok T_draw hc (by rw [List.length_map]; omega) (lg (by rw [List.length_map]; omega) (by rw [List.length_map]; omega)) fun d6 i6 r6 k6 q0 q1 => ?_
        (conv => whnf); repeat (first | (refine ⟨_, rfl, (by first | assumption | rfl | exact fzL_ints _ | exact fzL_strs _ | exact fz_ints _ | exact fz_strs _), ?_⟩; conv => whnf) | (refine ⟨_, rfl, ?_⟩; conv => whnf) | (refine And.intro rfl ?_; conv => whnf) | (refine And.intro (by first | assumption | decide | omega) ?_; conv => whnf) | (refine And.intro (by first | assumption | rfl | exact fzL_ints _ | exact fzL_strs _ | exact fz_ints _ | exact fz_strs _) ?_; conv => whnf) | (refine And.intro (And.intro (by first | assumption | decide | omega) (by first | assumption | decide | omega)) ?_; conv => whnf) | (refine And.intro (And.intro (And.intro (by first | assumption | decide | omega) (by first | assumption | decide | omega)) (And.intro (by first | assumption | decide | omega) (by first | assumption | decide | omega))) ?_; conv => whnf) | (refine And.intro (And.intro (by first | assumption | rfl | exact fzL_ints _ | exact fzL_strs _ | exact fz_ints _ | exact fz_strs _) (And.intro (by first | assumption | rfl | exact fzL_ints _ | exact fzL_strs _ | exact fz_ints _ | exact fz_strs _) (by first | assumption | rfl | exact fzL_ints _ | exact fzL_strs _ | exact fz_ints _ | exact fz_strs _))) ?_; conv => whnf) | (refine And.intro (by first | exact Or.inl (by decide) | exact Or.inr (by decide)) ?_; conv => whnf) | (refine Or.inl (And.intro (by first | assumption | rfl | exact fzL_ints _ | exact fzL_strs _ | exact fz_ints _ | exact fz_strs _) ?_); conv => whnf) | (refine ⟨fun _ => ?_, fun z => Bool.noConfusion z⟩; conv => whnf) | (refine ⟨fun z => Bool.noConfusion z, fun _ => ?_⟩; conv => whnf) | (intro p0 z; rw [frz_lstp (by first | assumption | rfl | exact fzL_ints _ | exact fzL_strs _ | exact fz_ints _ | exact fz_strs _)] at z; subst z; conv => whnf) | (intro p0 z; rw [PV.fz_frz _ (by first | assumption | rfl | exact fzL_ints _ | exact fzL_strs _ | exact fz_ints _ | exact fz_strs _)] at z; subst z; conv => whnf))
        refine ⟨_, ixN_in q0 q1, ?_⟩
        rw [← List.map_set]
        (conv => whnf); repeat (first | (refine ⟨_, rfl, (by first | assumption | rfl | exact fzL_ints _ | exact fzL_strs _ | exact fz_ints _ | exact fz_strs _), ?_⟩; conv => whnf) | (refine ⟨_, rfl, ?_⟩; conv => whnf) | (refine And.intro rfl ?_; conv => whnf) | (refine And.intro (by first | assumption | decide | omega) ?_; conv => whnf) | (refine And.intro (by first | assumption | rfl | exact fzL_ints _ | exact fzL_strs _ | exact fz_ints _ | exact fz_strs _) ?_; conv => whnf) | (refine And.intro (And.intro (by first | assumption | decide | omega) (by first | assumption | decide | omega)) ?_; conv => whnf) | (refine And.intro (And.intro (And.intro (by first | assumption | decide | omega) (by first | assumption | decide | omega)) (And.intro (by first | assumption | decide | omega) (by first | assumption | decide | omega))) ?_; conv => whnf) | (refine And.intro (And.intro (by first | assumption | rfl | exact fzL_ints _ | exact fzL_strs _ | exact fz_ints _ | exact fz_strs _) (And.intro (by first | assumption | rfl | exact fzL_ints _ | exact fzL_strs _ | exact fz_ints _ | exact fz_strs _) (by first | assumption | rfl | exact fzL_ints _ | exact fzL_strs _ | exact fz_ints _ | exact fz_strs _))) ?_; conv => whnf) | (refine And.intro (by first | exact Or.inl (by decide) | exact Or.inr (by decide)) ?_; conv => whnf) | (refine Or.inl (And.intro (by first | assumption | rfl | exact fzL_ints _ | exact fzL_strs _ | exact fz_ints _ | exact fz_strs _) ?_); conv => whnf) | (refine ⟨fun _ => ?_, fun z => Bool.noConfusion z⟩; conv => whnf) | (refine ⟨fun z => Bool.noConfusion z, fun _ => ?_⟩; conv => whnf) | (intro p0 z; rw [frz_lstp (by first | assumption | rfl | exact fzL_ints _ | exact fzL_strs _ | exact fz_ints _ | exact fz_strs _)] at z; subst z; conv => whnf) | (intro p0 z; rw [PV.fz_frz _ (by first | assumption | rfl | exact fzL_ints _ | exact fzL_strs _ | exact fz_ints _ | exact fz_strs _)] at z; subst z; conv => whnf))
        refine ⟨small_lt (show _ ≤ 10 by simp; omega), ?_⟩
        refine ⟨_, _, _, gs ++ [near.set d6.toNat s], _, _, by simp; omega, by simp; omega, fun f hf => ?_, by rw [List.map_append]; rfl⟩
        rcases mem_app_one hf with h | rfl
        · exact b3 f h
        · simpa using hn6
      · (conv => whnf); repeat (first | (refine ⟨_, rfl, (by first | assumption | rfl | exact fzL_ints _ | exact fzL_strs _ | exact fz_ints _ | exact fz_strs _), ?_⟩; conv => whnf) | (refine ⟨_, rfl, ?_⟩; conv => whnf) | (refine And.intro rfl ?_; conv => whnf) | (refine And.intro (by first | assumption | decide | omega) ?_; conv => whnf) | (refine And.intro (by first | assumption | rfl | exact fzL_ints _ | exact fzL_strs _ | exact fz_ints _ | exact fz_strs _) ?_; conv => whnf) | (refine And.intro (And.intro (by first | assumption | decide | omega) (by first | assumption | decide | omega)) ?_; conv => whnf) | (refine And.intro (And.intro (And.intro (by first | assumption | decide | omega) (by first | assumption | decide | omega)) (And.intro (by first | assumption | decide | omega) (by first | assumption | decide | omega))) ?_; conv => whnf) | (refine And.intro (And.intro (by first | assumption | rfl | exact fzL_ints _ | exact fzL_strs _ | exact fz_ints _ | exact fz_strs _) (And.intro (by first | assumption | rfl | exact fzL_ints _ | exact fzL_strs _ | exact fz_ints _ | exact fz_strs _) (by first | assumption | rfl | exact fzL_ints _ | exact fzL_strs _ | exact fz_ints _ | exact fz_strs _))) ?_; conv => whnf) | (refine And.intro (by first | exact Or.inl (by decide) | exact Or.inr (by decide)) ?_; conv => whnf) | (refine Or.inl (And.intro (by first | assumption | rfl | exact fzL_ints _ | exact fzL_strs _ | exact fz_ints _ | exact fz_strs _) ?_); conv => whnf) | (refine ⟨fun _ => ?_, fun z => Bool.noConfusion z⟩; conv => whnf) | (refine ⟨fun z => Bool.noConfusion z, fun _ => ?_⟩; conv => whnf) | (intro p0 z; rw [frz_lstp (by first | assumption | rfl | exact fzL_ints _ | exact fzL_strs _ | exact fz_ints _ | exact fz_strs _)] at z; subst z; conv => whnf) | (intro p0 z; rw [PV.fz_frz _ (by first | assumption | rfl | exact fzL_ints _ | exact fzL_strs _ | exact fz_ints _ | exact fz_strs _)] at z; subst z; conv => whnf))
        refine draw_ok T_draw hc (by decide) (lg (by decide) (by decide)) fun d5 i5 r5 k5 g0 g1 => ?_
        (conv => whnf); repeat (first | (refine ⟨_, rfl, (by first | assumption | rfl | exact fzL_ints _ | exact fzL_strs _ | exact fz_ints _ | exact fz_strs _), ?_⟩; conv => whnf) | (refine ⟨_, rfl, ?_⟩; conv => whnf) | (refine And.intro rfl ?_; conv => whnf) | (refine And.intro (by first | assumption | decide | omega) ?_; conv => whnf) | (refine And.intro (by first | assumption | rfl | exact fzL_ints _ | exact fzL_strs _ | exact fz_ints _ | exact fz_strs _) ?_; conv => whnf) | (refine And.intro (And.intro (by first | assumption | decide | omega) (by first | assumption | decide | omega)) ?_; conv => whnf) | (refine And.intro (And.intro (And.intro (by first | assumption | decide | omega) (by first | assumption | decide | omega)) (And.intro (by first | assumption | decide | omega) (by first | assumption | decide | omega))) ?_; conv => whnf) | (refine And.intro (And.intro (by first | assumption | rfl | exact fzL_ints _ | exact fzL_strs _ | exact fz_ints _ | exact fz_strs _) (And.intro (by first | assumption | rfl | exact fzL_ints _ | exact fzL_strs _ | exact fz_ints _ | exact fz_strs _) (by first | assumption | rfl | exact fzL_ints _ | exact fzL_strs _ | exact fz_ints _ | exact fz_strs _))) ?_; conv => whnf) | (refine And.intro (by first | exact Or.inl (by decide) | exact Or.inr (by decide)) ?_; conv => whnf) | (refine Or.inl (And.intro (by first | assumption | rfl | exact fzL_ints _ | exact fzL_strs _ | exact fz_ints _ | exact fz_strs _) ?_); conv => whnf) | (refine ⟨fun _ => ?_, fun z => Bool.noConfusion z⟩; conv => whnf) | (refine ⟨fun z => Bool.noConfusion z, fun _ => ?_⟩; conv => whnf) | (intro p0 z; rw [frz_lstp (by first | assumption | rfl | exact fzL_ints _ | exact fzL_strs _ | exact fz_ints _ | exact fz_strs _)] at z; subst z; conv => whnf) | (intro p0 z; rw [PV.fz_frz _ (by first | assumption | rfl | exact fzL_ints _ | exact fzL_strs _ | exact fz_ints _ | exact fz_strs _)] at z; subst z; conv => whnf))
        refine ⟨fun e6 => ?_, fun e6 => ?_⟩
        · (conv => whnf); repeat (first | (refine ⟨_, rfl, (by first | assumption | rfl | exact fzL_ints _ | exact fzL_strs _ | exact fz_ints _ | exact fz_strs _), ?_⟩; conv => whnf) | (refine ⟨_, rfl, ?_⟩; conv => whnf) | (refine And.intro rfl ?_; conv => whnf) | (refine And.intro (by first | assumption | decide | omega) ?_; conv => whnf) | (refine And.intro (by first | assumption | rfl | exact fzL_ints _ | exact fzL_strs _ | exact fz_ints _ | exact fz_strs _) ?_; conv => whnf) | (refine And.intro (And.intro (by first | assumption | decide | omega) (by first | assumption | decide | omega)) ?_; conv => whnf) | (refine And.intro (And.intro (And.intro (by first | assumption | decide | omega) (by first | assumption | decide | omega)) (And.intro (by first | assumption | decide | omega) (by first | assumption | decide | omega))) ?_; conv => whnf) | (refine And.intro (And.intro (by first | assumption | rfl | exact fzL_ints _ | exact fzL_strs _ | exact fz_ints _ | exact fz_strs _) (And.intro (by first | assumption | rfl | exact fzL_ints _ | exact fzL_strs _ | exact fz_ints _ | exact fz_strs _) (by first | assumption | rfl | exact fzL_ints _ | exact fzL_strs _ | exact fz_ints _ | exact fz_strs _))) ?_; conv => whnf) | (refine And.intro (by first | exact Or.inl (by decide) | exact Or.inr (by decide)) ?_; conv => whnf) | (refine Or.inl (And.intro (by first | assumption | rfl | exact fzL_ints _ | exact fzL_strs _ | exact fz_ints _ | exact fz_strs _) ?_); conv => whnf) | (refine ⟨fun _ => ?_, fun z => Bool.noConfusion z⟩; conv => whnf) | (refine ⟨fun z => Bool.noConfusion z, fun _ => ?_⟩; conv => whnf) | (intro p0 z; rw [frz_lstp (by first | assumption | rfl | exact fzL_ints _ | exact fzL_strs _ | exact fz_ints _ | exact fz_strs _)] at z; subst z; conv => whnf) | (intro p0 z; rw [PV.fz_frz _ (by first | assumption | rfl | exact fzL_ints _ | exact fzL_strs _ | exact fz_ints _ | exact fz_strs _)] at z; subst z; conv => whnf))
          refine draw_ok T_draw hc (by omega) (lg (by omega) (by rw [List.length_map]; omega)) fun d7 i7 r7 k7 q0 q1 => ?_
          (conv => whnf); repeat (first | (refine ⟨_, rfl, (by first | assumption | rfl | exact fzL_ints _ | exact fzL_strs _ | exact fz_ints _ | exact fz_strs _), ?_⟩; conv => whnf) | (refine ⟨_, rfl, ?_⟩; conv => whnf) | (refine And.intro rfl ?_; conv => whnf) | (refine And.intro (by first | assumption | decide | omega) ?_; conv => whnf) | (refine And.intro (by first | assumption | rfl | exact fzL_ints _ | exact fzL_strs _ | exact fz_ints _ | exact fz_strs _) ?_; conv => whnf) | (refine And.intro (And.intro (by first | assumption | decide | omega) (by first | assumption | decide | omega)) ?_; conv => whnf) | (refine And.intro (And.intro (And.intro (by first | assumption | decide | omega) (by first | assumption | decide | omega)) (And.intro (by first | assumption | decide | omega) (by first | assumption | decide | omega))) ?_; conv => whnf) | (refine And.intro (And.intro (by first | assumption | rfl | exact fzL_ints _ | exact fzL_strs _ | exact fz_ints _ | exact fz_strs _) (And.intro (by first | assumption | rfl | exact fzL_ints _ | exact fzL_strs _ | exact fz_ints _ | exact fz_strs _) (by first | assumption | rfl | exact fzL_ints _ | exact fzL_strs _ | exact fz_ints _ | exact fz_strs _))) ?_; conv => whnf) | (refine And.intro (by first | exact Or.inl (by decide) | exact Or.inr (by decide)) ?_; conv => whnf) | (refine Or.inl (And.intro (by first | assumption | rfl | exact fzL_ints _ | exact fzL_strs _ | exact fz_ints _ | exact fz_strs _) ?_); conv => whnf) | (refine ⟨fun _ => ?_, fun z => Bool.noConfusion z⟩; conv => whnf) | (refine ⟨fun z => Bool.noConfusion z, fun _ => ?_⟩; conv => whnf) | (intro p0 z; rw [frz_lstp (by first | assumption | rfl | exact fzL_ints _ | exact fzL_strs _ | exact fz_ints _ | exact fz_strs _)] at z; subst z; conv => whnf) | (intro p0 z; rw [PV.fz_frz _ (by first | assumption | rfl | exact fzL_ints _ | exact fzL_strs _ | exact fz_ints _ | exact fz_strs _)] at z; subst z; conv => whnf))
          rw [cut_map]
          (conv => whnf); repeat (first | (refine ⟨_, rfl, (by first | assumption | rfl | exact fzL_ints _ | exact fzL_strs _ | exact fz_ints _ | exact fz_strs _), ?_⟩; conv => whnf) | (refine ⟨_, rfl, ?_⟩; conv => whnf) | (refine And.intro rfl ?_; conv => whnf) | (refine And.intro (by first | assumption | decide | omega) ?_; conv => whnf) | (refine And.intro (by first | assumption | rfl | exact fzL_ints _ | exact fzL_strs _ | exact fz_ints _ | exact fz_strs _) ?_; conv => whnf) | (refine And.intro (And.intro (by first | assumption | decide | omega) (by first | assumption | decide | omega)) ?_; conv => whnf) | (refine And.intro (And.intro (And.intro (by first | assumption | decide | omega) (by first | assumption | decide | omega)) (And.intro (by first | assumption | decide | omega) (by first | assumption | decide | omega))) ?_; conv => whnf) | (refine And.intro (And.intro (by first | assumption | rfl | exact fzL_ints _ | exact fzL_strs _ | exact fz_ints _ | exact fz_strs _) (And.intro (by first | assumption | rfl | exact fzL_ints _ | exact fzL_strs _ | exact fz_ints _ | exact fz_strs _) (by first | assumption | rfl | exact fzL_ints _ | exact fzL_strs _ | exact fz_ints _ | exact fz_strs _))) ?_; conv => whnf) | (refine And.intro (by first | exact Or.inl (by decide) | exact Or.inr (by decide)) ?_; conv => whnf) | (refine Or.inl (And.intro (by first | assumption | rfl | exact fzL_ints _ | exact fzL_strs _ | exact fz_ints _ | exact fz_strs _) ?_); conv => whnf) | (refine ⟨fun _ => ?_, fun z => Bool.noConfusion z⟩; conv => whnf) | (refine ⟨fun z => Bool.noConfusion z, fun _ => ?_⟩; conv => whnf) | (intro p0 z; rw [frz_lstp (by first | assumption | rfl | exact fzL_ints _ | exact fzL_strs _ | exact fz_ints _ | exact fz_strs _)] at z; subst z; conv => whnf) | (intro p0 z; rw [PV.fz_frz _ (by first | assumption | rfl | exact fzL_ints _ | exact fzL_strs _ | exact fz_ints _ | exact fz_strs _)] at z; subst z; conv => whnf))
          have hcl := cut_len near none (some d7)
          refine ⟨small_lt (show _ ≤ 10 by simp; omega), ?_⟩
          refine ⟨_, _, _, gs ++ [cutP near none (some d7)], _, _, by simp; omega, by simp; omega, fun f hf => ?_, by rw [List.map_append]; rfl⟩
          rcases mem_app_one hf with h | rfl
          · exact b3 f h
          · omega
        · (conv => whnf); repeat (first | (refine ⟨_, rfl, (by first | assumption | rfl | exact fzL_ints _ | exact fzL_strs _ | exact fz_ints _ | exact fz_strs _), ?_⟩; conv => whnf) | (refine ⟨_, rfl, ?_⟩; conv => whnf) | (refine And.intro rfl ?_; conv => whnf) | (refine And.intro (by first | assumption | decide | omega) ?_; conv => whnf) | (refine And.intro (by first | assumption | rfl | exact fzL_ints _ | exact fzL_strs _ | exact fz_ints _ | exact fz_strs _) ?_; conv => whnf) | (refine And.intro (And.intro (by first | assumption | decide | omega) (by first | assumption | decide | omega)) ?_; conv => whnf) | (refine And.intro (And.intro (And.intro (by first | assumption | decide | omega) (by first | assumption | decide | omega)) (And.intro (by first | assumption | decide | omega) (by first | assumption | decide | omega))) ?_; conv => whnf) | (refine And.intro (And.intro (by first | assumption | rfl | exact fzL_ints _ | exact fzL_strs _ | exact fz_ints _ | exact fz_strs _) (And.intro (by first | assumption | rfl | exact fzL_ints _ | exact fzL_strs _ | exact fz_ints _ | exact fz_strs _) (by first | assumption | rfl | exact fzL_ints _ | exact fzL_strs _ | exact fz_ints _ | exact fz_strs _))) ?_; conv => whnf) | (refine And.intro (by first | exact Or.inl (by decide) | exact Or.inr (by decide)) ?_; conv => whnf) | (refine Or.inl (And.intro (by first | assumption | rfl | exact fzL_ints _ | exact fzL_strs _ | exact fz_ints _ | exact fz_strs _) ?_); conv => whnf) | (refine ⟨fun _ => ?_, fun z => Bool.noConfusion z⟩; conv => whnf) | (refine ⟨fun z => Bool.noConfusion z, fun _ => ?_⟩; conv => whnf) | (intro p0 z; rw [frz_lstp (by first | assumption | rfl | exact fzL_ints _ | exact fzL_strs _ | exact fz_ints _ | exact fz_strs _)] at z; subst z; conv => whnf) | (intro p0 z; rw [PV.fz_frz _ (by first | assumption | rfl | exact fzL_ints _ | exact fzL_strs _ | exact fz_ints _ | exact fz_strs _)] at z; subst z; conv => whnf))
          refine ⟨small_lt (show _ ≤ 10 by simp; omega), ?_⟩
          refine ⟨_, _, _, gs ++ [near], _, _, by simp; omega, by simp; omega, fun f hf => ?_, by rw [List.map_append]; rfl⟩
          rcases mem_app_one hf with h | rfl
          · exact b3 f h
          · omega
    · (conv => whnf); repeat (first | (refine ⟨_, rfl, (by first | assumption | rfl | exact fzL_ints _ | exact fzL_strs _ | exact fz_ints _ | exact fz_strs _), ?_⟩; conv => whnf) | (refine ⟨_, rfl, ?_⟩; conv => whnf) | (refine And.intro rfl ?_; conv => whnf) | (refine And.intro (by first | assumption | decide | omega) ?_; conv => whnf) | (refine And.intro (by first | assumption | rfl | exact fzL_ints _ | exact fzL_strs _ | exact fz_ints _ | exact fz_strs _) ?_; conv => whnf) | (refine And.intro (And.intro (by first | assumption | decide | omega) (by first | assumption | decide | omega)) ?_; conv => whnf) | (refine And.intro (And.intro (And.intro (by first | assumption | decide | omega) (by first | assumption | decide | omega)) (And.intro (by first | assumption | decide | omega) (by first | assumption | decide | omega))) ?_; conv => whnf) | (refine And.intro (And.intro (by first | assumption | rfl | exact fzL_ints _ | exact fzL_strs _ | exact fz_ints _ | exact fz_strs _) (And.intro (by first | assumption | rfl | exact fzL_ints _ | exact fzL_strs _ | exact fz_ints _ | exact fz_strs _) (by first | assumption | rfl | exact fzL_ints _ | exact fzL_strs _ | exact fz_ints _ | exact fz_strs _))) ?_; conv => whnf) | (refine And.intro (by first | exact Or.inl (by decide) | exact Or.inr (by decide)) ?_; conv => whnf) | (refine Or.inl (And.intro (by first | assumption | rfl | exact fzL_ints _ | exact fzL_strs _ | exact fz_ints _ | exact fz_strs _) ?_); conv => whnf) | (refine ⟨fun _ => ?_, fun z => Bool.noConfusion z⟩; conv => whnf) | (refine ⟨fun z => Bool.noConfusion z, fun _ => ?_⟩; conv => whnf) | (intro p0 z; rw [frz_lstp (by first | assumption | rfl | exact fzL_ints _ | exact fzL_strs _ | exact fz_ints _ | exact fz_strs _)] at z; subst z; conv => whnf) | (intro p0 z; rw [PV.fz_frz _ (by first | assumption | rfl | exact fzL_ints _ | exact fzL_strs _ | exact fz_ints _ | exact fz_strs _)] at z; subst z; conv => whnf))
      refine draw_ok T_draw hc (by decide) (lg (by decide) (by decide)) fun d5 i5 r5 k5 g0 g1 => ?_
      (conv => whnf); repeat (first | (refine ⟨_, rfl, (by first | assumption | rfl | exact fzL_ints _ | exact fzL_strs _ | exact fz_ints _ | exact fz_strs _), ?_⟩; conv => whnf) | (refine ⟨_, rfl, ?_⟩; conv => whnf) | (refine And.intro rfl ?_; conv => whnf) | (refine And.intro (by first | assumption | decide | omega) ?_; conv => whnf) | (refine And.intro (by first | assumption | rfl | exact fzL_ints _ | exact fzL_strs _ | exact fz_ints _ | exact fz_strs _) ?_; conv => whnf) | (refine And.intro (And.intro (by first | assumption | decide | omega) (by first | assumption | decide | omega)) ?_; conv => whnf) | (refine And.intro (And.intro (And.intro (by first | assumption | decide | omega) (by first | assumption | decide | omega)) (And.intro (by first | assumption | decide | omega) (by first | assumption | decide | omega))) ?_; conv => whnf) | (refine And.intro (And.intro (by first | assumption | rfl | exact fzL_ints _ | exact fzL_strs _ | exact fz_ints _ | exact fz_strs _) (And.intro (by first | assumption | rfl | exact fzL_ints _ | exact fzL_strs _ | exact fz_ints _ | exact fz_strs _) (by first | assumption | rfl | exact fzL_ints _ | exact fzL_strs _ | exact fz_ints _ | exact fz_strs _))) ?_; conv => whnf) | (refine And.intro (by first | exact Or.inl (by decide) | exact Or.inr (by decide)) ?_; conv => whnf) | (refine Or.inl (And.intro (by first | assumption | rfl | exact fzL_ints _ | exact fzL_strs _ | exact fz_ints _ | exact fz_strs _) ?_); conv => whnf) | (refine ⟨fun _ => ?_, fun z => Bool.noConfusion z⟩; conv => whnf) | (refine ⟨fun z => Bool.noConfusion z, fun _ => ?_⟩; conv => whnf) | (intro p0 z; rw [frz_lstp (by first | assumption | rfl | exact fzL_ints _ | exact fzL_strs _ | exact fz_ints _ | exact fz_strs _)] at z; subst z; conv => whnf) | (intro p0 z; rw [PV.fz_frz _ (by first | assumption | rfl | exact fzL_ints _ | exact fzL_strs _ | exact fz_ints _ | exact fz_strs _)] at z; subst z; conv => whnf))
      refine ⟨fun e6 => ?_, fun e6 => ?_⟩
      · (conv => whnf); repeat (first | (refine ⟨_, rfl, (by first | assumption | rfl | exact fzL_ints _ | exact fzL_strs _ | exact fz_ints _ | exact fz_strs _), ?_⟩; conv => whnf) | (refine ⟨_, rfl, ?_⟩; conv => whnf) | (refine And.intro rfl ?_; conv => whnf) | (refine And.intro (by first | assumption | decide | omega) ?_; conv => whnf) | (refine And.intro (by first | assumption | rfl | exact fzL_ints _ | exact fzL_strs _ | exact fz_ints _ | exact fz_strs _) ?_; conv => whnf) | (refine And.intro (And.intro (by first | assumption | decide | omega) (by first | assumption | decide | omega)) ?_; conv => whnf) | (refine And.intro (And.intro (And.intro (by first | assumption | decide | omega) (by first | assumption | decide | omega)) (And.intro (by first | assumption | decide | omega) (by first | assumption | decide | omega))) ?_; conv => whnf) | (refine And.intro (And.intro (by first | assumption | rfl | exact fzL_ints _ | exact fzL_strs _ | exact fz_ints _ | exact fz_strs _) (And.intro (by first | assumption | rfl | exact fzL_ints _ | exact fzL_strs _ | exact fz_ints _ | exact fz_strs _) (by first | assumption | rfl | exact fzL_ints _ | exact fzL_strs _ | exact fz_ints _ | exact fz_strs _))) ?_; conv => whnf) | (refine And.intro (by first | exact Or.inl (by decide) | exact Or.inr (by decide)) ?_; conv => whnf) | (refine Or.inl (And.intro (by first | assumption | rfl | exact fzL_ints _ | exact fzL_strs _ | exact fz_ints _ | exact fz_strs _) ?_); conv => whnf) | (refine ⟨fun _ => ?_, fun z => Bool.noConfusion z⟩; conv => whnf) | (refine ⟨fun z => Bool.noConfusion z, fun _ => ?_⟩; conv => whnf) | (intro p0 z; rw [frz_lstp (by first | assumption | rfl | exact fzL_ints _ | exact fzL_strs _ | exact fz_ints _ | exact fz_strs _)] at z; subst z; conv => whnf) | (intro p0 z; rw [PV.fz_frz _ (by first | assumption | rfl | exact fzL_ints _ | exact fzL_strs _ | exact fz_ints _ | exact fz_strs _)] at z; subst z; conv => whnf))
        refine draw_ok T_draw hc (by omega) (lg (by omega) (by rw [List.length_map]; omega)) fun d7 i7 r7 k7 q0 q1 => ?_
        (conv => whnf); repeat (first | (refine ⟨_, rfl, (by first | assumption | rfl | exact fzL_ints _ | exact fzL_strs _ | exact fz_ints _ | exact fz_strs _), ?_⟩; conv => whnf) | (refine ⟨_, rfl, ?_⟩; conv => whnf) | (refine And.intro rfl ?_; conv => whnf) | (refine And.intro (by first | assumption | decide | omega) ?_; conv => whnf) | (refine And.intro (by first | assumption | rfl | exact fzL_ints _ | exact fzL_strs _ | exact fz_ints _ | exact fz_strs _) ?_; conv => whnf) | (refine And.intro (And.intro (by first | assumption | decide | omega) (by first | assumption | decide | omega)) ?_; conv => whnf) | (refine And.intro (And.intro (And.intro (by first | assumption | decide | omega) (by first | assumption | decide | omega)) (And.intro (by first | assumption | decide | omega) (by first | assumption | decide | omega))) ?_; conv => whnf) | (refine And.intro (And.intro (by first | assumption | rfl | exact fzL_ints _ | exact fzL_strs _ | exact fz_ints _ | exact fz_strs _) (And.intro (by first | assumption | rfl | exact fzL_ints _ | exact fzL_strs _ | exact fz_ints _ | exact fz_strs _) (by first | assumption | rfl | exact fzL_ints _ | exact fzL_strs _ | exact fz_ints _ | exact fz_strs _))) ?_; conv => whnf) | (refine And.intro (by first | exact Or.inl (by decide) | exact Or.inr (by decide)) ?_; conv => whnf) | (refine Or.inl (And.intro (by first | assumption | rfl | exact fzL_ints _ | exact fzL_strs _ | exact fz_ints _ | exact fz_strs _) ?_); conv => whnf) | (refine ⟨fun _ => ?_, fun z => Bool.noConfusion z⟩; conv => whnf) | (refine ⟨fun z => Bool.noConfusion z, fun _ => ?_⟩; conv => whnf) | (intro p0 z; rw [frz_lstp (by first | assumption | rfl | exact fzL_ints _ | exact fzL_strs _ | exact fz_ints _ | exact fz_strs _)] at z; subst z; conv => whnf) | (intro p0 z; rw [PV.fz_frz _ (by first | assumption | rfl | exact fzL_ints _ | exact fzL_strs _ | exact fz_ints _ | exact fz_strs _)] at z; subst z; conv => whnf))
        rw [cut_map]
        (conv => whnf); repeat (first | (refine ⟨_, rfl, (by first | assumption | rfl | exact fzL_ints _ | exact fzL_strs _ | exact fz_ints _ | exact fz_strs _), ?_⟩; conv => whnf) | (refine ⟨_, rfl, ?_⟩; conv => whnf) | (refine And.intro rfl ?_; conv => whnf) | (refine And.intro (by first | assumption | decide | omega) ?_; conv => whnf) | (refine And.intro (by first | assumption | rfl | exact fzL_ints _ | exact fzL_strs _ | exact fz_ints _ | exact fz_strs _) ?_; conv => whnf) | (refine And.intro (And.intro (by first | assumption | decide | omega) (by first | assumption | decide | omega)) ?_; conv => whnf) | (refine And.intro (And.intro (And.intro (by first | assumption | decide | omega) (by first | assumption | decide | omega)) (And.intro (by first | assumption | decide | omega) (by first | assumption | decide | omega))) ?_; conv => whnf) | (refine And.intro (And.intro (by first | assumption | rfl | exact fzL_ints _ | exact fzL_strs _ | exact fz_ints _ | exact fz_strs _) (And.intro (by first | assumption | rfl | exact fzL_ints _ | exact fzL_strs _ | exact fz_ints _ | exact fz_strs _) (by first | assumption | rfl | exact fzL_ints _ | exact fzL_strs _ | exact fz_ints _ | exact fz_strs _))) ?_; conv => whnf) | (refine And.intro (by first | exact Or.inl (by decide) | exact Or.inr (by decide)) ?_; conv => whnf) | (refine Or.inl (And.intro (by first | assumption | rfl | exact fzL_ints _ | exact fzL_strs _ | exact fz_ints _ | exact fz_strs _) ?_); conv => whnf) | (refine ⟨fun _ => ?_, fun z => Bool.noConfusion z⟩; conv => whnf) | (refine ⟨fun z => Bool.noConfusion z, fun _ => ?_⟩; conv => whnf) | (intro p0 z; rw [frz_lstp (by first | assumption | rfl | exact fzL_ints _ | exact fzL_strs _ | exact fz_ints _ | exact fz_strs _)] at z; subst z; conv => whnf) | (intro p0 z; rw [PV.fz_frz _ (by first | assumption | rfl | exact fzL_ints _ | exact fzL_strs _ | exact fz_ints _ | exact fz_strs _)] at z; subst z; conv => whnf))
        have hcl := cut_len near none (some d7)
        refine ⟨small_lt (show _ ≤ 10 by simp; omega), ?_⟩
        refine ⟨_, _, _, gs ++ [cutP near none (some d7)], _, _, by simp; omega, by simp; omega, fun f hf => ?_, by rw [List.map_append]; rfl⟩
        rcases mem_app_one hf with h | rfl
        · exact b3 f h
        · omega
      · (conv => whnf); repeat (first | (refine ⟨_, rfl, (by first | assumption | rfl | exact fzL_ints _ | exact fzL_strs _ | exact fz_ints _ | exact fz_strs _), ?_⟩; conv => whnf) | (refine ⟨_, rfl, ?_⟩; conv => whnf) | (refine And.intro rfl ?_; conv => whnf) | (refine And.intro (by first | assumption | decide | omega) ?_; conv => whnf) | (refine And.intro (by first | assumption | rfl | exact fzL_ints _ | exact fzL_strs _ | exact fz_ints _ | exact fz_strs _) ?_; conv => whnf) | (refine And.intro (And.intro (by first | assumption | decide | omega) (by first | assumption | decide | omega)) ?_; conv => whnf) | (refine And.intro (And.intro (And.intro (by first | assumption | decide | omega) (by first | assumption | decide | omega)) (And.intro (by first | assumption | decide | omega) (by first | assumption | decide | omega))) ?_; conv => whnf) | (refine And.intro (And.intro (by first | assumption | rfl | exact fzL_ints _ | exact fzL_strs _ | exact fz_ints _ | exact fz_strs _) (And.intro (by first | assumption | rfl | exact fzL_ints _ | exact fzL_strs _ | exact fz_ints _ | exact fz_strs _) (by first | assumption | rfl | exact fzL_ints _ | exact fzL_strs _ | exact fz_ints _ | exact fz_strs _))) ?_; conv => whnf) | (refine And.intro (by first | exact Or.inl (by decide) | exact Or.inr (by decide)) ?_; conv => whnf) | (refine Or.inl (And.intro (by first | assumption | rfl | exact fzL_ints _ | exact fzL_strs _ | exact fz_ints _ | exact fz_strs _) ?_); conv => whnf) | (refine ⟨fun _ => ?_, fun z => Bool.noConfusion z⟩; conv => whnf) | (refine ⟨fun z => Bool.noConfusion z, fun _ => ?_⟩; conv => whnf) | (intro p0 z; rw [frz_lstp (by first | assumption | rfl | exact fzL_ints _ | exact fzL_strs _ | exact fz_ints _ | exact fz_strs _)] at z; subst z; conv => whnf) | (intro p0 z; rw [PV.fz_frz _ (by first | assumption | rfl | exact fzL_ints _ | exact fzL_strs _ | exact fz_ints _ | exact fz_strs _)] at z; subst z; conv => whnf))
        refine ⟨small_lt (show _ ≤ 10 by simp; omega), ?_⟩
        refine ⟨_, _, _, gs ++ [near], _, _, by simp; omega, by simp; omega, fun f hf => ?_, by rw [List.map_append]; rfl⟩
        rcases mem_app_one hf with h | rfl
        · exact b3 f h
        · omega
  rintro _ ⟨i, r, k, gs, z4, z11, b1, b2, b3, rfl⟩
  have b1 : gs.length = 6 := by simpa using b1
  (conv => whnf); repeat (first | (refine ⟨_, rfl, (by first | assumption | rfl | exact fzL_ints _ | exact fzL_strs _ | exact fz_ints _ | exact fz_strs _), ?_⟩; conv => whnf) | (refine ⟨_, rfl, ?_⟩; conv => whnf) | (refine And.intro rfl ?_; conv => whnf) | (refine And.intro (by first | assumption | decide | omega) ?_; conv => whnf) | (refine And.intro (by first | assumption | rfl | exact fzL_ints _ | exact fzL_strs _ | exact fz_ints _ | exact fz_strs _) ?_; conv => whnf) | (refine And.intro (And.intro (by first | assumption | decide | omega) (by first | assumption | decide | omega)) ?_; conv => whnf) | (refine And.intro (And.intro (And.intro (by first | assumption | decide | omega) (by first | assumption | decide | omega)) (And.intro (by first | assumption | decide | omega) (by first | assumption | decide | omega))) ?_; conv => whnf) | (refine And.intro (And.intro (by first | assumption | rfl | exact fzL_ints _ | exact fzL_strs _ | exact fz_ints _ | exact fz_strs _) (And.intro (by first | assumption | rfl | exact fzL_ints _ | exact fzL_strs _ | exact fz_ints _ | exact fz_strs _) (by first | assumption | rfl | exact fzL_ints _ | exact fzL_strs _ | exact fz_ints _ | exact fz_strs _))) ?_; conv => whnf) | (refine And.intro (by first | exact Or.inl (by decide) | exact Or.inr (by decide)) ?_; conv => whnf) | (refine Or.inl (And.intro (by first | assumption | rfl | exact fzL_ints _ | exact fzL_strs _ | exact fz_ints _ | exact fz_strs _) ?_); conv => whnf) | (refine ⟨fun _ => ?_, fun z => Bool.noConfusion z⟩; conv => whnf) | (refine ⟨fun z => Bool.noConfusion z, fun _ => ?_⟩; conv => whnf) | (intro p0 z; rw [frz_lstp (by first | assumption | rfl | exact fzL_ints _ | exact fzL_strs _ | exact fz_ints _ | exact fz_strs _)] at z; subst z; conv => whnf) | (intro p0 z; rw [PV.fz_frz _ (by first | assumption | rfl | exact fzL_ints _ | exact fzL_strs _ | exact fz_ints _ | exact fz_strs _)] at z; subst z; conv => whnf))
  have hgl : (gs.map fP).length = 6 := by rw [List.length_map]; exact b1
  refine zKv_in rfl (fun j acc ρ => acc = (gs.take j).map fP ∧ ρ = [some (.lck (ns.map .int)), some (potP cs i r k), some (.lst true (ls.map .str)), some (.lst true (gs.map fP)), z4, none, none, none, none, none, none, z11, none, none]) ?_ ?_ ?_
  · exact ⟨rfl, rfl⟩
  rotate_left
  · rintro j acc _ hj ⟨rfl, rfl⟩
    have hj' : j < gs.length := by simpa using hj
    refine ⟨_, _, vwAt_map fz_strs rfl hj', rfl, ?_⟩
    (conv => whnf)
    refine ⟨fun _ => ?_, fun z => Bool.noConfusion z⟩
    (conv => whnf)
    refine ⟨fzL_strs _, ?_⟩
    exact ⟨_, frz_lstp (fzL_strs _), small_lt (show _ ≤ 10 by simp; omega), take_map_step hj', rfl⟩
  rintro ys _ ⟨rfl, rfl⟩
  refine ⟨vwLen_map rfl, ?_⟩
  have et : (gs.take (gs.map fP).length).map fP = gs.map fP := by rw [List.length_map, List.take_length]
  rw [et]
  (conv => whnf); repeat (first | (refine ⟨_, rfl, (by first | assumption | rfl | exact fzL_ints _ | exact fzL_strs _ | exact fz_ints _ | exact fz_strs _), ?_⟩; conv => whnf) | (refine ⟨_, rfl, ?_⟩; conv => whnf) | (refine And.intro rfl ?_; conv => whnf) | (refine And.intro (by first | assumption | decide | omega) ?_; conv => whnf) | (refine And.intro (by first | assumption | rfl | exact fzL_ints _ | exact fzL_strs _ | exact fz_ints _ | exact fz_strs _) ?_; conv => whnf) | (refine And.intro (And.intro (by first | assumption | decide | omega) (by first | assumption | decide | omega)) ?_; conv => whnf) | (refine And.intro (And.intro (And.intro (by first | assumption | decide | omega) (by first | assumption | decide | omega)) (And.intro (by first | assumption | decide | omega) (by first | assumption | decide | omega))) ?_; conv => whnf) | (refine And.intro (And.intro (by first | assumption | rfl | exact fzL_ints _ | exact fzL_strs _ | exact fz_ints _ | exact fz_strs _) (And.intro (by first | assumption | rfl | exact fzL_ints _ | exact fzL_strs _ | exact fz_ints _ | exact fz_strs _) (by first | assumption | rfl | exact fzL_ints _ | exact fzL_strs _ | exact fz_ints _ | exact fz_strs _))) ?_; conv => whnf) | (refine And.intro (by first | exact Or.inl (by decide) | exact Or.inr (by decide)) ?_; conv => whnf) | (refine Or.inl (And.intro (by first | assumption | rfl | exact fzL_ints _ | exact fzL_strs _ | exact fz_ints _ | exact fz_strs _) ?_); conv => whnf) | (refine ⟨fun _ => ?_, fun z => Bool.noConfusion z⟩; conv => whnf) | (refine ⟨fun z => Bool.noConfusion z, fun _ => ?_⟩; conv => whnf) | (intro p0 z; rw [frz_lstp (by first | assumption | rfl | exact fzL_ints _ | exact fzL_strs _ | exact fz_ints _ | exact fz_strs _)] at z; subst z; conv => whnf) | (intro p0 z; rw [PV.fz_frz _ (by first | assumption | rfl | exact fzL_ints _ | exact fzL_strs _ | exact fz_ints _ | exact fz_strs _)] at z; subst z; conv => whnf))
  refine zFv_in (fun j ρ => ∃ z6 z12, ρ = [some (.lck (ns.map .int)), some (potP cs i r k), some (.lst true (ls.map .str)), some (.lst true (gs.map fP)), z4, some (.lst true (gs.map fP)), z6, none, none, none, none, z11, z12, none]) ?_ ?_ ?_
  · exact ⟨_, _, rfl⟩
  rotate_left
  · rintro j _ hj ⟨z6, z12, rfl⟩
    have hj' : j < gs.length := by simpa using hj
    refine ⟨_, _, vwAt_map fz_strs rfl hj', rfl, ?_⟩
    (conv => whnf); repeat (first | (refine ⟨_, rfl, (by first | assumption | rfl | exact fzL_ints _ | exact fzL_strs _ | exact fz_ints _ | exact fz_strs _), ?_⟩; conv => whnf) | (refine ⟨_, rfl, ?_⟩; conv => whnf) | (refine And.intro rfl ?_; conv => whnf) | (refine And.intro (by first | assumption | decide | omega) ?_; conv => whnf) | (refine And.intro (by first | assumption | rfl | exact fzL_ints _ | exact fzL_strs _ | exact fz_ints _ | exact fz_strs _) ?_; conv => whnf) | (refine And.intro (And.intro (by first | assumption | decide | omega) (by first | assumption | decide | omega)) ?_; conv => whnf) | (refine And.intro (And.intro (And.intro (by first | assumption | decide | omega) (by first | assumption | decide | omega)) (And.intro (by first | assumption | decide | omega) (by first | assumption | decide | omega))) ?_; conv => whnf) | (refine And.intro (And.intro (by first | assumption | rfl | exact fzL_ints _ | exact fzL_strs _ | exact fz_ints _ | exact fz_strs _) (And.intro (by first | assumption | rfl | exact fzL_ints _ | exact fzL_strs _ | exact fz_ints _ | exact fz_strs _) (by first | assumption | rfl | exact fzL_ints _ | exact fzL_strs _ | exact fz_ints _ | exact fz_strs _))) ?_; conv => whnf) | (refine And.intro (by first | exact Or.inl (by decide) | exact Or.inr (by decide)) ?_; conv => whnf) | (refine Or.inl (And.intro (by first | assumption | rfl | exact fzL_ints _ | exact fzL_strs _ | exact fz_ints _ | exact fz_strs _) ?_); conv => whnf) | (refine ⟨fun _ => ?_, fun z => Bool.noConfusion z⟩; conv => whnf) | (refine ⟨fun z => Bool.noConfusion z, fun _ => ?_⟩; conv => whnf) | (intro p0 z; rw [frz_lstp (by first | assumption | rfl | exact fzL_ints _ | exact fzL_strs _ | exact fz_ints _ | exact fz_strs _)] at z; subst z; conv => whnf) | (intro p0 z; rw [PV.fz_frz _ (by first | assumption | rfl | exact fzL_ints _ | exact fzL_strs _ | exact fz_ints _ | exact fz_strs _)] at z; subst z; conv => whnf))
    refine zFv_in (fun j2 ρ => ∃ z12, ρ = [some (.lck (ns.map .int)), some (potP cs i r k), some (.lst true (ls.map .str)), some (.lst true (gs.map fP)), z4, some (.lst true (gs.map fP)), some (fP gs[j]), none, none, none, none, z11, z12, none]) ?_ ?_ ?_
    · exact ⟨_, rfl⟩
    · rintro _ ⟨z12, rfl⟩
      refine ⟨vwLen_map rfl, ?_⟩
      (conv => whnf); repeat (first | (refine ⟨_, rfl, (by first | assumption | rfl | exact fzL_ints _ | exact fzL_strs _ | exact fz_ints _ | exact fz_strs _), ?_⟩; conv => whnf) | (refine ⟨_, rfl, ?_⟩; conv => whnf) | (refine And.intro rfl ?_; conv => whnf) | (refine And.intro (by first | assumption | decide | omega) ?_; conv => whnf) | (refine And.intro (by first | assumption | rfl | exact fzL_ints _ | exact fzL_strs _ | exact fz_ints _ | exact fz_strs _) ?_; conv => whnf) | (refine And.intro (And.intro (by first | assumption | decide | omega) (by first | assumption | decide | omega)) ?_; conv => whnf) | (refine And.intro (And.intro (And.intro (by first | assumption | decide | omega) (by first | assumption | decide | omega)) (And.intro (by first | assumption | decide | omega) (by first | assumption | decide | omega))) ?_; conv => whnf) | (refine And.intro (And.intro (by first | assumption | rfl | exact fzL_ints _ | exact fzL_strs _ | exact fz_ints _ | exact fz_strs _) (And.intro (by first | assumption | rfl | exact fzL_ints _ | exact fzL_strs _ | exact fz_ints _ | exact fz_strs _) (by first | assumption | rfl | exact fzL_ints _ | exact fzL_strs _ | exact fz_ints _ | exact fz_strs _))) ?_; conv => whnf) | (refine And.intro (by first | exact Or.inl (by decide) | exact Or.inr (by decide)) ?_; conv => whnf) | (refine Or.inl (And.intro (by first | assumption | rfl | exact fzL_ints _ | exact fzL_strs _ | exact fz_ints _ | exact fz_strs _) ?_); conv => whnf) | (refine ⟨fun _ => ?_, fun z => Bool.noConfusion z⟩; conv => whnf) | (refine ⟨fun z => Bool.noConfusion z, fun _ => ?_⟩; conv => whnf) | (intro p0 z; rw [frz_lstp (by first | assumption | rfl | exact fzL_ints _ | exact fzL_strs _ | exact fz_ints _ | exact fz_strs _)] at z; subst z; conv => whnf) | (intro p0 z; rw [PV.fz_frz _ (by first | assumption | rfl | exact fzL_ints _ | exact fzL_strs _ | exact fz_ints _ | exact fz_strs _)] at z; subst z; conv => whnf))
      exact ⟨_, _, rfl⟩
    · rintro j2 _ hj2 ⟨z12, rfl⟩
      have hj2' : j2 < gs.length := by simpa using hj2
      refine ⟨_, _, vwAt_map fz_strs rfl hj2', rfl, ?_⟩
      (conv => whnf); repeat (first | (refine ⟨_, rfl, (by first | assumption | rfl | exact fzL_ints _ | exact fzL_strs _ | exact fz_ints _ | exact fz_strs _), ?_⟩; conv => whnf) | (refine ⟨_, rfl, ?_⟩; conv => whnf) | (refine And.intro rfl ?_; conv => whnf) | (refine And.intro (by first | assumption | decide | omega) ?_; conv => whnf) | (refine And.intro (by first | assumption | rfl | exact fzL_ints _ | exact fzL_strs _ | exact fz_ints _ | exact fz_strs _) ?_; conv => whnf) | (refine And.intro (And.intro (by first | assumption | decide | omega) (by first | assumption | decide | omega)) ?_; conv => whnf) | (refine And.intro (And.intro (And.intro (by first | assumption | decide | omega) (by first | assumption | decide | omega)) (And.intro (by first | assumption | decide | omega) (by first | assumption | decide | omega))) ?_; conv => whnf) | (refine And.intro (And.intro (by first | assumption | rfl | exact fzL_ints _ | exact fzL_strs _ | exact fz_ints _ | exact fz_strs _) (And.intro (by first | assumption | rfl | exact fzL_ints _ | exact fzL_strs _ | exact fz_ints _ | exact fz_strs _) (by first | assumption | rfl | exact fzL_ints _ | exact fzL_strs _ | exact fz_ints _ | exact fz_strs _))) ?_; conv => whnf) | (refine And.intro (by first | exact Or.inl (by decide) | exact Or.inr (by decide)) ?_; conv => whnf) | (refine Or.inl (And.intro (by first | assumption | rfl | exact fzL_ints _ | exact fzL_strs _ | exact fz_ints _ | exact fz_strs _) ?_); conv => whnf) | (refine ⟨fun _ => ?_, fun z => Bool.noConfusion z⟩; conv => whnf) | (refine ⟨fun z => Bool.noConfusion z, fun _ => ?_⟩; conv => whnf) | (intro p0 z; rw [frz_lstp (by first | assumption | rfl | exact fzL_ints _ | exact fzL_strs _ | exact fz_ints _ | exact fz_strs _)] at z; subst z; conv => whnf) | (intro p0 z; rw [PV.fz_frz _ (by first | assumption | rfl | exact fzL_ints _ | exact fzL_strs _ | exact fz_ints _ | exact fz_strs _)] at z; subst z; conv => whnf))
      refine before_ok ?_
      rw [lt_files]
      (conv => whnf); repeat (first | (refine ⟨_, rfl, (by first | assumption | rfl | exact fzL_ints _ | exact fzL_strs _ | exact fz_ints _ | exact fz_strs _), ?_⟩; conv => whnf) | (refine ⟨_, rfl, ?_⟩; conv => whnf) | (refine And.intro rfl ?_; conv => whnf) | (refine And.intro (by first | assumption | decide | omega) ?_; conv => whnf) | (refine And.intro (by first | assumption | rfl | exact fzL_ints _ | exact fzL_strs _ | exact fz_ints _ | exact fz_strs _) ?_; conv => whnf) | (refine And.intro (And.intro (by first | assumption | decide | omega) (by first | assumption | decide | omega)) ?_; conv => whnf) | (refine And.intro (And.intro (And.intro (by first | assumption | decide | omega) (by first | assumption | decide | omega)) (And.intro (by first | assumption | decide | omega) (by first | assumption | decide | omega))) ?_; conv => whnf) | (refine And.intro (And.intro (by first | assumption | rfl | exact fzL_ints _ | exact fzL_strs _ | exact fz_ints _ | exact fz_strs _) (And.intro (by first | assumption | rfl | exact fzL_ints _ | exact fzL_strs _ | exact fz_ints _ | exact fz_strs _) (by first | assumption | rfl | exact fzL_ints _ | exact fzL_strs _ | exact fz_ints _ | exact fz_strs _))) ?_; conv => whnf) | (refine And.intro (by first | exact Or.inl (by decide) | exact Or.inr (by decide)) ?_; conv => whnf) | (refine Or.inl (And.intro (by first | assumption | rfl | exact fzL_ints _ | exact fzL_strs _ | exact fz_ints _ | exact fz_strs _) ?_); conv => whnf) | (refine ⟨fun _ => ?_, fun z => Bool.noConfusion z⟩; conv => whnf) | (refine ⟨fun z => Bool.noConfusion z, fun _ => ?_⟩; conv => whnf) | (intro p0 z; rw [frz_lstp (by first | assumption | rfl | exact fzL_ints _ | exact fzL_strs _ | exact fz_ints _ | exact fz_strs _)] at z; subst z; conv => whnf) | (intro p0 z; rw [PV.fz_frz _ (by first | assumption | rfl | exact fzL_ints _ | exact fzL_strs _ | exact fz_ints _ | exact fz_strs _)] at z; subst z; conv => whnf))
      refine less_ok (Nat.le_trans (b3 _ (List.getElem_mem hj')) (by decide)) ?_
      (conv => whnf); repeat (first | (refine ⟨_, rfl, (by first | assumption | rfl | exact fzL_ints _ | exact fzL_strs _ | exact fz_ints _ | exact fz_strs _), ?_⟩; conv => whnf) | (refine ⟨_, rfl, ?_⟩; conv => whnf) | (refine And.intro rfl ?_; conv => whnf) | (refine And.intro (by first | assumption | decide | omega) ?_; conv => whnf) | (refine And.intro (by first | assumption | rfl | exact fzL_ints _ | exact fzL_strs _ | exact fz_ints _ | exact fz_strs _) ?_; conv => whnf) | (refine And.intro (And.intro (by first | assumption | decide | omega) (by first | assumption | decide | omega)) ?_; conv => whnf) | (refine And.intro (And.intro (And.intro (by first | assumption | decide | omega) (by first | assumption | decide | omega)) (And.intro (by first | assumption | decide | omega) (by first | assumption | decide | omega))) ?_; conv => whnf) | (refine And.intro (And.intro (by first | assumption | rfl | exact fzL_ints _ | exact fzL_strs _ | exact fz_ints _ | exact fz_strs _) (And.intro (by first | assumption | rfl | exact fzL_ints _ | exact fzL_strs _ | exact fz_ints _ | exact fz_strs _) (by first | assumption | rfl | exact fzL_ints _ | exact fzL_strs _ | exact fz_ints _ | exact fz_strs _))) ?_; conv => whnf) | (refine And.intro (by first | exact Or.inl (by decide) | exact Or.inr (by decide)) ?_; conv => whnf) | (refine Or.inl (And.intro (by first | assumption | rfl | exact fzL_ints _ | exact fzL_strs _ | exact fz_ints _ | exact fz_strs _) ?_); conv => whnf) | (refine ⟨fun _ => ?_, fun z => Bool.noConfusion z⟩; conv => whnf) | (refine ⟨fun z => Bool.noConfusion z, fun _ => ?_⟩; conv => whnf) | (intro p0 z; rw [frz_lstp (by first | assumption | rfl | exact fzL_ints _ | exact fzL_strs _ | exact fz_ints _ | exact fz_strs _)] at z; subst z; conv => whnf) | (intro p0 z; rw [PV.fz_frz _ (by first | assumption | rfl | exact fzL_ints _ | exact fzL_strs _ | exact fz_ints _ | exact fz_strs _)] at z; subst z; conv => whnf))
      refine is_ok ?_
      (conv => whnf); repeat (first | (refine ⟨_, rfl, (by first | assumption | rfl | exact fzL_ints _ | exact fzL_strs _ | exact fz_ints _ | exact fz_strs _), ?_⟩; conv => whnf) | (refine ⟨_, rfl, ?_⟩; conv => whnf) | (refine And.intro rfl ?_; conv => whnf) | (refine And.intro (by first | assumption | decide | omega) ?_; conv => whnf) | (refine And.intro (by first | assumption | rfl | exact fzL_ints _ | exact fzL_strs _ | exact fz_ints _ | exact fz_strs _) ?_; conv => whnf) | (refine And.intro (And.intro (by first | assumption | decide | omega) (by first | assumption | decide | omega)) ?_; conv => whnf) | (refine And.intro (And.intro (And.intro (by first | assumption | decide | omega) (by first | assumption | decide | omega)) (And.intro (by first | assumption | decide | omega) (by first | assumption | decide | omega))) ?_; conv => whnf) | (refine And.intro (And.intro (by first | assumption | rfl | exact fzL_ints _ | exact fzL_strs _ | exact fz_ints _ | exact fz_strs _) (And.intro (by first | assumption | rfl | exact fzL_ints _ | exact fzL_strs _ | exact fz_ints _ | exact fz_strs _) (by first | assumption | rfl | exact fzL_ints _ | exact fzL_strs _ | exact fz_ints _ | exact fz_strs _))) ?_; conv => whnf) | (refine And.intro (by first | exact Or.inl (by decide) | exact Or.inr (by decide)) ?_; conv => whnf) | (refine Or.inl (And.intro (by first | assumption | rfl | exact fzL_ints _ | exact fzL_strs _ | exact fz_ints _ | exact fz_strs _) ?_); conv => whnf) | (refine ⟨fun _ => ?_, fun z => Bool.noConfusion z⟩; conv => whnf) | (refine ⟨fun z => Bool.noConfusion z, fun _ => ?_⟩; conv => whnf) | (intro p0 z; rw [frz_lstp (by first | assumption | rfl | exact fzL_ints _ | exact fzL_strs _ | exact fz_ints _ | exact fz_strs _)] at z; subst z; conv => whnf) | (intro p0 z; rw [PV.fz_frz _ (by first | assumption | rfl | exact fzL_ints _ | exact fzL_strs _ | exact fz_ints _ | exact fz_strs _)] at z; subst z; conv => whnf))
      refine ⟨fun hk => by simp at hk, fun _ => ?_⟩
      (conv => whnf); repeat (first | (refine ⟨_, rfl, (by first | assumption | rfl | exact fzL_ints _ | exact fzL_strs _ | exact fz_ints _ | exact fz_strs _), ?_⟩; conv => whnf) | (refine ⟨_, rfl, ?_⟩; conv => whnf) | (refine And.intro rfl ?_; conv => whnf) | (refine And.intro (by first | assumption | decide | omega) ?_; conv => whnf) | (refine And.intro (by first | assumption | rfl | exact fzL_ints _ | exact fzL_strs _ | exact fz_ints _ | exact fz_strs _) ?_; conv => whnf) | (refine And.intro (And.intro (by first | assumption | decide | omega) (by first | assumption | decide | omega)) ?_; conv => whnf) | (refine And.intro (And.intro (And.intro (by first | assumption | decide | omega) (by first | assumption | decide | omega)) (And.intro (by first | assumption | decide | omega) (by first | assumption | decide | omega))) ?_; conv => whnf) | (refine And.intro (And.intro (by first | assumption | rfl | exact fzL_ints _ | exact fzL_strs _ | exact fz_ints _ | exact fz_strs _) (And.intro (by first | assumption | rfl | exact fzL_ints _ | exact fzL_strs _ | exact fz_ints _ | exact fz_strs _) (by first | assumption | rfl | exact fzL_ints _ | exact fzL_strs _ | exact fz_ints _ | exact fz_strs _))) ?_; conv => whnf) | (refine And.intro (by first | exact Or.inl (by decide) | exact Or.inr (by decide)) ?_; conv => whnf) | (refine Or.inl (And.intro (by first | assumption | rfl | exact fzL_ints _ | exact fzL_strs _ | exact fz_ints _ | exact fz_strs _) ?_); conv => whnf) | (refine ⟨fun _ => ?_, fun z => Bool.noConfusion z⟩; conv => whnf) | (refine ⟨fun z => Bool.noConfusion z, fun _ => ?_⟩; conv => whnf) | (intro p0 z; rw [frz_lstp (by first | assumption | rfl | exact fzL_ints _ | exact fzL_strs _ | exact fz_ints _ | exact fz_strs _)] at z; subst z; conv => whnf) | (intro p0 z; rw [PV.fz_frz _ (by first | assumption | rfl | exact fzL_ints _ | exact fzL_strs _ | exact fz_ints _ | exact fz_strs _)] at z; subst z; conv => whnf))
      exact ⟨_, rfl⟩
  rintro _ ⟨z6, z12, rfl⟩
  refine ⟨vwLen_map rfl, ?_⟩
  (conv => whnf); repeat (first | (refine ⟨_, rfl, (by first | assumption | rfl | exact fzL_ints _ | exact fzL_strs _ | exact fz_ints _ | exact fz_strs _), ?_⟩; conv => whnf) | (refine ⟨_, rfl, ?_⟩; conv => whnf) | (refine And.intro rfl ?_; conv => whnf) | (refine And.intro (by first | assumption | decide | omega) ?_; conv => whnf) | (refine And.intro (by first | assumption | rfl | exact fzL_ints _ | exact fzL_strs _ | exact fz_ints _ | exact fz_strs _) ?_; conv => whnf) | (refine And.intro (And.intro (by first | assumption | decide | omega) (by first | assumption | decide | omega)) ?_; conv => whnf) | (refine And.intro (And.intro (And.intro (by first | assumption | decide | omega) (by first | assumption | decide | omega)) (And.intro (by first | assumption | decide | omega) (by first | assumption | decide | omega))) ?_; conv => whnf) | (refine And.intro (And.intro (by first | assumption | rfl | exact fzL_ints _ | exact fzL_strs _ | exact fz_ints _ | exact fz_strs _) (And.intro (by first | assumption | rfl | exact fzL_ints _ | exact fzL_strs _ | exact fz_ints _ | exact fz_strs _) (by first | assumption | rfl | exact fzL_ints _ | exact fzL_strs _ | exact fz_ints _ | exact fz_strs _))) ?_; conv => whnf) | (refine And.intro (by first | exact Or.inl (by decide) | exact Or.inr (by decide)) ?_; conv => whnf) | (refine Or.inl (And.intro (by first | assumption | rfl | exact fzL_ints _ | exact fzL_strs _ | exact fz_ints _ | exact fz_strs _) ?_); conv => whnf) | (refine ⟨fun _ => ?_, fun z => Bool.noConfusion z⟩; conv => whnf) | (refine ⟨fun z => Bool.noConfusion z, fun _ => ?_⟩; conv => whnf) | (intro p0 z; rw [frz_lstp (by first | assumption | rfl | exact fzL_ints _ | exact fzL_strs _ | exact fz_ints _ | exact fz_strs _)] at z; subst z; conv => whnf) | (intro p0 z; rw [PV.fz_frz _ (by first | assumption | rfl | exact fzL_ints _ | exact fzL_strs _ | exact fz_ints _ | exact fz_strs _)] at z; subst z; conv => whnf))
  refine draw_ok T_draw hc (by decide) (lg (by decide) (by decide)) fun d8 i8 r8 k8 m0 m1 => ?_
  (conv => whnf); repeat (first | (refine ⟨_, rfl, (by first | assumption | rfl | exact fzL_ints _ | exact fzL_strs _ | exact fz_ints _ | exact fz_strs _), ?_⟩; conv => whnf) | (refine ⟨_, rfl, ?_⟩; conv => whnf) | (refine And.intro rfl ?_; conv => whnf) | (refine And.intro (by first | assumption | decide | omega) ?_; conv => whnf) | (refine And.intro (by first | assumption | rfl | exact fzL_ints _ | exact fzL_strs _ | exact fz_ints _ | exact fz_strs _) ?_; conv => whnf) | (refine And.intro (And.intro (by first | assumption | decide | omega) (by first | assumption | decide | omega)) ?_; conv => whnf) | (refine And.intro (And.intro (And.intro (by first | assumption | decide | omega) (by first | assumption | decide | omega)) (And.intro (by first | assumption | decide | omega) (by first | assumption | decide | omega))) ?_; conv => whnf) | (refine And.intro (And.intro (by first | assumption | rfl | exact fzL_ints _ | exact fzL_strs _ | exact fz_ints _ | exact fz_strs _) (And.intro (by first | assumption | rfl | exact fzL_ints _ | exact fzL_strs _ | exact fz_ints _ | exact fz_strs _) (by first | assumption | rfl | exact fzL_ints _ | exact fzL_strs _ | exact fz_ints _ | exact fz_strs _))) ?_; conv => whnf) | (refine And.intro (by first | exact Or.inl (by decide) | exact Or.inr (by decide)) ?_; conv => whnf) | (refine Or.inl (And.intro (by first | assumption | rfl | exact fzL_ints _ | exact fzL_strs _ | exact fz_ints _ | exact fz_strs _) ?_); conv => whnf) | (refine ⟨fun _ => ?_, fun z => Bool.noConfusion z⟩; conv => whnf) | (refine ⟨fun z => Bool.noConfusion z, fun _ => ?_⟩; conv => whnf) | (intro p0 z; rw [frz_lstp (by first | assumption | rfl | exact fzL_ints _ | exact fzL_strs _ | exact fz_ints _ | exact fz_strs _)] at z; subst z; conv => whnf) | (intro p0 z; rw [PV.fz_frz _ (by first | assumption | rfl | exact fzL_ints _ | exact fzL_strs _ | exact fz_ints _ | exact fz_strs _)] at z; subst z; conv => whnf))
  refine zF_in (fun rest ρ => ∃ (i r k : Int) (ms : List (Option (List Str))) (z4 z13 : Option PV), ms.length + rest.length = d8.toNat ∧ (∀ a, some a ∈ ms → a.length ≤ 6) ∧ ρ = [some (.lck (ns.map .int)), some (potP cs i r k), some (.lst true (ls.map .str)), some (.lst true (gs.map fP)), z4, some (.lst true (gs.map fP)), z6, some (.lst true (ms.map oP)), none, none, none, z11, z12, z13]) ?_ ?_ ?_
  · exact ⟨_, _, _, [], _, _, by simp [rng_len], by simp, rfl⟩
  rotate_left
  · rintro x rest _ ⟨i, r, k, ms, z4, z13, p1, p2, rfl⟩
    simp only [List.length_cons] at p1
    refine ⟨_, rfl, ?_⟩
    (conv => whnf); repeat (first | (refine ⟨_, rfl, (by first | assumption | rfl | exact fzL_ints _ | exact fzL_strs _ | exact fz_ints _ | exact fz_strs _), ?_⟩; conv => whnf) | (refine ⟨_, rfl, ?_⟩; conv => whnf) | (refine And.intro rfl ?_; conv => whnf) | (refine And.intro (by first | assumption | decide | omega) ?_; conv => whnf) | (refine And.intro (by first | assumption | rfl | exact fzL_ints _ | exact fzL_strs _ | exact fz_ints _ | exact fz_strs _) ?_; conv => whnf) | (refine And.intro (And.intro (by first | assumption | decide | omega) (by first | assumption | decide | omega)) ?_; conv => whnf) | (refine And.intro (And.intro (And.intro (by first | assumption | decide | omega) (by first | assumption | decide | omega)) (And.intro (by first | assumption | decide | omega) (by first | assumption | decide | omega))) ?_; conv => whnf) | (refine And.intro (And.intro (by first | assumption | rfl | exact fzL_ints _ | exact fzL_strs _ | exact fz_ints _ | exact fz_strs _) (And.intro (by first | assumption | rfl | exact fzL_ints _ | exact fzL_strs _ | exact fz_ints _ | exact fz_strs _) (by first | assumption | rfl | exact fzL_ints _ | exact fzL_strs _ | exact fz_ints _ | exact fz_strs _))) ?_; conv => whnf) | (refine And.intro (by first | exact Or.inl (by decide) | exact Or.inr (by decide)) ?_; conv => whnf) | (refine Or.inl (And.intro (by first | assumption | rfl | exact fzL_ints _ | exact fzL_strs _ | exact fz_ints _ | exact fz_strs _) ?_); conv => whnf) | (refine ⟨fun _ => ?_, fun z => Bool.noConfusion z⟩; conv => whnf) | (refine ⟨fun z => Bool.noConfusion z, fun _ => ?_⟩; conv => whnf) | (intro p0 z; rw [frz_lstp (by first | assumption | rfl | exact fzL_ints _ | exact fzL_strs _ | exact fz_ints _ | exact fz_strs _)] at z; subst z; conv => whnf) | (intro p0 z; rw [PV.fz_frz _ (by first | assumption | rfl | exact fzL_ints _ | exact fzL_strs _ | exact fz_ints _ | exact fz_strs _)] at z; subst z; conv => whnf))
    refine draw_ok T_draw hc (by decide) (lg (by decide) (by decide)) fun d9 i9 r9 k9 q0 q1 => ?_
    (conv => whnf); repeat (first | (refine ⟨_, rfl, (by first | assumption | rfl | exact fzL_ints _ | exact fzL_strs _ | exact fz_ints _ | exact fz_strs _), ?_⟩; conv => whnf) | (refine ⟨_, rfl, ?_⟩; conv => whnf) | (refine And.intro rfl ?_; conv => whnf) | (refine And.intro (by first | assumption | decide | omega) ?_; conv => whnf) | (refine And.intro (by first | assumption | rfl | exact fzL_ints _ | exact fzL_strs _ | exact fz_ints _ | exact fz_strs _) ?_; conv => whnf) | (refine And.intro (And.intro (by first | assumption | decide | omega) (by first | assumption | decide | omega)) ?_; conv => whnf) | (refine And.intro (And.intro (And.intro (by first | assumption | decide | omega) (by first | assumption | decide | omega)) (And.intro (by first | assumption | decide | omega) (by first | assumption | decide | omega))) ?_; conv => whnf) | (refine And.intro (And.intro (by first | assumption | rfl | exact fzL_ints _ | exact fzL_strs _ | exact fz_ints _ | exact fz_strs _) (And.intro (by first | assumption | rfl | exact fzL_ints _ | exact fzL_strs _ | exact fz_ints _ | exact fz_strs _) (by first | assumption | rfl | exact fzL_ints _ | exact fzL_strs _ | exact fz_ints _ | exact fz_strs _))) ?_; conv => whnf) | (refine And.intro (by first | exact Or.inl (by decide) | exact Or.inr (by decide)) ?_; conv => whnf) | (refine Or.inl (And.intro (by first | assumption | rfl | exact fzL_ints _ | exact fzL_strs _ | exact fz_ints _ | exact fz_strs _) ?_); conv => whnf) | (refine ⟨fun _ => ?_, fun z => Bool.noConfusion z⟩; conv => whnf) | (refine ⟨fun z => Bool.noConfusion z, fun _ => ?_⟩; conv => whnf) | (intro p0 z; rw [frz_lstp (by first | assumption | rfl | exact fzL_ints _ | exact fzL_strs _ | exact fz_ints _ | exact fz_strs _)] at z; subst z; conv => whnf) | (intro p0 z; rw [PV.fz_frz _ (by first | assumption | rfl | exact fzL_ints _ | exact fzL_strs _ | exact fz_ints _ | exact fz_strs _)] at z; subst z; conv => whnf))
    refine ⟨fun e9 => ?_, fun e9 => ?_⟩
    · (conv => whnf); repeat (first | (refine ⟨_, rfl, (by first | assumption | rfl | exact fzL_ints _ | exact fzL_strs _ | exact fz_ints _ | exact fz_strs _), ?_⟩; conv => whnf) | (refine ⟨_, rfl, ?_⟩; conv => whnf) | (refine And.intro rfl ?_; conv => whnf) | (refine And.intro (by first | assumption | decide | omega) ?_; conv => whnf) | (refine And.intro (by first | assumption | rfl | exact fzL_ints _ | exact fzL_strs _ | exact fz_ints _ | exact fz_strs _) ?_; conv => whnf) | (refine And.intro (And.intro (by first | assumption | decide | omega) (by first | assumption | decide | omega)) ?_; conv => whnf) | (refine And.intro (And.intro (And.intro (by first | assumption | decide | omega) (by first | assumption | decide | omega)) (And.intro (by first | assumption | decide | omega) (by first | assumption | decide | omega))) ?_; conv => whnf) | (refine And.intro (And.intro (by first | assumption | rfl | exact fzL_ints _ | exact fzL_strs _ | exact fz_ints _ | exact fz_strs _) (And.intro (by first | assumption | rfl | exact fzL_ints _ | exact fzL_strs _ | exact fz_ints _ | exact fz_strs _) (by first | assumption | rfl | exact fzL_ints _ | exact fzL_strs _ | exact fz_ints _ | exact fz_strs _))) ?_; conv => whnf) | (refine And.intro (by first | exact Or.inl (by decide) | exact Or.inr (by decide)) ?_; conv => whnf) | (refine Or.inl (And.intro (by first | assumption | rfl | exact fzL_ints _ | exact fzL_strs _ | exact fz_ints _ | exact fz_strs _) ?_); conv => whnf) | (refine ⟨fun _ => ?_, fun z => Bool.noConfusion z⟩; conv => whnf) | (refine ⟨fun z => Bool.noConfusion z, fun _ => ?_⟩; conv => whnf) | (intro p0 z; rw [frz_lstp (by first | assumption | rfl | exact fzL_ints _ | exact fzL_strs _ | exact fz_ints _ | exact fz_strs _)] at z; subst z; conv => whnf) | (intro p0 z; rw [PV.fz_frz _ (by first | assumption | rfl | exact fzL_ints _ | exact fzL_strs _ | exact fz_ints _ | exact fz_strs _)] at z; subst z; conv => whnf))
      refine ⟨small_lt (show _ ≤ 10 by simp; omega), ?_⟩
      refine ⟨_, _, _, ms ++ [none], _, _, by simp; omega, fun a ha => ?_, by rw [List.map_append]; rfl⟩
      rcases mem_app_one ha with h | h
      · exact p2 a h
      · cases h
    · have hd9 : d9 ≤ 5 := by
        have := of_decide_eq_false e9
        omega
      obtain ⟨hj, e⟩ := atI_get (f := fP) (xs := gs) q0 (by omega)
      (conv => whnf); repeat (first | (refine ⟨_, rfl, (by first | assumption | rfl | exact fzL_ints _ | exact fzL_strs _ | exact fz_ints _ | exact fz_strs _), ?_⟩; conv => whnf) | (refine ⟨_, rfl, ?_⟩; conv => whnf) | (refine And.intro rfl ?_; conv => whnf) | (refine And.intro (by first | assumption | decide | omega) ?_; conv => whnf) | (refine And.intro (by first | assumption | rfl | exact fzL_ints _ | exact fzL_strs _ | exact fz_ints _ | exact fz_strs _) ?_; conv => whnf) | (refine And.intro (And.intro (by first | assumption | decide | omega) (by first | assumption | decide | omega)) ?_; conv => whnf) | (refine And.intro (And.intro (And.intro (by first | assumption | decide | omega) (by first | assumption | decide | omega)) (And.intro (by first | assumption | decide | omega) (by first | assumption | decide | omega))) ?_; conv => whnf) | (refine And.intro (And.intro (by first | assumption | rfl | exact fzL_ints _ | exact fzL_strs _ | exact fz_ints _ | exact fz_strs _) (And.intro (by first | assumption | rfl | exact fzL_ints _ | exact fzL_strs _ | exact fz_ints _ | exact fz_strs _) (by first | assumption | rfl | exact fzL_ints _ | exact fzL_strs _ | exact fz_ints _ | exact fz_strs _))) ?_; conv => whnf) | (refine And.intro (by first | exact Or.inl (by decide) | exact Or.inr (by decide)) ?_; conv => whnf) | (refine Or.inl (And.intro (by first | assumption | rfl | exact fzL_ints _ | exact fzL_strs _ | exact fz_ints _ | exact fz_strs _) ?_); conv => whnf) | (refine ⟨fun _ => ?_, fun z => Bool.noConfusion z⟩; conv => whnf) | (refine ⟨fun z => Bool.noConfusion z, fun _ => ?_⟩; conv => whnf) | (intro p0 z; rw [frz_lstp (by first | assumption | rfl | exact fzL_ints _ | exact fzL_strs _ | exact fz_ints _ | exact fz_strs _)] at z; subst z; conv => whnf) | (intro p0 z; rw [PV.fz_frz _ (by first | assumption | rfl | exact fzL_ints _ | exact fzL_strs _ | exact fz_ints _ | exact fz_strs _)] at z; subst z; conv => whnf))
      refine ⟨_, e, fz_strs _, ?_⟩
      (conv => whnf); repeat (first | (refine ⟨_, rfl, (by first | assumption | rfl | exact fzL_ints _ | exact fzL_strs _ | exact fz_ints _ | exact fz_strs _), ?_⟩; conv => whnf) | (refine ⟨_, rfl, ?_⟩; conv => whnf) | (refine And.intro rfl ?_; conv => whnf) | (refine And.intro (by first | assumption | decide | omega) ?_; conv => whnf) | (refine And.intro (by first | assumption | rfl | exact fzL_ints _ | exact fzL_strs _ | exact fz_ints _ | exact fz_strs _) ?_; conv => whnf) | (refine And.intro (And.intro (by first | assumption | decide | omega) (by first | assumption | decide | omega)) ?_; conv => whnf) | (refine And.intro (And.intro (And.intro (by first | assumption | decide | omega) (by first | assumption | decide | omega)) (And.intro (by first | assumption | decide | omega) (by first | assumption | decide | omega))) ?_; conv => whnf) | (refine And.intro (And.intro (by first | assumption | rfl | exact fzL_ints _ | exact fzL_strs _ | exact fz_ints _ | exact fz_strs _) (And.intro (by first | assumption | rfl | exact fzL_ints _ | exact fzL_strs _ | exact fz_ints _ | exact fz_strs _) (by first | assumption | rfl | exact fzL_ints _ | exact fzL_strs _ | exact fz_ints _ | exact fz_strs _))) ?_; conv => whnf) | (refine And.intro (by first | exact Or.inl (by decide) | exact Or.inr (by decide)) ?_; conv => whnf) | (refine Or.inl (And.intro (by first | assumption | rfl | exact fzL_ints _ | exact fzL_strs _ | exact fz_ints _ | exact fz_strs _) ?_); conv => whnf) | (refine ⟨fun _ => ?_, fun z => Bool.noConfusion z⟩; conv => whnf) | (refine ⟨fun z => Bool.noConfusion z, fun _ => ?_⟩; conv => whnf) | (intro p0 z; rw [frz_lstp (by first | assumption | rfl | exact fzL_ints _ | exact fzL_strs _ | exact fz_ints _ | exact fz_strs _)] at z; subst z; conv => whnf) | (intro p0 z; rw [PV.fz_frz _ (by first | assumption | rfl | exact fzL_ints _ | exact fzL_strs _ | exact fz_ints _ | exact fz_strs _)] at z; subst z; conv => whnf))
      refine ⟨small_lt (show _ ≤ 10 by simp; omega), ?_⟩
      refine ⟨_, _, _, ms ++ [some gs[d9.toNat]], _, _, by simp; omega, fun a ha => ?_, by rw [List.map_append]; rfl⟩
      rcases mem_app_one ha with h | h
      · exact p2 a h
      · cases h
        exact b3 _ (List.getElem_mem hj)
  rintro _ ⟨i, r, k, ms, z4, z13, p1, p2, rfl⟩
  have hz := fzL_oP ms
  (conv => whnf); repeat (first | (refine ⟨_, rfl, (by first | assumption | rfl | exact fzL_ints _ | exact fzL_strs _ | exact fz_ints _ | exact fz_strs _), ?_⟩; conv => whnf) | (refine ⟨_, rfl, ?_⟩; conv => whnf) | (refine And.intro rfl ?_; conv => whnf) | (refine And.intro (by first | assumption | decide | omega) ?_; conv => whnf) | (refine And.intro (by first | assumption | rfl | exact fzL_ints _ | exact fzL_strs _ | exact fz_ints _ | exact fz_strs _) ?_; conv => whnf) | (refine And.intro (And.intro (by first | assumption | decide | omega) (by first | assumption | decide | omega)) ?_; conv => whnf) | (refine And.intro (And.intro (And.intro (by first | assumption | decide | omega) (by first | assumption | decide | omega)) (And.intro (by first | assumption | decide | omega) (by first | assumption | decide | omega))) ?_; conv => whnf) | (refine And.intro (And.intro (by first | assumption | rfl | exact fzL_ints _ | exact fzL_strs _ | exact fz_ints _ | exact fz_strs _) (And.intro (by first | assumption | rfl | exact fzL_ints _ | exact fzL_strs _ | exact fz_ints _ | exact fz_strs _) (by first | assumption | rfl | exact fzL_ints _ | exact fzL_strs _ | exact fz_ints _ | exact fz_strs _))) ?_; conv => whnf) | (refine And.intro (by first | exact Or.inl (by decide) | exact Or.inr (by decide)) ?_; conv => whnf) | (refine Or.inl (And.intro (by first | assumption | rfl | exact fzL_ints _ | exact fzL_strs _ | exact fz_ints _ | exact fz_strs _) ?_); conv => whnf) | (refine ⟨fun _ => ?_, fun z => Bool.noConfusion z⟩; conv => whnf) | (refine ⟨fun z => Bool.noConfusion z, fun _ => ?_⟩; conv => whnf) | (intro p0 z; rw [frz_lstp (by first | assumption | rfl | exact fzL_ints _ | exact fzL_strs _ | exact fz_ints _ | exact fz_strs _)] at z; subst z; conv => whnf) | (intro p0 z; rw [PV.fz_frz _ (by first | assumption | rfl | exact fzL_ints _ | exact fzL_strs _ | exact fz_ints _ | exact fz_strs _)] at z; subst z; conv => whnf))
  refine zFv_in (fun j ρ => ∃ (acc : Option (List Str)) (z6 : Option PV), leastG acc (ms.drop j) = leastG none ms ∧ (∀ a, acc = some a → a.length ≤ 6) ∧ ρ = [some (.lck (ns.map .int)), some (potP cs i r k), some (.lst true (ls.map .str)), some (.lst true (gs.map fP)), z4, some (.lst true (gs.map fP)), z6, some (.lst true (ms.map oP)), some (oP acc), none, none, z11, z12, z13]) ?_ ?_ ?_
  · exact ⟨none, _, rfl, by simp, rfl⟩
  rotate_left
  · rintro j _ hj ⟨acc, z6, s1, s2, rfl⟩
    have hj' : j < ms.length := by simpa using hj
    refine ⟨_, _, vwAt_map fz_oP rfl hj', rfl, ?_⟩
    rw [List.drop_eq_getElem_cons hj', leastG] at s1
    have hm : ∀ a, ms[j] = some a → a.length ≤ 6 := fun a e => p2 a (by rw [← e]; exact List.getElem_mem hj')
    generalize ms[j] = y at s1 hm
    cases y with
    | none =>
      (conv => whnf); repeat (first | (refine ⟨_, rfl, (by first | assumption | rfl | exact fzL_ints _ | exact fzL_strs _ | exact fz_ints _ | exact fz_strs _), ?_⟩; conv => whnf) | (refine ⟨_, rfl, ?_⟩; conv => whnf) | (refine And.intro rfl ?_; conv => whnf) | (refine And.intro (by first | assumption | decide | omega) ?_; conv => whnf) | (refine And.intro (by first | assumption | rfl | exact fzL_ints _ | exact fzL_strs _ | exact fz_ints _ | exact fz_strs _) ?_; conv => whnf) | (refine And.intro (And.intro (by first | assumption | decide | omega) (by first | assumption | decide | omega)) ?_; conv => whnf) | (refine And.intro (And.intro (And.intro (by first | assumption | decide | omega) (by first | assumption | decide | omega)) (And.intro (by first | assumption | decide | omega) (by first | assumption | decide | omega))) ?_; conv => whnf) | (refine And.intro (And.intro (by first | assumption | rfl | exact fzL_ints _ | exact fzL_strs _ | exact fz_ints _ | exact fz_strs _) (And.intro (by first | assumption | rfl | exact fzL_ints _ | exact fzL_strs _ | exact fz_ints _ | exact fz_strs _) (by first | assumption | rfl | exact fzL_ints _ | exact fzL_strs _ | exact fz_ints _ | exact fz_strs _))) ?_; conv => whnf) | (refine And.intro (by first | exact Or.inl (by decide) | exact Or.inr (by decide)) ?_; conv => whnf) | (refine Or.inl (And.intro (by first | assumption | rfl | exact fzL_ints _ | exact fzL_strs _ | exact fz_ints _ | exact fz_strs _) ?_); conv => whnf) | (refine ⟨fun _ => ?_, fun z => Bool.noConfusion z⟩; conv => whnf) | (refine ⟨fun z => Bool.noConfusion z, fun _ => ?_⟩; conv => whnf) | (intro p0 z; rw [frz_lstp (by first | assumption | rfl | exact fzL_ints _ | exact fzL_strs _ | exact fz_ints _ | exact fz_strs _)] at z; subst z; conv => whnf) | (intro p0 z; rw [PV.fz_frz _ (by first | assumption | rfl | exact fzL_ints _ | exact fzL_strs _ | exact fz_ints _ | exact fz_strs _)] at z; subst z; conv => whnf))
      exact ⟨acc, _, s1, s2, rfl⟩
    | some a =>
      cases acc with
      | none =>
        (conv => whnf); repeat (first | (refine ⟨_, rfl, (by first | assumption | rfl | exact fzL_ints _ | exact fzL_strs _ | exact fz_ints _ | exact fz_strs _), ?_⟩; conv => whnf) | (refine ⟨_, rfl, ?_⟩; conv => whnf) | (refine And.intro rfl ?_; conv => whnf) | (refine And.intro (by first | assumption | decide | omega) ?_; conv => whnf) | (refine And.intro (by first | assumption | rfl | exact fzL_ints _ | exact fzL_strs _ | exact fz_ints _ | exact fz_strs _) ?_; conv => whnf) | (refine And.intro (And.intro (by first | assumption | decide | omega) (by first | assumption | decide | omega)) ?_; conv => whnf) | (refine And.intro (And.intro (And.intro (by first | assumption | decide | omega) (by first | assumption | decide | omega)) (And.intro (by first | assumption | decide | omega) (by first | assumption | decide | omega))) ?_; conv => whnf) | (refine And.intro (And.intro (by first | assumption | rfl | exact fzL_ints _ | exact fzL_strs _ | exact fz_ints _ | exact fz_strs _) (And.intro (by first | assumption | rfl | exact fzL_ints _ | exact fzL_strs _ | exact fz_ints _ | exact fz_strs _) (by first | assumption | rfl | exact fzL_ints _ | exact fzL_strs _ | exact fz_ints _ | exact fz_strs _))) ?_; conv => whnf) | (refine And.intro (by first | exact Or.inl (by decide) | exact Or.inr (by decide)) ?_; conv => whnf) | (refine Or.inl (And.intro (by first | assumption | rfl | exact fzL_ints _ | exact fzL_strs _ | exact fz_ints _ | exact fz_strs _) ?_); conv => whnf) | (refine ⟨fun _ => ?_, fun z => Bool.noConfusion z⟩; conv => whnf) | (refine ⟨fun z => Bool.noConfusion z, fun _ => ?_⟩; conv => whnf) | (intro p0 z; rw [frz_lstp (by first | assumption | rfl | exact fzL_ints _ | exact fzL_strs _ | exact fz_ints _ | exact fz_strs _)] at z; subst z; conv => whnf) | (intro p0 z; rw [PV.fz_frz _ (by first | assumption | rfl | exact fzL_ints _ | exact fzL_strs _ | exact fz_ints _ | exact fz_strs _)] at z; subst z; conv => whnf))
        exact ⟨some a, _, s1, hm, rfl⟩
      | some b =>
        (conv => whnf); repeat (first | (refine ⟨_, rfl, (by first | assumption | rfl | exact fzL_ints _ | exact fzL_strs _ | exact fz_ints _ | exact fz_strs _), ?_⟩; conv => whnf) | (refine ⟨_, rfl, ?_⟩; conv => whnf) | (refine And.intro rfl ?_; conv => whnf) | (refine And.intro (by first | assumption | decide | omega) ?_; conv => whnf) | (refine And.intro (by first | assumption | rfl | exact fzL_ints _ | exact fzL_strs _ | exact fz_ints _ | exact fz_strs _) ?_; conv => whnf) | (refine And.intro (And.intro (by first | assumption | decide | omega) (by first | assumption | decide | omega)) ?_; conv => whnf) | (refine And.intro (And.intro (And.intro (by first | assumption | decide | omega) (by first | assumption | decide | omega)) (And.intro (by first | assumption | decide | omega) (by first | assumption | decide | omega))) ?_; conv => whnf) | (refine And.intro (And.intro (by first | assumption | rfl | exact fzL_ints _ | exact fzL_strs _ | exact fz_ints _ | exact fz_strs _) (And.intro (by first | assumption | rfl | exact fzL_ints _ | exact fzL_strs _ | exact fz_ints _ | exact fz_strs _) (by first | assumption | rfl | exact fzL_ints _ | exact fzL_strs _ | exact fz_ints _ | exact fz_strs _))) ?_; conv => whnf) | (refine And.intro (by first | exact Or.inl (by decide) | exact Or.inr (by decide)) ?_; conv => whnf) | (refine Or.inl (And.intro (by first | assumption | rfl | exact fzL_ints _ | exact fzL_strs _ | exact fz_ints _ | exact fz_strs _) ?_); conv => whnf) | (refine ⟨fun _ => ?_, fun z => Bool.noConfusion z⟩; conv => whnf) | (refine ⟨fun z => Bool.noConfusion z, fun _ => ?_⟩; conv => whnf) | (intro p0 z; rw [frz_lstp (by first | assumption | rfl | exact fzL_ints _ | exact fzL_strs _ | exact fz_ints _ | exact fz_strs _)] at z; subst z; conv => whnf) | (intro p0 z; rw [PV.fz_frz _ (by first | assumption | rfl | exact fzL_ints _ | exact fzL_strs _ | exact fz_ints _ | exact fz_strs _)] at z; subst z; conv => whnf))
        refine less_ok (Nat.le_trans (hm a rfl) (by decide)) ?_
        (conv => whnf); repeat (first | (refine ⟨_, rfl, (by first | assumption | rfl | exact fzL_ints _ | exact fzL_strs _ | exact fz_ints _ | exact fz_strs _), ?_⟩; conv => whnf) | (refine ⟨_, rfl, ?_⟩; conv => whnf) | (refine And.intro rfl ?_; conv => whnf) | (refine And.intro (by first | assumption | decide | omega) ?_; conv => whnf) | (refine And.intro (by first | assumption | rfl | exact fzL_ints _ | exact fzL_strs _ | exact fz_ints _ | exact fz_strs _) ?_; conv => whnf) | (refine And.intro (And.intro (by first | assumption | decide | omega) (by first | assumption | decide | omega)) ?_; conv => whnf) | (refine And.intro (And.intro (And.intro (by first | assumption | decide | omega) (by first | assumption | decide | omega)) (And.intro (by first | assumption | decide | omega) (by first | assumption | decide | omega))) ?_; conv => whnf) | (refine And.intro (And.intro (by first | assumption | rfl | exact fzL_ints _ | exact fzL_strs _ | exact fz_ints _ | exact fz_strs _) (And.intro (by first | assumption | rfl | exact fzL_ints _ | exact fzL_strs _ | exact fz_ints _ | exact fz_strs _) (by first | assumption | rfl | exact fzL_ints _ | exact fzL_strs _ | exact fz_ints _ | exact fz_strs _))) ?_; conv => whnf) | (refine And.intro (by first | exact Or.inl (by decide) | exact Or.inr (by decide)) ?_; conv => whnf) | (refine Or.inl (And.intro (by first | assumption | rfl | exact fzL_ints _ | exact fzL_strs _ | exact fz_ints _ | exact fz_strs _) ?_); conv => whnf) | (refine ⟨fun _ => ?_, fun z => Bool.noConfusion z⟩; conv => whnf) | (refine ⟨fun z => Bool.noConfusion z, fun _ => ?_⟩; conv => whnf) | (intro p0 z; rw [frz_lstp (by first | assumption | rfl | exact fzL_ints _ | exact fzL_strs _ | exact fz_ints _ | exact fz_strs _)] at z; subst z; conv => whnf) | (intro p0 z; rw [PV.fz_frz _ (by first | assumption | rfl | exact fzL_ints _ | exact fzL_strs _ | exact fz_ints _ | exact fz_strs _)] at z; subst z; conv => whnf))
        refine ⟨fun hk => ?_, fun hk => ?_⟩
        · (conv => whnf); repeat (first | (refine ⟨_, rfl, (by first | assumption | rfl | exact fzL_ints _ | exact fzL_strs _ | exact fz_ints _ | exact fz_strs _), ?_⟩; conv => whnf) | (refine ⟨_, rfl, ?_⟩; conv => whnf) | (refine And.intro rfl ?_; conv => whnf) | (refine And.intro (by first | assumption | decide | omega) ?_; conv => whnf) | (refine And.intro (by first | assumption | rfl | exact fzL_ints _ | exact fzL_strs _ | exact fz_ints _ | exact fz_strs _) ?_; conv => whnf) | (refine And.intro (And.intro (by first | assumption | decide | omega) (by first | assumption | decide | omega)) ?_; conv => whnf) | (refine And.intro (And.intro (And.intro (by first | assumption | decide | omega) (by first | assumption | decide | omega)) (And.intro (by first | assumption | decide | omega) (by first | assumption | decide | omega))) ?_; conv => whnf) | (refine And.intro (And.intro (by first | assumption | rfl | exact fzL_ints _ | exact fzL_strs _ | exact fz_ints _ | exact fz_strs _) (And.intro (by first | assumption | rfl | exact fzL_ints _ | exact fzL_strs _ | exact fz_ints _ | exact fz_strs _) (by first | assumption | rfl | exact fzL_ints _ | exact fzL_strs _ | exact fz_ints _ | exact fz_strs _))) ?_; conv => whnf) | (refine And.intro (by first | exact Or.inl (by decide) | exact Or.inr (by decide)) ?_; conv => whnf) | (refine Or.inl (And.intro (by first | assumption | rfl | exact fzL_ints _ | exact fzL_strs _ | exact fz_ints _ | exact fz_strs _) ?_); conv => whnf) | (refine ⟨fun _ => ?_, fun z => Bool.noConfusion z⟩; conv => whnf) | (refine ⟨fun z => Bool.noConfusion z, fun _ => ?_⟩; conv => whnf) | (intro p0 z; rw [frz_lstp (by first | assumption | rfl | exact fzL_ints _ | exact fzL_strs _ | exact fz_ints _ | exact fz_strs _)] at z; subst z; conv => whnf) | (intro p0 z; rw [PV.fz_frz _ (by first | assumption | rfl | exact fzL_ints _ | exact fzL_strs _ | exact fz_ints _ | exact fz_strs _)] at z; subst z; conv => whnf))
          exact ⟨some a, _, by rw [stepF] at s1; simpa [hk] using s1, hm, rfl⟩
        · (conv => whnf); repeat (first | (refine ⟨_, rfl, (by first | assumption | rfl | exact fzL_ints _ | exact fzL_strs _ | exact fz_ints _ | exact fz_strs _), ?_⟩; conv => whnf) | (refine ⟨_, rfl, ?_⟩; conv => whnf) | (refine And.intro rfl ?_; conv => whnf) | (refine And.intro (by first | assumption | decide | omega) ?_; conv => whnf) | (refine And.intro (by first | assumption | rfl | exact fzL_ints _ | exact fzL_strs _ | exact fz_ints _ | exact fz_strs _) ?_; conv => whnf) | (refine And.intro (And.intro (by first | assumption | decide | omega) (by first | assumption | decide | omega)) ?_; conv => whnf) | (refine And.intro (And.intro (And.intro (by first | assumption | decide | omega) (by first | assumption | decide | omega)) (And.intro (by first | assumption | decide | omega) (by first | assumption | decide | omega))) ?_; conv => whnf) | (refine And.intro (And.intro (by first | assumption | rfl | exact fzL_ints _ | exact fzL_strs _ | exact fz_ints _ | exact fz_strs _) (And.intro (by first | assumption | rfl | exact fzL_ints _ | exact fzL_strs _ | exact fz_ints _ | exact fz_strs _) (by first | assumption | rfl | exact fzL_ints _ | exact fzL_strs _ | exact fz_ints _ | exact fz_strs _))) ?_; conv => whnf) | (refine And.intro (by first | exact Or.inl (by decide) | exact Or.inr (by decide)) ?_; conv => whnf) | (refine Or.inl (And.intro (by first | assumption | rfl | exact fzL_ints _ | exact fzL_strs _ | exact fz_ints _ | exact fz_strs _) ?_); conv => whnf) | (refine ⟨fun _ => ?_, fun z => Bool.noConfusion z⟩; conv => whnf) | (refine ⟨fun z => Bool.noConfusion z, fun _ => ?_⟩; conv => whnf) | (intro p0 z; rw [frz_lstp (by first | assumption | rfl | exact fzL_ints _ | exact fzL_strs _ | exact fz_ints _ | exact fz_strs _)] at z; subst z; conv => whnf) | (intro p0 z; rw [PV.fz_frz _ (by first | assumption | rfl | exact fzL_ints _ | exact fzL_strs _ | exact fz_ints _ | exact fz_strs _)] at z; subst z; conv => whnf))
          exact ⟨some b, _, by rw [stepF] at s1; simpa [hk] using s1, s2, rfl⟩
  rintro _ ⟨acc, z6, s1, s2, rfl⟩
  refine ⟨vwLen_map rfl, ?_⟩
  rw [List.length_map, List.drop_length, leastG] at s1
  (conv => whnf); repeat (first | (refine ⟨_, rfl, (by first | assumption | rfl | exact fzL_ints _ | exact fzL_strs _ | exact fz_ints _ | exact fz_strs _), ?_⟩; conv => whnf) | (refine ⟨_, rfl, ?_⟩; conv => whnf) | (refine And.intro rfl ?_; conv => whnf) | (refine And.intro (by first | assumption | decide | omega) ?_; conv => whnf) | (refine And.intro (by first | assumption | rfl | exact fzL_ints _ | exact fzL_strs _ | exact fz_ints _ | exact fz_strs _) ?_; conv => whnf) | (refine And.intro (And.intro (by first | assumption | decide | omega) (by first | assumption | decide | omega)) ?_; conv => whnf) | (refine And.intro (And.intro (And.intro (by first | assumption | decide | omega) (by first | assumption | decide | omega)) (And.intro (by first | assumption | decide | omega) (by first | assumption | decide | omega))) ?_; conv => whnf) | (refine And.intro (And.intro (by first | assumption | rfl | exact fzL_ints _ | exact fzL_strs _ | exact fz_ints _ | exact fz_strs _) (And.intro (by first | assumption | rfl | exact fzL_ints _ | exact fzL_strs _ | exact fz_ints _ | exact fz_strs _) (by first | assumption | rfl | exact fzL_ints _ | exact fzL_strs _ | exact fz_ints _ | exact fz_strs _))) ?_; conv => whnf) | (refine And.intro (by first | exact Or.inl (by decide) | exact Or.inr (by decide)) ?_; conv => whnf) | (refine Or.inl (And.intro (by first | assumption | rfl | exact fzL_ints _ | exact fzL_strs _ | exact fz_ints _ | exact fz_strs _) ?_); conv => whnf) | (refine ⟨fun _ => ?_, fun z => Bool.noConfusion z⟩; conv => whnf) | (refine ⟨fun z => Bool.noConfusion z, fun _ => ?_⟩; conv => whnf) | (intro p0 z; rw [frz_lstp (by first | assumption | rfl | exact fzL_ints _ | exact fzL_strs _ | exact fz_ints _ | exact fz_strs _)] at z; subst z; conv => whnf) | (intro p0 z; rw [PV.fz_frz _ (by first | assumption | rfl | exact fzL_ints _ | exact fzL_strs _ | exact fz_ints _ | exact fz_strs _)] at z; subst z; conv => whnf))
  refine least_ok ?_
  rw [← s1]
  cases acc with
  | none =>
    (conv => whnf); repeat (first | (refine ⟨_, rfl, (by first | assumption | rfl | exact fzL_ints _ | exact fzL_strs _ | exact fz_ints _ | exact fz_strs _), ?_⟩; conv => whnf) | (refine ⟨_, rfl, ?_⟩; conv => whnf) | (refine And.intro rfl ?_; conv => whnf) | (refine And.intro (by first | assumption | decide | omega) ?_; conv => whnf) | (refine And.intro (by first | assumption | rfl | exact fzL_ints _ | exact fzL_strs _ | exact fz_ints _ | exact fz_strs _) ?_; conv => whnf) | (refine And.intro (And.intro (by first | assumption | decide | omega) (by first | assumption | decide | omega)) ?_; conv => whnf) | (refine And.intro (And.intro (And.intro (by first | assumption | decide | omega) (by first | assumption | decide | omega)) (And.intro (by first | assumption | decide | omega) (by first | assumption | decide | omega))) ?_; conv => whnf) | (refine And.intro (And.intro (by first | assumption | rfl | exact fzL_ints _ | exact fzL_strs _ | exact fz_ints _ | exact fz_strs _) (And.intro (by first | assumption | rfl | exact fzL_ints _ | exact fzL_strs _ | exact fz_ints _ | exact fz_strs _) (by first | assumption | rfl | exact fzL_ints _ | exact fzL_strs _ | exact fz_ints _ | exact fz_strs _))) ?_; conv => whnf) | (refine And.intro (by first | exact Or.inl (by decide) | exact Or.inr (by decide)) ?_; conv => whnf) | (refine Or.inl (And.intro (by first | assumption | rfl | exact fzL_ints _ | exact fzL_strs _ | exact fz_ints _ | exact fz_strs _) ?_); conv => whnf) | (refine ⟨fun _ => ?_, fun z => Bool.noConfusion z⟩; conv => whnf) | (refine ⟨fun z => Bool.noConfusion z, fun _ => ?_⟩; conv => whnf) | (intro p0 z; rw [frz_lstp (by first | assumption | rfl | exact fzL_ints _ | exact fzL_strs _ | exact fz_ints _ | exact fz_strs _)] at z; subst z; conv => whnf) | (intro p0 z; rw [PV.fz_frz _ (by first | assumption | rfl | exact fzL_ints _ | exact fzL_strs _ | exact fz_ints _ | exact fz_strs _)] at z; subst z; conv => whnf))
    refine ⟨_, kd_ne kO (by decide), ?_⟩
    (conv => whnf); repeat (first | (refine ⟨_, rfl, (by first | assumption | rfl | exact fzL_ints _ | exact fzL_strs _ | exact fz_ints _ | exact fz_strs _), ?_⟩; conv => whnf) | (refine ⟨_, rfl, ?_⟩; conv => whnf) | (refine And.intro rfl ?_; conv => whnf) | (refine And.intro (by first | assumption | decide | omega) ?_; conv => whnf) | (refine And.intro (by first | assumption | rfl | exact fzL_ints _ | exact fzL_strs _ | exact fz_ints _ | exact fz_strs _) ?_; conv => whnf) | (refine And.intro (And.intro (by first | assumption | decide | omega) (by first | assumption | decide | omega)) ?_; conv => whnf) | (refine And.intro (And.intro (And.intro (by first | assumption | decide | omega) (by first | assumption | decide | omega)) (And.intro (by first | assumption | decide | omega) (by first | assumption | decide | omega))) ?_; conv => whnf) | (refine And.intro (And.intro (by first | assumption | rfl | exact fzL_ints _ | exact fzL_strs _ | exact fz_ints _ | exact fz_strs _) (And.intro (by first | assumption | rfl | exact fzL_ints _ | exact fzL_strs _ | exact fz_ints _ | exact fz_strs _) (by first | assumption | rfl | exact fzL_ints _ | exact fzL_strs _ | exact fz_ints _ | exact fz_strs _))) ?_; conv => whnf) | (refine And.intro (by first | exact Or.inl (by decide) | exact Or.inr (by decide)) ?_; conv => whnf) | (refine Or.inl (And.intro (by first | assumption | rfl | exact fzL_ints _ | exact fzL_strs _ | exact fz_ints _ | exact fz_strs _) ?_); conv => whnf) | (refine ⟨fun _ => ?_, fun z => Bool.noConfusion z⟩; conv => whnf) | (refine ⟨fun z => Bool.noConfusion z, fun _ => ?_⟩; conv => whnf) | (intro p0 z; rw [frz_lstp (by first | assumption | rfl | exact fzL_ints _ | exact fzL_strs _ | exact fz_ints _ | exact fz_strs _)] at z; subst z; conv => whnf) | (intro p0 z; rw [PV.fz_frz _ (by first | assumption | rfl | exact fzL_ints _ | exact fzL_strs _ | exact fz_ints _ | exact fz_strs _)] at z; subst z; conv => whnf))
    refine ⟨fun hk => by simp at hk, fun _ => ?_⟩
    (conv => whnf); repeat (first | (refine ⟨_, rfl, (by first | assumption | rfl | exact fzL_ints _ | exact fzL_strs _ | exact fz_ints _ | exact fz_strs _), ?_⟩; conv => whnf) | (refine ⟨_, rfl, ?_⟩; conv => whnf) | (refine And.intro rfl ?_; conv => whnf) | (refine And.intro (by first | assumption | decide | omega) ?_; conv => whnf) | (refine And.intro (by first | assumption | rfl | exact fzL_ints _ | exact fzL_strs _ | exact fz_ints _ | exact fz_strs _) ?_; conv => whnf) | (refine And.intro (And.intro (by first | assumption | decide | omega) (by first | assumption | decide | omega)) ?_; conv => whnf) | (refine And.intro (And.intro (And.intro (by first | assumption | decide | omega) (by first | assumption | decide | omega)) (And.intro (by first | assumption | decide | omega) (by first | assumption | decide | omega))) ?_; conv => whnf) | (refine And.intro (And.intro (by first | assumption | rfl | exact fzL_ints _ | exact fzL_strs _ | exact fz_ints _ | exact fz_strs _) (And.intro (by first | assumption | rfl | exact fzL_ints _ | exact fzL_strs _ | exact fz_ints _ | exact fz_strs _) (by first | assumption | rfl | exact fzL_ints _ | exact fzL_strs _ | exact fz_ints _ | exact fz_strs _))) ?_; conv => whnf) | (refine And.intro (by first | exact Or.inl (by decide) | exact Or.inr (by decide)) ?_; conv => whnf) | (refine Or.inl (And.intro (by first | assumption | rfl | exact fzL_ints _ | exact fzL_strs _ | exact fz_ints _ | exact fz_strs _) ?_); conv => whnf) | (refine ⟨fun _ => ?_, fun z => Bool.noConfusion z⟩; conv => whnf) | (refine ⟨fun z => Bool.noConfusion z, fun _ => ?_⟩; conv => whnf) | (intro p0 z; rw [frz_lstp (by first | assumption | rfl | exact fzL_ints _ | exact fzL_strs _ | exact fz_ints _ | exact fz_strs _)] at z; subst z; conv => whnf) | (intro p0 z; rw [PV.fz_frz _ (by first | assumption | rfl | exact fzL_ints _ | exact fzL_strs _ | exact fz_ints _ | exact fz_strs _)] at z; subst z; conv => whnf))
    refine ⟨_, n_eqF, ?_⟩
    (conv => whnf); repeat (first | (refine ⟨_, rfl, (by first | assumption | rfl | exact fzL_ints _ | exact fzL_strs _ | exact fz_ints _ | exact fz_strs _), ?_⟩; conv => whnf) | (refine ⟨_, rfl, ?_⟩; conv => whnf) | (refine And.intro rfl ?_; conv => whnf) | (refine And.intro (by first | assumption | decide | omega) ?_; conv => whnf) | (refine And.intro (by first | assumption | rfl | exact fzL_ints _ | exact fzL_strs _ | exact fz_ints _ | exact fz_strs _) ?_; conv => whnf) | (refine And.intro (And.intro (by first | assumption | decide | omega) (by first | assumption | decide | omega)) ?_; conv => whnf) | (refine And.intro (And.intro (And.intro (by first | assumption | decide | omega) (by first | assumption | decide | omega)) (And.intro (by first | assumption | decide | omega) (by first | assumption | decide | omega))) ?_; conv => whnf) | (refine And.intro (And.intro (by first | assumption | rfl | exact fzL_ints _ | exact fzL_strs _ | exact fz_ints _ | exact fz_strs _) (And.intro (by first | assumption | rfl | exact fzL_ints _ | exact fzL_strs _ | exact fz_ints _ | exact fz_strs _) (by first | assumption | rfl | exact fzL_ints _ | exact fzL_strs _ | exact fz_ints _ | exact fz_strs _))) ?_; conv => whnf) | (refine And.intro (by first | exact Or.inl (by decide) | exact Or.inr (by decide)) ?_; conv => whnf) | (refine Or.inl (And.intro (by first | assumption | rfl | exact fzL_ints _ | exact fzL_strs _ | exact fz_ints _ | exact fz_strs _) ?_); conv => whnf) | (refine ⟨fun _ => ?_, fun z => Bool.noConfusion z⟩; conv => whnf) | (refine ⟨fun z => Bool.noConfusion z, fun _ => ?_⟩; conv => whnf) | (intro p0 z; rw [frz_lstp (by first | assumption | rfl | exact fzL_ints _ | exact fzL_strs _ | exact fz_ints _ | exact fz_strs _)] at z; subst z; conv => whnf) | (intro p0 z; rw [PV.fz_frz _ (by first | assumption | rfl | exact fzL_ints _ | exact fzL_strs _ | exact fz_ints _ | exact fz_strs _)] at z; subst z; conv => whnf))
    refine ⟨fun _ => ?_, fun hk => by simp at hk⟩
    (conv => whnf); repeat (first | (refine ⟨_, rfl, (by first | assumption | rfl | exact fzL_ints _ | exact fzL_strs _ | exact fz_ints _ | exact fz_strs _), ?_⟩; conv => whnf) | (refine ⟨_, rfl, ?_⟩; conv => whnf) | (refine And.intro rfl ?_; conv => whnf) | (refine And.intro (by first | assumption | decide | omega) ?_; conv => whnf) | (refine And.intro (by first | assumption | rfl | exact fzL_ints _ | exact fzL_strs _ | exact fz_ints _ | exact fz_strs _) ?_; conv => whnf) | (refine And.intro (And.intro (by first | assumption | decide | omega) (by first | assumption | decide | omega)) ?_; conv => whnf) | (refine And.intro (And.intro (And.intro (by first | assumption | decide | omega) (by first | assumption | decide | omega)) (And.intro (by first | assumption | decide | omega) (by first | assumption | decide | omega))) ?_; conv => whnf) | (refine And.intro (And.intro (by first | assumption | rfl | exact fzL_ints _ | exact fzL_strs _ | exact fz_ints _ | exact fz_strs _) (And.intro (by first | assumption | rfl | exact fzL_ints _ | exact fzL_strs _ | exact fz_ints _ | exact fz_strs _) (by first | assumption | rfl | exact fzL_ints _ | exact fzL_strs _ | exact fz_ints _ | exact fz_strs _))) ?_; conv => whnf) | (refine And.intro (by first | exact Or.inl (by decide) | exact Or.inr (by decide)) ?_; conv => whnf) | (refine Or.inl (And.intro (by first | assumption | rfl | exact fzL_ints _ | exact fzL_strs _ | exact fz_ints _ | exact fz_strs _) ?_); conv => whnf) | (refine ⟨fun _ => ?_, fun z => Bool.noConfusion z⟩; conv => whnf) | (refine ⟨fun z => Bool.noConfusion z, fun _ => ?_⟩; conv => whnf) | (intro p0 z; rw [frz_lstp (by first | assumption | rfl | exact fzL_ints _ | exact fzL_strs _ | exact fz_ints _ | exact fz_strs _)] at z; subst z; conv => whnf) | (intro p0 z; rw [PV.fz_frz _ (by first | assumption | rfl | exact fzL_ints _ | exact fzL_strs _ | exact fz_ints _ | exact fz_strs _)] at z; subst z; conv => whnf))
    refine least_ok (ms := []) ?_
    (conv => whnf); repeat (first | (refine ⟨_, rfl, (by first | assumption | rfl | exact fzL_ints _ | exact fzL_strs _ | exact fz_ints _ | exact fz_strs _), ?_⟩; conv => whnf) | (refine ⟨_, rfl, ?_⟩; conv => whnf) | (refine And.intro rfl ?_; conv => whnf) | (refine And.intro (by first | assumption | decide | omega) ?_; conv => whnf) | (refine And.intro (by first | assumption | rfl | exact fzL_ints _ | exact fzL_strs _ | exact fz_ints _ | exact fz_strs _) ?_; conv => whnf) | (refine And.intro (And.intro (by first | assumption | decide | omega) (by first | assumption | decide | omega)) ?_; conv => whnf) | (refine And.intro (And.intro (And.intro (by first | assumption | decide | omega) (by first | assumption | decide | omega)) (And.intro (by first | assumption | decide | omega) (by first | assumption | decide | omega))) ?_; conv => whnf) | (refine And.intro (And.intro (by first | assumption | rfl | exact fzL_ints _ | exact fzL_strs _ | exact fz_ints _ | exact fz_strs _) (And.intro (by first | assumption | rfl | exact fzL_ints _ | exact fzL_strs _ | exact fz_ints _ | exact fz_strs _) (by first | assumption | rfl | exact fzL_ints _ | exact fzL_strs _ | exact fz_ints _ | exact fz_strs _))) ?_; conv => whnf) | (refine And.intro (by first | exact Or.inl (by decide) | exact Or.inr (by decide)) ?_; conv => whnf) | (refine Or.inl (And.intro (by first | assumption | rfl | exact fzL_ints _ | exact fzL_strs _ | exact fz_ints _ | exact fz_strs _) ?_); conv => whnf) | (refine ⟨fun _ => ?_, fun z => Bool.noConfusion z⟩; conv => whnf) | (refine ⟨fun z => Bool.noConfusion z, fun _ => ?_⟩; conv => whnf) | (intro p0 z; rw [frz_lstp (by first | assumption | rfl | exact fzL_ints _ | exact fzL_strs _ | exact fz_ints _ | exact fz_strs _)] at z; subst z; conv => whnf) | (intro p0 z; rw [PV.fz_frz _ (by first | assumption | rfl | exact fzL_ints _ | exact fzL_strs _ | exact fz_ints _ | exact fz_strs _)] at z; subst z; conv => whnf))
    refine least_ok (ms := [none, none]) ?_
    (conv => whnf); repeat (first | (refine ⟨_, rfl, (by first | assumption | rfl | exact fzL_ints _ | exact fzL_strs _ | exact fz_ints _ | exact fz_strs _), ?_⟩; conv => whnf) | (refine ⟨_, rfl, ?_⟩; conv => whnf) | (refine And.intro rfl ?_; conv => whnf) | (refine And.intro (by first | assumption | decide | omega) ?_; conv => whnf) | (refine And.intro (by first | assumption | rfl | exact fzL_ints _ | exact fzL_strs _ | exact fz_ints _ | exact fz_strs _) ?_; conv => whnf) | (refine And.intro (And.intro (by first | assumption | decide | omega) (by first | assumption | decide | omega)) ?_; conv => whnf) | (refine And.intro (And.intro (And.intro (by first | assumption | decide | omega) (by first | assumption | decide | omega)) (And.intro (by first | assumption | decide | omega) (by first | assumption | decide | omega))) ?_; conv => whnf) | (refine And.intro (And.intro (by first | assumption | rfl | exact fzL_ints _ | exact fzL_strs _ | exact fz_ints _ | exact fz_strs _) (And.intro (by first | assumption | rfl | exact fzL_ints _ | exact fzL_strs _ | exact fz_ints _ | exact fz_strs _) (by first | assumption | rfl | exact fzL_ints _ | exact fzL_strs _ | exact fz_ints _ | exact fz_strs _))) ?_; conv => whnf) | (refine And.intro (by first | exact Or.inl (by decide) | exact Or.inr (by decide)) ?_; conv => whnf) | (refine Or.inl (And.intro (by first | assumption | rfl | exact fzL_ints _ | exact fzL_strs _ | exact fz_ints _ | exact fz_strs _) ?_); conv => whnf) | (refine ⟨fun _ => ?_, fun z => Bool.noConfusion z⟩; conv => whnf) | (refine ⟨fun z => Bool.noConfusion z, fun _ => ?_⟩; conv => whnf) | (intro p0 z; rw [frz_lstp (by first | assumption | rfl | exact fzL_ints _ | exact fzL_strs _ | exact fz_ints _ | exact fz_strs _)] at z; subst z; conv => whnf) | (intro p0 z; rw [PV.fz_frz _ (by first | assumption | rfl | exact fzL_ints _ | exact fzL_strs _ | exact fz_ints _ | exact fz_strs _)] at z; subst z; conv => whnf))
  | some a =>
    (conv => whnf); repeat (first | (refine ⟨_, rfl, (by first | assumption | rfl | exact fzL_ints _ | exact fzL_strs _ | exact fz_ints _ | exact fz_strs _), ?_⟩; conv => whnf) | (refine ⟨_, rfl, ?_⟩; conv => whnf) | (refine And.intro rfl ?_; conv => whnf) | (refine And.intro (by first | assumption | decide | omega) ?_; conv => whnf) | (refine And.intro (by first | assumption | rfl | exact fzL_ints _ | exact fzL_strs _ | exact fz_ints _ | exact fz_strs _) ?_; conv => whnf) | (refine And.intro (And.intro (by first | assumption | decide | omega) (by first | assumption | decide | omega)) ?_; conv => whnf) | (refine And.intro (And.intro (And.intro (by first | assumption | decide | omega) (by first | assumption | decide | omega)) (And.intro (by first | assumption | decide | omega) (by first | assumption | decide | omega))) ?_; conv => whnf) | (refine And.intro (And.intro (by first | assumption | rfl | exact fzL_ints _ | exact fzL_strs _ | exact fz_ints _ | exact fz_strs _) (And.intro (by first | assumption | rfl | exact fzL_ints _ | exact fzL_strs _ | exact fz_ints _ | exact fz_strs _) (by first | assumption | rfl | exact fzL_ints _ | exact fzL_strs _ | exact fz_ints _ | exact fz_strs _))) ?_; conv => whnf) | (refine And.intro (by first | exact Or.inl (by decide) | exact Or.inr (by decide)) ?_; conv => whnf) | (refine Or.inl (And.intro (by first | assumption | rfl | exact fzL_ints _ | exact fzL_strs _ | exact fz_ints _ | exact fz_strs _) ?_); conv => whnf) | (refine ⟨fun _ => ?_, fun z => Bool.noConfusion z⟩; conv => whnf) | (refine ⟨fun z => Bool.noConfusion z, fun _ => ?_⟩; conv => whnf) | (intro p0 z; rw [frz_lstp (by first | assumption | rfl | exact fzL_ints _ | exact fzL_strs _ | exact fz_ints _ | exact fz_strs _)] at z; subst z; conv => whnf) | (intro p0 z; rw [PV.fz_frz _ (by first | assumption | rfl | exact fzL_ints _ | exact fzL_strs _ | exact fz_ints _ | exact fz_strs _)] at z; subst z; conv => whnf))
    refine ⟨_, n_neS, ?_⟩
    (conv => whnf); repeat (first | (refine ⟨_, rfl, (by first | assumption | rfl | exact fzL_ints _ | exact fzL_strs _ | exact fz_ints _ | exact fz_strs _), ?_⟩; conv => whnf) | (refine ⟨_, rfl, ?_⟩; conv => whnf) | (refine And.intro rfl ?_; conv => whnf) | (refine And.intro (by first | assumption | decide | omega) ?_; conv => whnf) | (refine And.intro (by first | assumption | rfl | exact fzL_ints _ | exact fzL_strs _ | exact fz_ints _ | exact fz_strs _) ?_; conv => whnf) | (refine And.intro (And.intro (by first | assumption | decide | omega) (by first | assumption | decide | omega)) ?_; conv => whnf) | (refine And.intro (And.intro (And.intro (by first | assumption | decide | omega) (by first | assumption | decide | omega)) (And.intro (by first | assumption | decide | omega) (by first | assumption | decide | omega))) ?_; conv => whnf) | (refine And.intro (And.intro (by first | assumption | rfl | exact fzL_ints _ | exact fzL_strs _ | exact fz_ints _ | exact fz_strs _) (And.intro (by first | assumption | rfl | exact fzL_ints _ | exact fzL_strs _ | exact fz_ints _ | exact fz_strs _) (by first | assumption | rfl | exact fzL_ints _ | exact fzL_strs _ | exact fz_ints _ | exact fz_strs _))) ?_; conv => whnf) | (refine And.intro (by first | exact Or.inl (by decide) | exact Or.inr (by decide)) ?_; conv => whnf) | (refine Or.inl (And.intro (by first | assumption | rfl | exact fzL_ints _ | exact fzL_strs _ | exact fz_ints _ | exact fz_strs _) ?_); conv => whnf) | (refine ⟨fun _ => ?_, fun z => Bool.noConfusion z⟩; conv => whnf) | (refine ⟨fun z => Bool.noConfusion z, fun _ => ?_⟩; conv => whnf) | (intro p0 z; rw [frz_lstp (by first | assumption | rfl | exact fzL_ints _ | exact fzL_strs _ | exact fz_ints _ | exact fz_strs _)] at z; subst z; conv => whnf) | (intro p0 z; rw [PV.fz_frz _ (by first | assumption | rfl | exact fzL_ints _ | exact fzL_strs _ | exact fz_ints _ | exact fz_strs _)] at z; subst z; conv => whnf))
    refine ⟨fun hk => by simp at hk, fun _ => ?_⟩
    (conv => whnf); repeat (first | (refine ⟨_, rfl, (by first | assumption | rfl | exact fzL_ints _ | exact fzL_strs _ | exact fz_ints _ | exact fz_strs _), ?_⟩; conv => whnf) | (refine ⟨_, rfl, ?_⟩; conv => whnf) | (refine And.intro rfl ?_; conv => whnf) | (refine And.intro (by first | assumption | decide | omega) ?_; conv => whnf) | (refine And.intro (by first | assumption | rfl | exact fzL_ints _ | exact fzL_strs _ | exact fz_ints _ | exact fz_strs _) ?_; conv => whnf) | (refine And.intro (And.intro (by first | assumption | decide | omega) (by first | assumption | decide | omega)) ?_; conv => whnf) | (refine And.intro (And.intro (And.intro (by first | assumption | decide | omega) (by first | assumption | decide | omega)) (And.intro (by first | assumption | decide | omega) (by first | assumption | decide | omega))) ?_; conv => whnf) | (refine And.intro (And.intro (by first | assumption | rfl | exact fzL_ints _ | exact fzL_strs _ | exact fz_ints _ | exact fz_strs _) (And.intro (by first | assumption | rfl | exact fzL_ints _ | exact fzL_strs _ | exact fz_ints _ | exact fz_strs _) (by first | assumption | rfl | exact fzL_ints _ | exact fzL_strs _ | exact fz_ints _ | exact fz_strs _))) ?_; conv => whnf) | (refine And.intro (by first | exact Or.inl (by decide) | exact Or.inr (by decide)) ?_; conv => whnf) | (refine Or.inl (And.intro (by first | assumption | rfl | exact fzL_ints _ | exact fzL_strs _ | exact fz_ints _ | exact fz_strs _) ?_); conv => whnf) | (refine ⟨fun _ => ?_, fun z => Bool.noConfusion z⟩; conv => whnf) | (refine ⟨fun z => Bool.noConfusion z, fun _ => ?_⟩; conv => whnf) | (intro p0 z; rw [frz_lstp (by first | assumption | rfl | exact fzL_ints _ | exact fzL_strs _ | exact fz_ints _ | exact fz_strs _)] at z; subst z; conv => whnf) | (intro p0 z; rw [PV.fz_frz _ (by first | assumption | rfl | exact fzL_ints _ | exact fzL_strs _ | exact fz_ints _ | exact fz_strs _)] at z; subst z; conv => whnf))
    refine ⟨_, kd_ne kO (by decide), ?_⟩
    (conv => whnf); repeat (first | (refine ⟨_, rfl, (by first | assumption | rfl | exact fzL_ints _ | exact fzL_strs _ | exact fz_ints _ | exact fz_strs _), ?_⟩; conv => whnf) | (refine ⟨_, rfl, ?_⟩; conv => whnf) | (refine And.intro rfl ?_; conv => whnf) | (refine And.intro (by first | assumption | decide | omega) ?_; conv => whnf) | (refine And.intro (by first | assumption | rfl | exact fzL_ints _ | exact fzL_strs _ | exact fz_ints _ | exact fz_strs _) ?_; conv => whnf) | (refine And.intro (And.intro (by first | assumption | decide | omega) (by first | assumption | decide | omega)) ?_; conv => whnf) | (refine And.intro (And.intro (And.intro (by first | assumption | decide | omega) (by first | assumption | decide | omega)) (And.intro (by first | assumption | decide | omega) (by first | assumption | decide | omega))) ?_; conv => whnf) | (refine And.intro (And.intro (by first | assumption | rfl | exact fzL_ints _ | exact fzL_strs _ | exact fz_ints _ | exact fz_strs _) (And.intro (by first | assumption | rfl | exact fzL_ints _ | exact fzL_strs _ | exact fz_ints _ | exact fz_strs _) (by first | assumption | rfl | exact fzL_ints _ | exact fzL_strs _ | exact fz_ints _ | exact fz_strs _))) ?_; conv => whnf) | (refine And.intro (by first | exact Or.inl (by decide) | exact Or.inr (by decide)) ?_; conv => whnf) | (refine Or.inl (And.intro (by first | assumption | rfl | exact fzL_ints _ | exact fzL_strs _ | exact fz_ints _ | exact fz_strs _) ?_); conv => whnf) | (refine ⟨fun _ => ?_, fun z => Bool.noConfusion z⟩; conv => whnf) | (refine ⟨fun z => Bool.noConfusion z, fun _ => ?_⟩; conv => whnf) | (intro p0 z; rw [frz_lstp (by first | assumption | rfl | exact fzL_ints _ | exact fzL_strs _ | exact fz_ints _ | exact fz_strs _)] at z; subst z; conv => whnf) | (intro p0 z; rw [PV.fz_frz _ (by first | assumption | rfl | exact fzL_ints _ | exact fzL_strs _ | exact fz_ints _ | exact fz_strs _)] at z; subst z; conv => whnf))
    refine ⟨fun hk => by simp at hk, fun _ => ?_⟩
    (conv => whnf); repeat (first | (refine ⟨_, rfl, (by first | assumption | rfl | exact fzL_ints _ | exact fzL_strs _ | exact fz_ints _ | exact fz_strs _), ?_⟩; conv => whnf) | (refine ⟨_, rfl, ?_⟩; conv => whnf) | (refine And.intro rfl ?_; conv => whnf) | (refine And.intro (by first | assumption | decide | omega) ?_; conv => whnf) | (refine And.intro (by first | assumption | rfl | exact fzL_ints _ | exact fzL_strs _ | exact fz_ints _ | exact fz_strs _) ?_; conv => whnf) | (refine And.intro (And.intro (by first | assumption | decide | omega) (by first | assumption | decide | omega)) ?_; conv => whnf) | (refine And.intro (And.intro (And.intro (by first | assumption | decide | omega) (by first | assumption | decide | omega)) (And.intro (by first | assumption | decide | omega) (by first | assumption | decide | omega))) ?_; conv => whnf) | (refine And.intro (And.intro (by first | assumption | rfl | exact fzL_ints _ | exact fzL_strs _ | exact fz_ints _ | exact fz_strs _) (And.intro (by first | assumption | rfl | exact fzL_ints _ | exact fzL_strs _ | exact fz_ints _ | exact fz_strs _) (by first | assumption | rfl | exact fzL_ints _ | exact fzL_strs _ | exact fz_ints _ | exact fz_strs _))) ?_; conv => whnf) | (refine And.intro (by first | exact Or.inl (by decide) | exact Or.inr (by decide)) ?_; conv => whnf) | (refine Or.inl (And.intro (by first | assumption | rfl | exact fzL_ints _ | exact fzL_strs _ | exact fz_ints _ | exact fz_strs _) ?_); conv => whnf) | (refine ⟨fun _ => ?_, fun z => Bool.noConfusion z⟩; conv => whnf) | (refine ⟨fun z => Bool.noConfusion z, fun _ => ?_⟩; conv => whnf) | (intro p0 z; rw [frz_lstp (by first | assumption | rfl | exact fzL_ints _ | exact fzL_strs _ | exact fz_ints _ | exact fz_strs _)] at z; subst z; conv => whnf) | (intro p0 z; rw [PV.fz_frz _ (by first | assumption | rfl | exact fzL_ints _ | exact fzL_strs _ | exact fz_ints _ | exact fz_strs _)] at z; subst z; conv => whnf))
    have := s2 a rfl
    refine ⟨small_lt (show _ ≤ 10 by simp; omega), ?_⟩
    (conv => whnf); repeat (first | (refine ⟨_, rfl, (by first | assumption | rfl | exact fzL_ints _ | exact fzL_strs _ | exact fz_ints _ | exact fz_strs _), ?_⟩; conv => whnf) | (refine ⟨_, rfl, ?_⟩; conv => whnf) | (refine And.intro rfl ?_; conv => whnf) | (refine And.intro (by first | assumption | decide | omega) ?_; conv => whnf) | (refine And.intro (by first | assumption | rfl | exact fzL_ints _ | exact fzL_strs _ | exact fz_ints _ | exact fz_strs _) ?_; conv => whnf) | (refine And.intro (And.intro (by first | assumption | decide | omega) (by first | assumption | decide | omega)) ?_; conv => whnf) | (refine And.intro (And.intro (And.intro (by first | assumption | decide | omega) (by first | assumption | decide | omega)) (And.intro (by first | assumption | decide | omega) (by first | assumption | decide | omega))) ?_; conv => whnf) | (refine And.intro (And.intro (by first | assumption | rfl | exact fzL_ints _ | exact fzL_strs _ | exact fz_ints _ | exact fz_strs _) (And.intro (by first | assumption | rfl | exact fzL_ints _ | exact fzL_strs _ | exact fz_ints _ | exact fz_strs _) (by first | assumption | rfl | exact fzL_ints _ | exact fzL_strs _ | exact fz_ints _ | exact fz_strs _))) ?_; conv => whnf) | (refine And.intro (by first | exact Or.inl (by decide) | exact Or.inr (by decide)) ?_; conv => whnf) | (refine Or.inl (And.intro (by first | assumption | rfl | exact fzL_ints _ | exact fzL_strs _ | exact fz_ints _ | exact fz_strs _) ?_); conv => whnf) | (refine ⟨fun _ => ?_, fun z => Bool.noConfusion z⟩; conv => whnf) | (refine ⟨fun z => Bool.noConfusion z, fun _ => ?_⟩; conv => whnf) | (intro p0 z; rw [frz_lstp (by first | assumption | rfl | exact fzL_ints _ | exact fzL_strs _ | exact fz_ints _ | exact fz_strs _)] at z; subst z; conv => whnf) | (intro p0 z; rw [PV.fz_frz _ (by first | assumption | rfl | exact fzL_ints _ | exact fzL_strs _ | exact fz_ints _ | exact fz_strs _)] at z; subst z; conv => whnf))
    refine ⟨_, n_eqF, ?_⟩
    (conv => whnf); repeat (first | (refine ⟨_, rfl, (by first | assumption | rfl | exact fzL_ints _ | exact fzL_strs _ | exact fz_ints _ | exact fz_strs _), ?_⟩; conv => whnf) | (refine ⟨_, rfl, ?_⟩; conv => whnf) | (refine And.intro rfl ?_; conv => whnf) | (refine And.intro (by first | assumption | decide | omega) ?_; conv => whnf) | (refine And.intro (by first | assumption | rfl | exact fzL_ints _ | exact fzL_strs _ | exact fz_ints _ | exact fz_strs _) ?_; conv => whnf) | (refine And.intro (And.intro (by first | assumption | decide | omega) (by first | assumption | decide | omega)) ?_; conv => whnf) | (refine And.intro (And.intro (And.intro (by first | assumption | decide | omega) (by first | assumption | decide | omega)) (And.intro (by first | assumption | decide | omega) (by first | assumption | decide | omega))) ?_; conv => whnf) | (refine And.intro (And.intro (by first | assumption | rfl | exact fzL_ints _ | exact fzL_strs _ | exact fz_ints _ | exact fz_strs _) (And.intro (by first | assumption | rfl | exact fzL_ints _ | exact fzL_strs _ | exact fz_ints _ | exact fz_strs _) (by first | assumption | rfl | exact fzL_ints _ | exact fzL_strs _ | exact fz_ints _ | exact fz_strs _))) ?_; conv => whnf) | (refine And.intro (by first | exact Or.inl (by decide) | exact Or.inr (by decide)) ?_; conv => whnf) | (refine Or.inl (And.intro (by first | assumption | rfl | exact fzL_ints _ | exact fzL_strs _ | exact fz_ints _ | exact fz_strs _) ?_); conv => whnf) | (refine ⟨fun _ => ?_, fun z => Bool.noConfusion z⟩; conv => whnf) | (refine ⟨fun z => Bool.noConfusion z, fun _ => ?_⟩; conv => whnf) | (intro p0 z; rw [frz_lstp (by first | assumption | rfl | exact fzL_ints _ | exact fzL_strs _ | exact fz_ints _ | exact fz_strs _)] at z; subst z; conv => whnf) | (intro p0 z; rw [PV.fz_frz _ (by first | assumption | rfl | exact fzL_ints _ | exact fzL_strs _ | exact fz_ints _ | exact fz_strs _)] at z; subst z; conv => whnf))
    refine ⟨fun _ => ?_, fun hk => by simp at hk⟩
    (conv => whnf); repeat (first | (refine ⟨_, rfl, (by first | assumption | rfl | exact fzL_ints _ | exact fzL_strs _ | exact fz_ints _ | exact fz_strs _), ?_⟩; conv => whnf) | (refine ⟨_, rfl, ?_⟩; conv => whnf) | (refine And.intro rfl ?_; conv => whnf) | (refine And.intro (by first | assumption | decide | omega) ?_; conv => whnf) | (refine And.intro (by first | assumption | rfl | exact fzL_ints _ | exact fzL_strs _ | exact fz_ints _ | exact fz_strs _) ?_; conv => whnf) | (refine And.intro (And.intro (by first | assumption | decide | omega) (by first | assumption | decide | omega)) ?_; conv => whnf) | (refine And.intro (And.intro (And.intro (by first | assumption | decide | omega) (by first | assumption | decide | omega)) (And.intro (by first | assumption | decide | omega) (by first | assumption | decide | omega))) ?_; conv => whnf) | (refine And.intro (And.intro (by first | assumption | rfl | exact fzL_ints _ | exact fzL_strs _ | exact fz_ints _ | exact fz_strs _) (And.intro (by first | assumption | rfl | exact fzL_ints _ | exact fzL_strs _ | exact fz_ints _ | exact fz_strs _) (by first | assumption | rfl | exact fzL_ints _ | exact fzL_strs _ | exact fz_ints _ | exact fz_strs _))) ?_; conv => whnf) | (refine And.intro (by first | exact Or.inl (by decide) | exact Or.inr (by decide)) ?_; conv => whnf) | (refine Or.inl (And.intro (by first | assumption | rfl | exact fzL_ints _ | exact fzL_strs _ | exact fz_ints _ | exact fz_strs _) ?_); conv => whnf) | (refine ⟨fun _ => ?_, fun z => Bool.noConfusion z⟩; conv => whnf) | (refine ⟨fun z => Bool.noConfusion z, fun _ => ?_⟩; conv => whnf) | (intro p0 z; rw [frz_lstp (by first | assumption | rfl | exact fzL_ints _ | exact fzL_strs _ | exact fz_ints _ | exact fz_strs _)] at z; subst z; conv => whnf) | (intro p0 z; rw [PV.fz_frz _ (by first | assumption | rfl | exact fzL_ints _ | exact fzL_strs _ | exact fz_ints _ | exact fz_strs _)] at z; subst z; conv => whnf))
    refine least_ok (ms := []) ?_
    (conv => whnf); repeat (first | (refine ⟨_, rfl, (by first | assumption | rfl | exact fzL_ints _ | exact fzL_strs _ | exact fz_ints _ | exact fz_strs _), ?_⟩; conv => whnf) | (refine ⟨_, rfl, ?_⟩; conv => whnf) | (refine And.intro rfl ?_; conv => whnf) | (refine And.intro (by first | assumption | decide | omega) ?_; conv => whnf) | (refine And.intro (by first | assumption | rfl | exact fzL_ints _ | exact fzL_strs _ | exact fz_ints _ | exact fz_strs _) ?_; conv => whnf) | (refine And.intro (And.intro (by first | assumption | decide | omega) (by first | assumption | decide | omega)) ?_; conv => whnf) | (refine And.intro (And.intro (And.intro (by first | assumption | decide | omega) (by first | assumption | decide | omega)) (And.intro (by first | assumption | decide | omega) (by first | assumption | decide | omega))) ?_; conv => whnf) | (refine And.intro (And.intro (by first | assumption | rfl | exact fzL_ints _ | exact fzL_strs _ | exact fz_ints _ | exact fz_strs _) (And.intro (by first | assumption | rfl | exact fzL_ints _ | exact fzL_strs _ | exact fz_ints _ | exact fz_strs _) (by first | assumption | rfl | exact fzL_ints _ | exact fzL_strs _ | exact fz_ints _ | exact fz_strs _))) ?_; conv => whnf) | (refine And.intro (by first | exact Or.inl (by decide) | exact Or.inr (by decide)) ?_; conv => whnf) | (refine Or.inl (And.intro (by first | assumption | rfl | exact fzL_ints _ | exact fzL_strs _ | exact fz_ints _ | exact fz_strs _) ?_); conv => whnf) | (refine ⟨fun _ => ?_, fun z => Bool.noConfusion z⟩; conv => whnf) | (refine ⟨fun z => Bool.noConfusion z, fun _ => ?_⟩; conv => whnf) | (intro p0 z; rw [frz_lstp (by first | assumption | rfl | exact fzL_ints _ | exact fzL_strs _ | exact fz_ints _ | exact fz_strs _)] at z; subst z; conv => whnf) | (intro p0 z; rw [PV.fz_frz _ (by first | assumption | rfl | exact fzL_ints _ | exact fzL_strs _ | exact fz_ints _ | exact fz_strs _)] at z; subst z; conv => whnf))
    refine least_ok (ms := [none, none]) ?_
    (conv => whnf); repeat (first | (refine ⟨_, rfl, (by first | assumption | rfl | exact fzL_ints _ | exact fzL_strs _ | exact fz_ints _ | exact fz_strs _), ?_⟩; conv => whnf) | (refine ⟨_, rfl, ?_⟩; conv => whnf) | (refine And.intro rfl ?_; conv => whnf) | (refine And.intro (by first | assumption | decide | omega) ?_; conv => whnf) | (refine And.intro (by first | assumption | rfl | exact fzL_ints _ | exact fzL_strs _ | exact fz_ints _ | exact fz_strs _) ?_; conv => whnf) | (refine And.intro (And.intro (by first | assumption | decide | omega) (by first | assumption | decide | omega)) ?_; conv => whnf) | (refine And.intro (And.intro (And.intro (by first | assumption | decide | omega) (by first | assumption | decide | omega)) (And.intro (by first | assumption | decide | omega) (by first | assumption | decide | omega))) ?_; conv => whnf) | (refine And.intro (And.intro (by first | assumption | rfl | exact fzL_ints _ | exact fzL_strs _ | exact fz_ints _ | exact fz_strs _) (And.intro (by first | assumption | rfl | exact fzL_ints _ | exact fzL_strs _ | exact fz_ints _ | exact fz_strs _) (by first | assumption | rfl | exact fzL_ints _ | exact fzL_strs _ | exact fz_ints _ | exact fz_strs _))) ?_; conv => whnf) | (refine And.intro (by first | exact Or.inl (by decide) | exact Or.inr (by decide)) ?_; conv => whnf) | (refine Or.inl (And.intro (by first | assumption | rfl | exact fzL_ints _ | exact fzL_strs _ | exact fz_ints _ | exact fz_strs _) ?_); conv => whnf) | (refine ⟨fun _ => ?_, fun z => Bool.noConfusion z⟩; conv => whnf) | (refine ⟨fun z => Bool.noConfusion z, fun _ => ?_⟩; conv => whnf) | (intro p0 z; rw [frz_lstp (by first | assumption | rfl | exact fzL_ints _ | exact fzL_strs _ | exact fz_ints _ | exact fz_strs _)] at z; subst z; conv => whnf) | (intro p0 z; rw [PV.fz_frz _ (by first | assumption | rfl | exact fzL_ints _ | exact fzL_strs _ | exact fz_ints _ | exact fz_strs _)] at z; subst z; conv => whnf))
theorem pure : ∀ ns : List Int, ns.length ≤ 63 → ∃ as, callN lw.T 100 10 "law" [.lck (ns.map .int)] = .ok (.bl true) as := fun ns hl => zC_true (law_ok (n := 6) hl)
end K02
end
set_option Elab.async false
set_option linter.all false
set_option maxRecDepth 100001
namespace K02
open PySem Y L2
theorem ents_of {K : PySem.W.Frag} {mg : Str → Option Value}
    (F0 : EntF K mg "comes_before" (top 1) ["file", "other"])
    (F1 : EntF K mg "least_of" (top 2) ["files"])
    (F2 : EntF K mg "_law_draw" (top 4) ["_law_pot_here", "_law_many"])
    (F3 : EntF K mg "_law_pot" (top 5) ["_law_script"])
    (F4 : EntF K mg "_law_text" (top 6) ["_law_pot_here", "_law_most"])
    (F5 : EntF K mg "_law_pool" (top 7) ["_law_pot_here", "_law_count", "_law_most"])
    (F6 : EntF K mg "_law_file" (top 8) ["_law_pot_here", "_law_lines", "_law_most"])
    (F7 : EntF K mg "_law_is" (top 9) ["_law_told", "_law_due"])
    (F8 : EntF K mg "_law_less" (top 10) ["_law_file_here", "_law_other"])
    (F9 : EntF K mg "law" (top 11) ["_law_script"])
    : ∀ e ∈ lw.es, EntF K mg e.key e.st e.ps := fun e he => by
  simp only [lw, List.mem_cons, List.not_mem_nil, or_false] at he
  rcases he with rfl | rfl | rfl | rfl | rfl | rfl | rfl | rfl | rfl | rfl
  · exact F0
  · exact F1
  · exact F2
  · exact F3
  · exact F4
  · exact F5
  · exact F6
  · exact F7
  · exact F8
  · exact F9
theorem blts_of {mg : Str → Option Value}
    (z0 : mg "bool" = none)
    (z1 : mg "int" = none)
    (z2 : mg "isinstance" = none)
    (z3 : mg "len" = none)
    (z4 : mg "list" = none)
    (z5 : mg "max" = none)
    (z6 : mg "range" = none)
    (z7 : mg "str" = none)
    : ∀ x ∈ lw.bl, mg x = none := fun x hx => by
  simp only [lw, List.mem_cons, List.not_mem_nil, or_false] at hx
  rcases hx with rfl | rfl | rfl | rfl | rfl | rfl | rfl | rfl
  · exact z0
  · exact z1
  · exact z2
  · exact z3
  · exact z4
  · exact z5
  · exact z6
  · exact z7
theorem csts_of {mg : Str → Option Value}
    : ∀ c ∈ lw.cs, CstOk mg c := fun c hc => by
  simp only [lw, List.mem_cons, List.not_mem_nil, or_false] at hc
theorem all_mk {P : Program} {w : World} {K : PySem.W.Frag} {h : Heap} {mg : Str → Option Value} {fa : Addr} (kx : K.In h) (G : h.Ns mainGlobals mg) (hmg : mg "law" = some (.ref fa))
    {f0 : Addr} {o0 n0 : Option Addr} {s0 : Array (Option Value)} {p0 v0 d0 q0 r0 t0 : Value}
    (a0 : PySem.W.nsIn K mainGlobals "comes_before" = some (some (.ref f0)))
    (l0 : K.lookup f0 = some ⟨p0, o0, .func (PySem.W.fnOf "comes_before" "comes_before" (defArgs (top 1)) (defBody (top 1)) (defScope (top 1)) .none v0 d0 q0 n0 r0 t0), s0⟩)
    (c0 : PySem.W.codeIn K r0 "comes_before" = true) (k0 : PySem.W.keepIn K (.ref f0) = true)
    {f1 : Addr} {o1 n1 : Option Addr} {s1 : Array (Option Value)} {p1 v1 d1 q1 r1 t1 : Value}
    (a1 : PySem.W.nsIn K mainGlobals "least_of" = some (some (.ref f1)))
    (l1 : K.lookup f1 = some ⟨p1, o1, .func (PySem.W.fnOf "least_of" "least_of" (defArgs (top 2)) (defBody (top 2)) (defScope (top 2)) .none v1 d1 q1 n1 r1 t1), s1⟩)
    (c1 : PySem.W.codeIn K r1 "least_of" = true) (k1 : PySem.W.keepIn K (.ref f1) = true)
    {f2 : Addr} {o2 n2 : Option Addr} {s2 : Array (Option Value)} {p2 v2 d2 q2 r2 t2 : Value}
    (a2 : PySem.W.nsIn K mainGlobals "_law_draw" = some (some (.ref f2)))
    (l2 : K.lookup f2 = some ⟨p2, o2, .func (PySem.W.fnOf "_law_draw" "_law_draw" (defArgs (top 4)) (defBody (top 4)) (defScope (top 4)) .none v2 d2 q2 n2 r2 t2), s2⟩)
    (c2 : PySem.W.codeIn K r2 "_law_draw" = true) (k2 : PySem.W.keepIn K (.ref f2) = true)
    {f3 : Addr} {o3 n3 : Option Addr} {s3 : Array (Option Value)} {p3 v3 d3 q3 r3 t3 : Value}
    (a3 : PySem.W.nsIn K mainGlobals "_law_pot" = some (some (.ref f3)))
    (l3 : K.lookup f3 = some ⟨p3, o3, .func (PySem.W.fnOf "_law_pot" "_law_pot" (defArgs (top 5)) (defBody (top 5)) (defScope (top 5)) .none v3 d3 q3 n3 r3 t3), s3⟩)
    (c3 : PySem.W.codeIn K r3 "_law_pot" = true) (k3 : PySem.W.keepIn K (.ref f3) = true)
    {f4 : Addr} {o4 n4 : Option Addr} {s4 : Array (Option Value)} {p4 v4 d4 q4 r4 t4 : Value}
    (a4 : PySem.W.nsIn K mainGlobals "_law_text" = some (some (.ref f4)))
    (l4 : K.lookup f4 = some ⟨p4, o4, .func (PySem.W.fnOf "_law_text" "_law_text" (defArgs (top 6)) (defBody (top 6)) (defScope (top 6)) .none v4 d4 q4 n4 r4 t4), s4⟩)
    (c4 : PySem.W.codeIn K r4 "_law_text" = true) (k4 : PySem.W.keepIn K (.ref f4) = true)
    {f5 : Addr} {o5 n5 : Option Addr} {s5 : Array (Option Value)} {p5 v5 d5 q5 r5 t5 : Value}
    (a5 : PySem.W.nsIn K mainGlobals "_law_pool" = some (some (.ref f5)))
    (l5 : K.lookup f5 = some ⟨p5, o5, .func (PySem.W.fnOf "_law_pool" "_law_pool" (defArgs (top 7)) (defBody (top 7)) (defScope (top 7)) .none v5 d5 q5 n5 r5 t5), s5⟩)
    (c5 : PySem.W.codeIn K r5 "_law_pool" = true) (k5 : PySem.W.keepIn K (.ref f5) = true)
    {f6 : Addr} {o6 n6 : Option Addr} {s6 : Array (Option Value)} {p6 v6 d6 q6 r6 t6 : Value}
    (a6 : PySem.W.nsIn K mainGlobals "_law_file" = some (some (.ref f6)))
    (l6 : K.lookup f6 = some ⟨p6, o6, .func (PySem.W.fnOf "_law_file" "_law_file" (defArgs (top 8)) (defBody (top 8)) (defScope (top 8)) .none v6 d6 q6 n6 r6 t6), s6⟩)
    (c6 : PySem.W.codeIn K r6 "_law_file" = true) (k6 : PySem.W.keepIn K (.ref f6) = true)
    {f7 : Addr} {o7 n7 : Option Addr} {s7 : Array (Option Value)} {p7 v7 d7 q7 r7 t7 : Value}
    (a7 : PySem.W.nsIn K mainGlobals "_law_is" = some (some (.ref f7)))
    (l7 : K.lookup f7 = some ⟨p7, o7, .func (PySem.W.fnOf "_law_is" "_law_is" (defArgs (top 9)) (defBody (top 9)) (defScope (top 9)) .none v7 d7 q7 n7 r7 t7), s7⟩)
    (c7 : PySem.W.codeIn K r7 "_law_is" = true) (k7 : PySem.W.keepIn K (.ref f7) = true)
    {f8 : Addr} {o8 n8 : Option Addr} {s8 : Array (Option Value)} {p8 v8 d8 q8 r8 t8 : Value}
    (a8 : PySem.W.nsIn K mainGlobals "_law_less" = some (some (.ref f8)))
    (l8 : K.lookup f8 = some ⟨p8, o8, .func (PySem.W.fnOf "_law_less" "_law_less" (defArgs (top 10)) (defBody (top 10)) (defScope (top 10)) .none v8 d8 q8 n8 r8 t8), s8⟩)
    (c8 : PySem.W.codeIn K r8 "_law_less" = true) (k8 : PySem.W.keepIn K (.ref f8) = true)
    {f9 : Addr} {o9 n9 : Option Addr} {s9 : Array (Option Value)} {p9 v9 d9 q9 r9 t9 : Value}
    (a9 : PySem.W.nsIn K mainGlobals "law" = some (some (.ref f9)))
    (l9 : K.lookup f9 = some ⟨p9, o9, .func (PySem.W.fnOf "law" "law" (defArgs (top 11)) (defBody (top 11)) (defScope (top 11)) .none v9 d9 q9 n9 r9 t9), s9⟩)
    (c9 : PySem.W.codeIn K r9 "law" = true) (k9 : PySem.W.keepIn K (.ref f9) = true)
    (z0 : PySem.W.nsIn K mainGlobals "bool" = some none)
    (z1 : PySem.W.nsIn K mainGlobals "int" = some none)
    (z2 : PySem.W.nsIn K mainGlobals "isinstance" = some none)
    (z3 : PySem.W.nsIn K mainGlobals "len" = some none)
    (z4 : PySem.W.nsIn K mainGlobals "list" = some none)
    (z5 : PySem.W.nsIn K mainGlobals "max" = some none)
    (z6 : PySem.W.nsIn K mainGlobals "range" = some none)
    (z7 : PySem.W.nsIn K mainGlobals "str" = some none)
    : ∃ K : PySem.W.Frag, K.In h ∧ ∃ (fd : FuncData) (sp : Sp), (∀ (s : Shared) (u : Value), BindsTo s fd ⟨[u], []⟩ [("_law_script", u)]) ∧
        (∀ (H : Hp) (a : Addr) (ns : List Int), ns.length ≤ 63 → Only H → SqL K H a (ns.map V.int) → sp [.ref a] H (fun v _ => v = .bl true) fun _ _ _ => False) ∧
        ∀ base : Heap, K.In base → base.Ns mainGlobals mg → FnOk P w K mg base (L2.CX P w) 10 fa fd ["_law_script"] sp := by
  have F0 := ent_fact (x := "comes_before") (st := top 1) (ps := ["file", "other"]) kx G a0 l0 c0 k0 (fun us hl => match us, hl with | [_, _], _ => rfl)
  have F1 := ent_fact (x := "least_of") (st := top 2) (ps := ["files"]) kx G a1 l1 c1 k1 (fun us hl => match us, hl with | [_], _ => rfl)
  have F2 := ent_fact (x := "_law_draw") (st := top 4) (ps := ["_law_pot_here", "_law_many"]) kx G a2 l2 c2 k2 (fun us hl => match us, hl with | [_, _], _ => rfl)
  have F3 := ent_fact (x := "_law_pot") (st := top 5) (ps := ["_law_script"]) kx G a3 l3 c3 k3 (fun us hl => match us, hl with | [_], _ => rfl)
  have F4 := ent_fact (x := "_law_text") (st := top 6) (ps := ["_law_pot_here", "_law_most"]) kx G a4 l4 c4 k4 (fun us hl => match us, hl with | [_, _], _ => rfl)
  have F5 := ent_fact (x := "_law_pool") (st := top 7) (ps := ["_law_pot_here", "_law_count", "_law_most"]) kx G a5 l5 c5 k5 (fun us hl => match us, hl with | [_, _, _], _ => rfl)
  have F6 := ent_fact (x := "_law_file") (st := top 8) (ps := ["_law_pot_here", "_law_lines", "_law_most"]) kx G a6 l6 c6 k6 (fun us hl => match us, hl with | [_, _, _], _ => rfl)
  have F7 := ent_fact (x := "_law_is") (st := top 9) (ps := ["_law_told", "_law_due"]) kx G a7 l7 c7 k7 (fun us hl => match us, hl with | [_, _], _ => rfl)
  have F8 := ent_fact (x := "_law_less") (st := top 10) (ps := ["_law_file_here", "_law_other"]) kx G a8 l8 c8 k8 (fun us hl => match us, hl with | [_, _], _ => rfl)
  have F9 := ent_fact (x := "law") (st := top 11) (ps := ["_law_script"]) kx G a9 l9 c9 k9 (fun us hl => match us, hl with | [_], _ => rfl)
  have Z0 := PySem.W.mg_none_of kx G z0
  have Z1 := PySem.W.mg_none_of kx G z1
  have Z2 := PySem.W.mg_none_of kx G z2
  have Z3 := PySem.W.mg_none_of kx G z3
  have Z4 := PySem.W.mg_none_of kx G z4
  have Z5 := PySem.W.mg_none_of kx G z5
  have Z6 := PySem.W.mg_none_of kx G z6
  have Z7 := PySem.W.mg_none_of kx G z7
  exact ⟨K, kx, law_end (e := en_law) lwok (by simp [lw]) rfl (ents_of F0 F1 F2 F3 F4 F5 F6 F7 F8 F9) (csts_of ) (blts_of Z0 Z1 Z2 Z3 Z4 Z5 Z6 Z7) hmg 100 10 pure⟩
end K02
open PySem PySem.W PyProof.Rows
set_option maxRecDepth 100002 in
set_option maxHeartbeats 0 in
theorem PySem.Challenge.cw_markedblocks_k02_order_of_files_holds : PySem.Challenge.rw_markedblocks_k02_order_of_files.Holds := by
  w_on; o_law; k_head; (case hw => w_witness2)
  k_fill
  refine Y.walk_y (l := PySem.Challenge.rw_markedblocks_k02_order_of_files) (k := 10) (n := 63) (x := "_law_script") rfl (by decide) rfl ⟨rfl, by decide, by decide⟩ ?F
  case F =>
    intro w mg fa h hy G hmg
    refine' K02.all_mk (PySem.W.kIn_of hy) G hmg ?a0 ?l0 ?c0 ?k0 ?a1 ?l1 ?c1 ?k1 ?a2 ?l2 ?c2 ?k2 ?a3 ?l3 ?c3 ?k3 ?a4 ?l4 ?c4 ?k4 ?a5 ?l5 ?c5 ?k5 ?a6 ?l6 ?c6 ?k6 ?a7 ?l7 ?c7 ?k7 ?a8 ?l8 ?c8 ?k8 ?a9 ?l9 ?c9 ?k9 ?z0 ?z1 ?z2 ?z3 ?z4 ?z5 ?z6 ?z7
    (case a0 => k_is)
    (case l0 => k_is)
    (case c0 => k_is)
    (case k0 => k_is)
    (case a1 => k_is)
    (case l1 => k_is)
    (case c1 => k_is)
    (case k1 => k_is)
    (case a2 => k_is)
    (case l2 => k_is)
    (case c2 => k_is)
    (case k2 => k_is)
    (case a3 => k_is)
    (case l3 => k_is)
    (case c3 => k_is)
    (case k3 => k_is)
    (case a4 => k_is)
    (case l4 => k_is)
    (case c4 => k_is)
    (case k4 => k_is)
    (case a5 => k_is)
    (case l5 => k_is)
    (case c5 => k_is)
    (case k5 => k_is)
    (case a6 => k_is)
    (case l6 => k_is)
    (case c6 => k_is)
    (case k6 => k_is)
    (case a7 => k_is)
    (case l7 => k_is)
    (case c7 => k_is)
    (case k7 => k_is)
    (case a8 => k_is)
    (case l8 => k_is)
    (case c8 => k_is)
    (case k8 => k_is)
    (case a9 => k_is)
    (case l9 => k_is)
    (case c9 => k_is)
    (case k9 => k_is)
    (case z0 => k_is)
    (case z1 => k_is)
    (case z2 => k_is)
    (case z3 => k_is)
    (case z4 => k_is)
    (case z5 => k_is)
    (case z6 => k_is)
    (case z7 => k_is)
