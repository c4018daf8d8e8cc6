import PyProof.Rows.All
import Wide.All
import OpenK.AllK
import Wide.FinOn
import HandS.ForMost
import HandS.Evl
import HandS.Walk
import HandS.Zip
import HandS.Wide
import HandS.Style
import HandS.TupAny
import HandS.TupMul
import HandS.IsInst
import HandS.Deep
import HandS.Strs
import HandS.NoneIn
import HandS.SetKeys
import HandS.Conv
import HandS.Flow
import HandS.More
import HandS.Defaults
import HandS.SortOrd
import KE.KDictZip
import HandS.Head0
import HandS.Head1
import HandS.Head2
import HandS.HeadEnd
import HandS.HeadHook1
import HandS.HeadHook2
import PySem.Challenge.RW_surecall_k02_answers
set_option Elab.async false
set_option linter.all false
set_option maxRecDepth 100000
section
set_option maxHeartbeats 200000
namespace Mn
open PySem

abbrev P := PyData
abbrev Key := L2.Key
/-- a key of a dict that has None among its keys; one that is a tuple -/
abbrev RK := Sum (Option Key) (List Key)

/-- what a variable holds: an immutable value, or a list or a dict of its own; s: the script; k: locked while it is walked -/
inductive M where
  | v (p : P) | l (ps : List P) | d (kvs : List (Key × P)) | t (kvs : List (List Key × P)) | n (kvs : List (Key × M)) | s (ns : List Int) | k (m : M) | r (kvs : List (RK × P))

abbrev Env := List (Option M)
/-- an operand: a variable as it stands when it is used, a field of one, a value -/
inductive R where
  | pl (i : Nat) | vl (m : M)

inductive BOp where | add | sub | mul | mod | div | pow
inductive COp where | eq | ne | lt | le | gt | ge | inn | nin | isN | notN | isB | notB
inductive BI where | len | tup | list | dict | int | str | isTup | isStr | isBool | isInt | isList | sorted | all | any | min2 | max2 | abs | sum | setLen | listZip | min1 | max1
inductive MT where | get | join | index | count | split | upper | values | items
inductive Tg where | nm (i : Nat) | tp (ts : List Tg)

mutual
inductive E where
  | pl (i : Nat) | getf (i : Nat) (f : Str) (j : Nat)
  | tk (i : Nat) | mv (i : Nat)
  | g (c : Nat) | ki (i : Int) | kb (b : Bool) | kn | ks (s : Str)
  | tup (es : EL) | lst (es : EL) | dnw (t : Nat) | dd (t : Nat) (kvs : EL)
  | bin (op : BOp) (a b : E) | neg (a : E)
  | cmp (op : COp) (a b : E) | cmp2 (op op2 : COp) (a b c : E)
  | ban (a b : E) | bor (a b : E) | nt (a : E) | ifx (c a b : E)
  | sub (a k : E) | slc (a : E) (lo hi : E) | rev (a : E) | no
  | call (f : Nat) (es : EL) | bi (b : BI) (es : EL) | mt (m : MT) (a : E) (es : EL)
  | pop (i : Nat) (es : EL) | getn (i : Nat) (k : E)
  | comp (own : List Nat) (tg : Tg) (it : It) (ts : EL) (e : E)
  | dr (k e : E)
inductive EL where | nil | cons (e : E) (r : EL)
inductive It where | of (e : E) | lk (i : Nat) | vals (i : Nat) | rg (es : EL) | en (e : E) | zp (a b : E)
end

mutual
inductive S where
  | asg (tg : Tg) (e : E) | par (i j : Nat) (a b : E)
  | stn (i : Nat) (k e : E) | sto (i : Nat) (k e : E) | stt (i : Nat) (ks : EL) (e : E) | stf (i : Nat) (f : Str) (k e : E)
  | app (i : Nat) (e : E) | ext (i : Nat) (e : E) | upd (i : Nat) (e : E) | sda (i : Nat) (k e : E)
  | expr (e : E) | aug (i : Nat) (op : BOp) (e : E)
  | ifs (c : E) (a b : SL) | fr (tg : Tg) (it : It) (b : SL) | wh (c : E) (b : SL)
  | ret (e : E) | ret0 | cont | brk | pass
inductive SL where | nil | cons (s : S) (r : SL)
end

def LIM : Nat := 1000000
section
variable {κ α : Type} [DecidableEq κ]
def getA (kvs : List (κ × α)) (k : κ) : Option α := (kvs.find? fun kv => decide (kv.1 = k)).map (·.2)
def putA (kvs : List (κ × α)) (k : κ) (v : α) : List (κ × α) :=
  if (kvs.any fun kv => decide (kv.1 = k)) = true then kvs.map (fun kv => if kv.1 = k then (kv.1, v) else kv) else kvs ++ [(k, v)]
def mergeA (kvs more : List (κ × α)) : List (κ × α) := more.foldl (fun acc kv => putA acc kv.1 kv.2) kvs
end
def keyOf : P → Option Key
  | .int i => some (.inl i)
  | .str s => some (.inr s)
  | _ => none
def keysAll : List P → Option (List Key)
  | [] => some []
  | p :: ps => match keyOf p with
    | some k => match keysAll ps with
      | some ks => some (k :: ks)
      | none => none
    | none => none
def keysOf : P → Option (List Key)
  | .tuple ps => keysAll ps
  | _ => none
def rkOf : P → Option RK
  | .none => some (.inl none)
  | .int i => some (.inl (some (.inl i)))
  | .str s => some (.inl (some (.inr s)))
  | .tuple ps => (keysAll ps).map .inr
  | _ => none
def rkN : RK → Bool
  | .inl _ => true
  | .inr _ => false
def ofKey : Key → P
  | .inl i => .int i
  | .inr s => .str s
def ofKeys (ks : List Key) : P := .tuple (ks.map ofKey)
def sgn (c : Nat) : P := .str ⟨#[c]⟩

/-- a frozen dict's pairs -/
def frzD (kvs : List (Key × P)) : P := .dict (kvs.map fun kv => (ofKey kv.1, kv.2))
/-- a dict whose keys are tuples bears a mark ahead -/
def frzT (kvs : List (List Key × P)) : P := .dict ((.none, .none) :: kvs.map fun kv => (ofKeys kv.1, kv.2))
/-- what a frozen dict holds at a key -/
def getF (kvs : List (P × P)) (p : P) : Option (Option P) := match kvs with
  | (.none, _) :: r => match keysOf p with
    | some ks => some ((r.find? fun kv => decide (keysOf kv.1 = some ks)).map (·.2))
    | none => none
  | r => match keyOf p with
    | some k => some ((r.find? fun kv => decide (keyOf kv.1 = some k)).map (·.2))
    | none => none
/-- a list is frozen -/
def frzL : M → M
  | .l ps => .v (.list ps)
  | m => m
def vw : M → M
  | .k m => m
  | m => m
/-- as an element of a tuple, a list -/
def toP : M → Option P
  | .v p => some p
  | .l ps => some (.list ps)
  | .d kvs => some (frzD kvs)
  | .t kvs => some (frzT kvs)
  | _ => none
/-- as data -/
def asP (m : M) : Option P := match vw m with
  | .v p => some p
  | .l ps => some (.list ps)
  | _ => none
def listOf (m : M) : Option (List P) := match vw m with
  | .l ps => some ps
  | .v (.list ps) => some ps
  | _ => none
/-- list or tuple -/
def seqOf (m : M) : Option (List P) := match vw m with
  | .l ps => some ps
  | .v (.list ps) => some ps
  | .v (.tuple ps) => some ps
  | _ => none
def lenM (m : M) : Option Nat := match vw m with
  | .v (.str s) => some s.length
  | .v (.tuple ps) => some ps.length
  | .v (.list ps) => some ps.length
  | .l ps => some ps.length
  | .d kvs => some kvs.length
  | .s ns => some ns.length
  | _ => none

def mulS (x : Str) (n : Nat) : Str := ⟨(List.replicate n x.cps.toList).flatten.toArray⟩
def mulOk (i j : Int) : Bool := (decide (-(2 ^ 64) < i) && decide (i < 2 ^ 64)) || (decide (-(2 ^ 64) < j) && decide (j < 2 ^ 64)) || decide (i.natAbs.log2 + j.natAbs.log2 < 1000000)
def binM (op : BOp) (a b : M) : Option M := match op, vw a, vw b with
  | .add, .v (.int i), .v (.int j) => some (.v (.int (i + j)))
  | .sub, .v (.int i), .v (.int j) => some (.v (.int (i - j)))
  | .mul, .v (.int i), .v (.int j) => if mulOk i j then some (.v (.int (i * j))) else none
  | .mod, .v (.int i), .v (.int j) => if 0 < j then some (.v (.int (i % j))) else none
  | .div, .v (.int i), .v (.int j) => if 0 < j ∧ j < 1073741824 then some (.v (.int (i / j))) else none
  | .pow, .v (.int i), .v (.int j) => if 0 ≤ j ∧ j ≤ 1000 ∧ i.natAbs < 2 ^ 64 then some (.v (.int (i ^ j.toNat))) else none
  | .add, .v (.str x), .v (.str y) => if x.length + y.length ≤ LIM then some (.v (.str (x ++ y))) else none
  | .add, .v (.tuple x), .v (.tuple y) => if x.length + y.length ≤ LIM then some (.v (.tuple (x ++ y))) else none
  | .add, .l x, .l y => if x.length + y.length ≤ LIM then some (.l (x ++ y)) else none
  | .add, .l x, .v (.list y) => if x.length + y.length ≤ LIM then some (.l (x ++ y)) else none
  | .add, .v (.list x), .l y => if x.length + y.length ≤ LIM then some (.l (x ++ y)) else none
  | .add, .v (.list x), .v (.list y) => if x.length + y.length ≤ LIM then some (.l (x ++ y)) else none
  | .mul, .l x, .v (.int j) => if -(2 ^ 63) ≤ j ∧ j < 2 ^ 63 ∧ x.length * j.toNat ≤ LIM then some (.l (List.replicate j.toNat x).flatten) else none
  | .mul, .v (.list x), .v (.int j) => if -(2 ^ 63) ≤ j ∧ j < 2 ^ 63 ∧ x.length * j.toNat ≤ LIM then some (.l (List.replicate j.toNat x).flatten) else none
  | .mul, .v (.str x), .v (.int j) => if 0 ≤ j ∧ j < 2 ^ 62 ∧ x.length * j.toNat ≤ LIM then some (.v (.str (mulS x j.toNat))) else none
  | _, _, _ => none
mutual
def noD : P → Bool
  | .dict _ => false
  | .tuple ps => noDs ps
  | .list ps => noDs ps
  | _ => true
def noDs : List P → Bool
  | [] => true
  | p :: ps => noD p && noDs ps
end
def eqP (p q : P) : Option Bool := if p.depth ≤ 64 ∧ q.depth ≤ 64 ∧ noD p = true ∧ noD q = true then some (PyData.eqv p q) else none
def flatP : P → Bool
  | .none => true | .bool _ => true | .int _ => true | .str _ => true
  | _ => false
def ltP : P → P → Option Bool
  | .int i, .int j => some (decide (i < j))
  | .str x, .str y => some (decide (x.cps.toList < y.cps.toList))
  | _, _ => none
def leP : P → P → Option Bool
  | .int i, .int j => some (decide (i ≤ j))
  | _, _ => none
def inSeq (x : P) (ps : List P) : Option Bool := if flatP x = true ∧ ps.all flatP = true then some (ps.any fun y => PyData.eqv y x) else none
/-- x in a, by the kind of a -/
def inM (x a : M) : Option Bool := match vw x, vw a with
  | .v p, .l ps => inSeq p ps
  | .v p, .v (.list ps) => inSeq p ps
  | .v p, .v (.tuple ps) => inSeq p ps
  | .v (.str c), .v (.str z) => if c.length = 1 then some (decide (c.cps.getD 0 0 ∈ z.cps.toList)) else none
  | .v .none, .d _ => some false
  | .v p, .d kvs => match keyOf p with
    | some k => some (getA kvs k).isSome
    | none => none
  | .v p, .n kvs => match keyOf p with
    | some k => some (getA kvs k).isSome
    | none => none
  | .v p, .v (.dict kvs) => (getF kvs p).map (·.isSome)
  | .v p, .t kvs => match keysOf p with
    | some k => some (getA kvs k).isSome
    | none => none
  | _, _ => none
def eqM (a b : M) : Option Bool := match asP a, asP b with
  | some p, some q => eqP p q
  | _, _ => none
def isNone : M → Bool
  | .v .none => true
  | _ => false
def cmpM (op : COp) (a b : M) : Option M := match op with
  | .eq => (eqM a b).map fun c => .v (.bool c)
  | .ne => (eqM a b).map fun c => .v (.bool (!c))
  | .inn => (inM a b).map fun c => .v (.bool c)
  | .nin => (inM a b).map fun c => .v (.bool (!c))
  | .isN => some (.v (.bool (isNone a)))
  | .notN => some (.v (.bool (!isNone a)))
  | .isB => match a, b with
    | .v (.bool x), .v (.bool y) => some (.v (.bool (decide (x = y))))
    | _, _ => none
  | .notB => match a, b with
    | .v (.bool x), .v (.bool y) => some (.v (.bool (!decide (x = y))))
    | _, _ => none
  | .lt => match vw a, vw b with
    | .v p, .v q => (ltP p q).map fun c => .v (.bool c)
    | _, _ => none
  | .gt => match vw a, vw b with
    | .v (.int i), .v (.int j) => some (.v (.bool (decide (j < i))))
    | _, _ => none
  | .le => match vw a, vw b with
    | .v (.int i), .v (.int j) => some (.v (.bool (decide (i ≤ j))))
    | _, _ => none
  | .ge => match vw a, vw b with
    | .v (.int i), .v (.int j) => some (.v (.bool (decide (j ≤ i))))
    | _, _ => none
def subM (a k : M) : Option M := match vw a, vw k with
  | .l ps, .v (.int i) => (L2.atI ps i).map .v
  | .v (.list ps), .v (.int i) => (L2.atI ps i).map .v
  | .v (.tuple ps), .v (.int i) => (L2.atI ps i).map .v
  | .v (.str z), .v (.int i) => (L2.atI z.cps.toList i).map fun c => .v (sgn c)
  | .v (.dict kvs), .v p => match getF kvs p with
    | some (some q) => some (.v q)
    | _ => none
  | .s ns, .v (.int i) => (L2.atI ns i).map fun n => .v (.int n)
  | .d kvs, .v p => match keyOf p with
    | some k => (getA kvs k).map .v
    | none => none
  | .t kvs, .v p => match keysOf p with
    | some k => (getA kvs k).map .v
    | none => none
  | .n kvs, .v p => match keyOf p with
    | some k => match getA kvs k with
      | some (.v p) => some (.v p)
      | _ => none
    | none => none
  | .r kvs, .v p => match rkOf p with
    | some k => if rkN k = true then (getA kvs k).map .v else none
    | none => none
  | _, _ => none
def cut {α : Type} (xs : List α) (lo hi : Option Int) : List α := (xs.drop (HT.sIx xs.length 0 lo)).take (HT.sIx xs.length xs.length hi - HT.sIx xs.length 0 lo)
def slcM (a : M) (lo hi : Option Int) : Option M := match vw a with
  | .l ps => some (.l (cut ps lo hi))
  | .v (.list ps) => some (.l (cut ps lo hi))
  | .v (.tuple ps) => some (.v (.tuple (cut ps lo hi)))
  | .v (.str z) => some (.v (.str (L2.cutS z lo hi)))
  | _ => none
def revM (a : M) : Option M := (listOf a).map fun ps => .l ps.reverse
def boolsOf : List P → Option (List Bool)
  | [] => some []
  | .bool b :: r => (boolsOf r).map (b :: ·)
  | _ => none
def intsOf : List P → Option (List Int)
  | [] => some []
  | .int b :: r => (intsOf r).map (b :: ·)
  | _ => none
def strsOf : List P → Option (List Str)
  | [] => some []
  | .str b :: r => (strsOf r).map (b :: ·)
  | _ => none
def sortS (xs : List Str) : List Str := xs.mergeSort fun a b => decide (a.cps.toList ≤ b.cps.toList)
def sortI (xs : List Int) : List Int := xs.mergeSort fun a b => decide (a ≤ b)
def pairsK : List P → Option (List (Key × P))
  | [] => some []
  | .tuple [a, b] :: r => match keyOf a, pairsK r with
    | some k, some kvs => some ((k, b) :: kvs)
    | _, _ => none
  | _ => none
def zipP (xs ys : List P) : List P := (xs.zip ys).map fun z => .tuple [z.1, z.2]
/-- zip of two tuples or of two lists -/
def zipM (a b : M) : Option (List P) := match toP a, toP b with
  | some (.tuple x), some (.tuple y) => some (zipP x y)
  | some (.list x), some (.list y) => some (zipP x y)
  | _, _ => none
def enumP (xs : List P) : List P := (List.range xs.length).zip xs |>.map fun z => .tuple [.int z.1, z.2]
def dedupS (xs : List Str) : List Str := xs.eraseDups
inductive Ty where | non | bl | int | str | tup | lst | dct
def tyM (m : M) : Option Ty := match vw m with
  | .v .none => some .non
  | .v (.bool _) => some .bl
  | .v (.int _) => some .int
  | .v (.str _) => some .str
  | .v (.tuple _) => some .tup
  | .v (.list _) => some .lst
  | .l _ => some .lst
  | .d _ => some .dct
  | .n _ => some .dct
  | _ => none
def tyLe : Ty → Ty → Bool
  | .non, .non => true | .bl, .bl => true | .bl, .int => true | .int, .int => true | .str, .str => true | .tup, .tup => true | .lst, .lst => true | .dct, .dct => true
  | _, _ => false
def biM (b : BI) (ms : List M) : Option M := match b, ms with
  | .len, [a] => (lenM a).map fun (n : Nat) => .v (.int (n : Int))
  | .tup, [a] => (seqOf a).map fun ps => .v (.tuple ps)
  | .list, [a] => match a with
    | .d kvs => some (.l (kvs.map fun kv => ofKey kv.1))
    | m => (seqOf m).map .l
  | .dict, [a] => match listOf a with
    | some ps => (pairsK ps).map fun kvs => .d (mergeA [] kvs)
    | none => none
  | .int, [a] => match vw a with
    | .v (.int i) => some (.v (.int i))
    | .v (.bool b) => some (.v (.int (if b then 1 else 0)))
    | _ => none
  | .isTup, [a] => (tyM a).map fun t => .v (.bool (tyLe t .tup))
  | .isList, [a] => (tyM a).map fun t => .v (.bool (tyLe t .lst))
  | .isStr, [a] => (tyM a).map fun t => .v (.bool (tyLe t .str))
  | .isBool, [a] => (tyM a).map fun t => .v (.bool (tyLe t .bl))
  | .isInt, [a] => (tyM a).map fun t => .v (.bool (tyLe t .int))
  | .sorted, [a] => match listOf a with
    | some ps => if ps.length < 64 then match strsOf ps with
        | some xs => some (.l ((sortS xs).map .str))
        | none => (intsOf ps).map fun ns => .l ((sortI ns).map .int)
      else none
    | none => none
  | .all, [a] => match listOf a with
    | some ps => (boolsOf ps).map fun bs => .v (.bool (bs.all id))
    | none => none
  | .any, [a] => match listOf a with
    | some ps => (boolsOf ps).map fun bs => .v (.bool (bs.any id))
    | none => none
  | .sum, [a] => match listOf a with
    | some ps => (intsOf ps).map fun ns => .v (.int ns.sum)
    | none => none
  | .abs, [a] => match vw a with
    | .v (.int i) => some (.v (.int (if i < 0 then -i else i)))
    | _ => none
  | .max2, [a, b] => match vw a, vw b with
    | .v (.int i), .v (.int j) => some (.v (.int (if j > i then j else i)))
    | _, _ => none
  | .min2, [a, b] => match vw a, vw b with
    | .v (.int i), .v (.int j) => some (.v (.int (if j < i then j else i)))
    | _, _ => none
  | .setLen, [a] => match seqOf a with
    | some ps => (strsOf ps).map fun xs => .v (.int (dedupS xs).length)
    | none => none
  | .listZip, [a, b] => match listOf a, listOf b with
    | some x, some y => if min x.length y.length ≤ LIM then some (.l (zipP x y)) else none
    | _, _ => none
  | _, _ => none
def joinS (sep : Str) : List Str → Str
  | [] => ⟨#[]⟩
  | [x] => x
  | x :: r => x ++ (sep ++ joinS sep r)
/-- methods that change nothing; the default of get stands behind -/
def mtM (m : MT) (a : M) (ms : List M) : Option M := match m, vw a, ms with
  | .get, .d _, [.v .none] => some (.v .none)
  | .get, .d _, [.v .none, d] => some d
  | .get, .d kvs, [.v p] => match keyOf p with
    | some k => some (.v ((getA kvs k).getD .none))
    | none => none
  | .get, .d kvs, [.v p, d] => match keyOf p with
    | some k => match getA kvs k with
      | some q => some (.v q)
      | none => some d
    | none => none
  | .get, .t kvs, [.v p] => match keysOf p with
    | some k => some (.v ((getA kvs k).getD .none))
    | none => none
  | .get, .t kvs, [.v p, d] => match keysOf p with
    | some k => match getA kvs k with
      | some q => some (.v q)
      | none => some d
    | none => none
  | .get, .v (.dict kvs), [.v p] => match getF kvs p with
    | some q => some (.v (q.getD .none))
    | none => none
  | .get, .v (.dict kvs), [.v p, d] => match getF kvs p with
    | some (some q) => some (.v q)
    | some none => some d
    | none => none
  | .index, .l ps, [.v x] => if flatP x = true ∧ ps.all flatP = true then match ps.findIdx? fun y => PyData.eqv y x with
      | some j => some (.v (.int j))
      | none => none
    else none
  | _, _, _ => none

/-- what a method's thing must be -/
def mtBase (m : MT) (a : Option M) : Bool := match m, a with
  | .get, some a => match vw a with
    | .d _ => true
    | .t _ => true
    | .v (.dict _) => true
    | _ => false
  | .index, some (.l _) => true
  | _, _ => false
def isNd : Option M → Bool
  | some (.n _) => true
  | _ => false
/-- the list at a key, as setdefault gives it -/
def sdN (kvs : List (Key × M)) (k : Key) : Option (List P) := match getA kvs k with
  | some (.l ps) => if ps.length < LIM ∧ kvs.length < LIM then some ps else none
  | none => if kvs.length < LIM then some [] else none
  | _ => none
def isL : Option M → Bool
  | some (.l _) => true
  | _ => false

structure Cxt where
  C : Nat → List M → Option (M × List M)
  gs : Nat → Option P
  pm : List Bool

def slot (ρ : Env) (i : Nat) : Option M := (ρ[i]?).join
def isLk : Option M → Bool
  | some (.k _) => true
  | _ => false
def field (m : M) (f : Str) : Option M := match m with
  | .n kvs => getA kvs (.inr f)
  | _ => none
def rd (ρ : Env) : R → Option M
  | .pl i => slot ρ i
  | .vl m => some m
def rds (ρ : Env) : List R → Option (List M)
  | [] => some []
  | r :: rs => match rd ρ r, rds ρ rs with
    | some m, some ms => some (m :: ms)
    | _, _ => none
def opE (e : E) (g : Env → Option (M × Env)) (ρ : Env) : Option (R × Env) := match e with
  | .pl i => match slot ρ i with
    | some _ => some (.pl i, ρ)
    | none => none
  | _ => match g ρ with
    | some (m, ρ) => some (.vl m, ρ)
    | none => none
/-- a name read to be kept: a list is frozen where it stands -/
def take (ρ : Env) (i : Nat) : Option (M × Env) := match slot ρ i with
  | some (.v p) => some (.v p, ρ)
  | some (.l ps) => some (.v (.list ps), ρ.set i (some (.v (.list ps))))
  | some (.d kvs) => some (.v (frzD kvs), ρ.set i (some (.v (frzD kvs))))
  | some (.t kvs) => some (.v (frzT kvs), ρ.set i (some (.v (frzT kvs))))
  | _ => none
def pmAt (X : Cxt) (i : Nat) : Bool := (X.pm[i]?).getD false
/-- a variable is stored -/
def sto (X : Cxt) (i : Nat) (m : M) (ρ : Env) : Option Env := if isLk (slot ρ i) = true ∨ pmAt X i = true ∨ ρ.length ≤ i then none else some (ρ.set i (some m))
mutual
def bindT (X : Cxt) : Tg → P → Env → Option Env
  | .nm i, p, ρ => sto X i (.v p) ρ
  | .tp ts, .tuple ps, ρ => bindTs X ts ps ρ
  | .tp ts, .list ps, ρ => bindTs X ts ps ρ
  | _, _, _ => none
def bindTs (X : Cxt) : List Tg → List P → Env → Option Env
  | [], [], ρ => some ρ
  | t :: ts, p :: ps, ρ => match bindT X t p ρ with
    | some ρ1 => bindTs X ts ps ρ1
    | none => none
  | _, _, _ => none
end
/-- a block's own variables hold nothing that must be held aside -/
def ownOk (X : Cxt) (ρ : Env) (own : List Nat) : Bool := own.all fun i => !pmAt X i && match slot ρ i with
  | none => true
  | some (.v _) => true
  | _ => false
def wipeE (ρ : Env) : List Nat → Env
  | [] => ρ
  | i :: is => (wipeE ρ is).set i none
/-- the own slots as they were -/
def backE (ρ0 ρ : Env) : List Nat → Env
  | [] => ρ
  | i :: is => (backE ρ0 ρ is).set i (slot ρ0 i)
def compL (bd : P → Env → Option Env) (tst : Env → Option (Bool × Env)) (elt : Env → Option (P × Env)) (own : List Nat) : List P → Env → List P → Option (List P × Env)
  | [], ρ, acc => some (acc, ρ)
  | p :: ps, ρ, acc => match bd p (wipeE ρ own) with
    | none => none
    | some ρ1 => match tst ρ1 with
      | none => none
      | some (false, ρ2) => compL bd tst elt own ps ρ2 acc
      | some (true, ρ2) => match elt ρ2 with
        | none => none
        | some (q, ρ3) => if acc.length < LIM then compL bd tst elt own ps ρ3 (acc ++ [q]) else none
/-- an element: what is mutable is frozen -/
def toPg (g : Env → Option (M × Env)) (ρ : Env) : Option (P × Env) := match g ρ with
  | some (m, ρ1) => match toP m with
    | some p => some (p, ρ1)
    | none => none
  | none => none
def elNo : E → Bool
  | .no => true
  | _ => false
def intOf? : M → Option Int
  | .v (.int i) => some i
  | _ => none
/-- what is walked: the items -/
def itemsP (p : P) : Option (List P) := match p with
  | .tuple ps => some ps
  | .list ps => some ps
  | .dict ((.none, _) :: r) => some (r.map (·.1))
  | .dict r => some (r.map (·.1))
  | .str z => some (z.cps.toList.map sgn)
  | _ => none
def itemsM (m : M) : Option (List P) := match toP m with
  | some p => itemsP p
  | none => none
/-- a variable that is walked is locked: what it held is put back behind -/
def lockV (i : Nat) (ρ : Env) : Option (Option (Nat × M) × Env) := match slot ρ i with
  | some (.l ps) => some (some (i, .l ps), ρ.set i (some (.k (.l ps))))
  | some (.d ps) => some (some (i, .d ps), ρ.set i (some (.k (.d ps))))
  | some (.t ps) => some (some (i, .t ps), ρ.set i (some (.k (.t ps))))
  | some (.v p) => some (none, ρ)
  | some (.k m) => some (none, ρ)
  | _ => none
def lockE (it : It) (ρ : Env) : Option (Option (Nat × M) × Env) := match it with
  | .lk i => lockV i ρ
  | .vals i => lockV i ρ
  | _ => some (none, ρ)
def lkItems (m : M) : Option (List P) := match m with
  | .l ps => some ps
  | .d kvs => some (kvs.map fun kv => ofKey kv.1)
  | .t kvs => some (kvs.map fun kv => ofKeys kv.1)
  | _ => none
def valItems (m : M) : Option (List P) := match m with
  | .d kvs => some (kvs.map (·.2))
  | _ => none
def rgItems (ms : List M) : Option (List P) := match ms with
  | [.v (.int j)] => if -(2 ^ 62) ≤ j ∧ j < 2 ^ 62 then some ((List.range j.toNat).map fun (i : Nat) => .int (0 + (i : Int))) else none
  | [.v (.int i), .v (.int j)] => if -(2 ^ 62) ≤ i ∧ i < 2 ^ 62 ∧ -(2 ^ 62) ≤ j ∧ j < 2 ^ 62 then some ((List.range (j - i).toNat).map fun (k : Nat) => .int (i + (k : Int))) else none
  | [.v (.int i), .v (.int j), .v (.int c)] => if c = -1 ∧ -(2 ^ 62) ≤ i ∧ i < 2 ^ 62 ∧ -(2 ^ 62) ≤ j ∧ j < 2 ^ 62 then some ((List.range (i - j).toNat).map fun (k : Nat) => .int (i + (k : Nat) * -1)) else none
  | _ => none
/-- the variables that are handed on, taken out meanwhile -/
def pull : List R → Env → Option (List M × Env)
  | [], ρ => some ([], ρ)
  | .pl i :: rs, ρ => match slot ρ i with
    | some m => match pull rs (ρ.set i none) with
      | some (ms, ρ1) => some (m :: ms, ρ1)
      | none => none
    | none => none
  | .vl m :: rs, ρ => match pull rs ρ with
    | some (ms, ρ1) => some (m :: ms, ρ1)
    | none => none
/-- the variables behind a call -/
def putBack : List R → List M → Env → Env
  | .pl i :: rs, m :: ms, ρ => putBack rs ms (ρ.set i (some m))
  | _ :: rs, _ :: ms, ρ => putBack rs ms ρ
  | _, _, ρ => ρ
def getN (ρ : Env) (i : Nat) (p : P) : Option (M × Env) := match slot ρ i, keyOf p with
  | some (.n kvs), some k => match getA kvs k with
    | some (.v q) => some (.v q, ρ)
    | some (.l ps) => some (.v (.list ps), ρ.set i (some (.n (putA kvs k (.v (.list ps))))))
    | some _ => none
    | none => some (.v (.list []), ρ)
  | _, _ => none

mutual
def ev (X : Cxt) : E → Env → Option (M × Env)
  | .pl _, _ => none
  | .getf i f j, ρ => match slot ρ i, slot ρ j with
    | some m, some (.v p) => match field m f with
      | some (.d kvs) => match keyOf p with
        | some k => some (.v ((getA kvs k).getD .none), ρ)
        | none => none
      | _ => none
    | _, _ => none
  | .no, _ => none
  | .tk i, ρ => take ρ i
  | .mv i, ρ => if pmAt X i = true ∨ isLk (slot ρ i) = true then none else match slot ρ i with
    | some m => some (m, ρ.set i none)
    | none => none
  | .g c, ρ => match X.gs c with
    | some p => some (.v p, ρ)
    | none => none
  | .ki i, ρ => some (.v (.int i), ρ)
  | .kb b, ρ => some (.v (.bool b), ρ)
  | .kn, ρ => some (.v .none, ρ)
  | .ks s, ρ => some (.v (.str s), ρ)
  | .tup es, ρ => match evp X es ρ with
    | some (ps, ρ1) => some (.v (.tuple ps), ρ1)
    | none => none
  | .lst es, ρ => match evp X es ρ with
    | some (ps, ρ1) => some (.l ps, ρ1)
    | none => none
  | .dnw t, ρ => match t with
    | 0 => some (.d [], ρ)
    | 1 => some (.t [], ρ)
    | _ => some (.n [], ρ)
  | .dd t kvs, ρ => match evkv X kvs ρ with
    | some (xs, ρ1) => some (.n xs, ρ1)
    | none => none
  | .dr k e, ρ => match ev X k ρ with
    | some (.v p, ρ1) => match rkOf p, ev X e ρ1 with
      | some k, some (m, ρ2) => match toP m with
        | some x => if rkN k = true then some (.r [(k, x)], ρ2) else none
        | none => none
      | _, _ => none
    | _ => none
  | .bin op a b, ρ => match opE a (ev X a) ρ with
    | some (r1, ρ1) => match opE b (ev X b) ρ1 with
      | some (r2, ρ2) => match rd ρ2 r1, rd ρ2 r2 with
        | some m1, some m2 => match binM op m1 m2 with
          | some m => some (m, ρ2)
          | none => none
        | _, _ => none
      | none => none
    | none => none
  | .neg a, ρ => match ev X a ρ with
    | some (.v (.int i), ρ1) => some (.v (.int (-i)), ρ1)
    | _ => none
  | .cmp op a b, ρ => match opE a (ev X a) ρ with
    | some (r1, ρ1) => match opE b (ev X b) ρ1 with
      | some (r2, ρ2) => match rd ρ2 r1, rd ρ2 r2 with
        | some m1, some m2 => match cmpM op m1 m2 with
          | some m => some (m, ρ2)
          | none => none
        | _, _ => none
      | none => none
    | none => none
  | .cmp2 op op2 a b c, ρ => match ev X a ρ with
    | some (m1, ρ1) => match ev X b ρ1 with
      | some (m2, ρ2) => match cmpM op m1 m2 with
        | some (.v (.bool false)) => some (.v (.bool false), ρ2)
        | some (.v (.bool true)) => match ev X c ρ2 with
          | some (m3, ρ3) => match cmpM op2 m2 m3 with
            | some m => some (m, ρ3)
            | none => none
          | none => none
        | _ => none
      | none => none
    | none => none
  | .ban a b, ρ => match ev X a ρ with
    | some (.v (.bool c), ρ1) => if c = true then ev X b ρ1 else some (.v (.bool false), ρ1)
    | _ => none
  | .bor a b, ρ => match ev X a ρ with
    | some (.v (.bool c), ρ1) => if c = true then some (.v (.bool true), ρ1) else ev X b ρ1
    | _ => none
  | .nt a, ρ => match ev X a ρ with
    | some (.v (.bool c), ρ1) => some (.v (.bool (!c)), ρ1)
    | _ => none
  | .ifx c a b, ρ => match ev X c ρ with
    | some (.v (.bool c), ρ1) => if c = true then ev X a ρ1 else ev X b ρ1
    | _ => none
  | .sub a k, ρ => match opE a (ev X a) ρ with
    | some (r1, ρ1) => match ev X k ρ1 with
      | some (m2, ρ2) => match rd ρ2 r1 with
        | some m1 => match subM m1 m2 with
          | some m => some (m, ρ2)
          | none => none
        | none => none
      | none => none
    | none => none
  | .slc a lo hi, ρ => match opE a (ev X a) ρ with
    | some (r1, ρ1) => match (if elNo lo = true then some (none, ρ1) else match ev X lo ρ1 with
        | some (.v (.int i), ρ2) => some (some i, ρ2)
        | _ => none) with
      | some (x, ρ2) => match (if elNo hi = true then some (none, ρ2) else match ev X hi ρ2 with
          | some (.v (.int i), ρ3) => some (some i, ρ3)
          | _ => none) with
        | some (y, ρ3) => match rd ρ3 r1 with
          | some m1 => match slcM m1 x y with
            | some m => some (m, ρ3)
            | none => none
          | none => none
        | none => none
      | none => none
    | none => none
  | .rev a, ρ => match opE a (ev X a) ρ with
    | some (r1, ρ1) => match rd ρ1 r1 with
      | some m1 => match revM m1 with
        | some m => some (m, ρ1)
        | none => none
      | none => none
    | none => none
  | .call f es, ρ => match evl X es ρ with
    | some (rs, ρ1) => match pull rs ρ1 with
      | some (ms, ρ2) => match X.C f ms with
        | some (m, ms1) => some (m, putBack rs ms1 ρ2)
        | none => none
      | none => none
    | none => none
  | .bi b es, ρ => match evl X es ρ with
    | some (rs, ρ1) => match rds ρ1 rs with
      | some ms => match biM b ms with
        | some m => some (m, ρ1)
        | none => none
      | none => none
    | none => none
  | .mt m a es, ρ => match opE a (ev X a) ρ with
    | some (r1, ρ1) => if mtBase m (rd ρ1 r1) = true then match evl X es ρ1 with
        | some (rs, ρ2) => match rd ρ2 r1, rds ρ2 rs with
          | some m1, some ms => match mtM m m1 ms with
            | some x => some (x, ρ2)
            | none => none
          | _, _ => none
        | none => none
      else none
    | none => none
  | .pop i es, ρ => if isL (slot ρ i) = false then none else match evl X es ρ with
    | some (rs, ρ1) => match slot ρ1 i, rds ρ1 rs with
      | some (.l ps), some [] => match ps[ps.length - 1]? with
        | some p => some (.v p, ρ1.set i (some (.l ps.dropLast)))
        | none => none
      | some (.l ps), some [.v (.int j)] => if 0 ≤ j ∧ j < ps.length ∧ ps.length ≤ LIM then match ps[j.toNat]? with
          | some p => some (.v p, ρ1.set i (some (.l (ps.eraseIdx j.toNat))))
          | none => none
        else none
      | _, _ => none
    | none => none
  | .getn i k, ρ => if isNd (slot ρ i) = false then none else match ev X k ρ with
    | some (.v p, ρ1) => getN ρ1 i p
    | _ => none
  | .comp own tg it ts e, ρ => match lockE it ρ with
   | none => none
   | some (lk, ρ0) => match evit X it ρ0 with
    | none => none
    | some (ps, ρ1) => if ownOk X ρ1 own = false then none else match compL (bindT X tg) (evt X ts) (toPg (ev X e)) own ps ρ1 [] with
      | none => none
      | some (qs, ρ2) =>
        let ρ3 := backE ρ1 ρ2 own
        match lk with
        | none => some (.l qs, ρ3)
        | some (i, m) => some (.l qs, ρ3.set i (some m))
def evl (X : Cxt) : EL → Env → Option (List R × Env)
  | .nil, ρ => some ([], ρ)
  | .cons e r, ρ => match opE e (ev X e) ρ with
    | some (x, ρ1) => match evl X r ρ1 with
      | some (xs, ρ2) => some (x :: xs, ρ2)
      | none => none
    | none => none
def evp (X : Cxt) : EL → Env → Option (List P × Env)
  | .nil, ρ => some ([], ρ)
  | .cons e r, ρ => match ev X e ρ with
    | some (m, ρ1) => match toP m with
      | some p => match evp X r ρ1 with
        | some (ps, ρ2) => some (p :: ps, ρ2)
        | none => none
      | none => none
    | none => none
def evkv (X : Cxt) : EL → Env → Option (List (Key × M) × Env)
  | .nil, ρ => some ([], ρ)
  | .cons (.ks k) (.cons e r), ρ => match ev X e ρ with
    | some (m, ρ1) => match evkv X r ρ1 with
      | some (xs, ρ2) => if (getA xs (.inr k)).isSome = true then none else some ((.inr k, frzL m) :: xs, ρ2)
      | none => none
    | none => none
  | _, _ => none
def evt (X : Cxt) : EL → Env → Option (Bool × Env)
  | .nil, ρ => some (true, ρ)
  | .cons e .nil, ρ => match ev X e ρ with
    | some (.v (.bool b), ρ1) => some (b, ρ1)
    | _ => none
  | _, _ => none
/-- the items; a variable that is walked is locked already -/
def evit (X : Cxt) : It → Env → Option (List P × Env)
  | .of e, ρ => match ev X e ρ with
    | some (m, ρ1) => match itemsM m with
      | some ps => some (ps, ρ1)
      | none => none
    | none => none
  | .lk i, ρ => match slot ρ i with
    | some (.v p) => match itemsP p with
      | some ps => some (ps, ρ)
      | none => none
    | some (.k m) => match lkItems m with
      | some ps => some (ps, ρ)
      | none => none
    | _ => none
  | .vals i, ρ => match slot ρ i with
    | some (.k m) => match valItems m with
      | some ps => some (ps, ρ)
      | none => none
    | _ => none
  | .rg es, ρ => match evl X es ρ with
    | some (rs, ρ1) => match rds ρ1 rs with
      | some ms => match rgItems ms with
        | some ps => some (ps, ρ1)
        | none => none
      | none => none
    | none => none
  | .en e, ρ => match ev X e ρ with
    | some (m, ρ1) => match toP m with
      | some (.list ps) => some (enumP ps, ρ1)
      | _ => none
    | none => none
  | .zp a b, ρ => match ev X a ρ with
    | some (m1, ρ1) => match ev X b ρ1 with
      | some (m2, ρ2) => match zipM m1 m2 with
        | some x => some (x, ρ2)
        | none => none
      | none => none
    | none => none
end

inductive Fl where | nx | ct | bk | rt (m : M)
def forL (bd : P → Env → Option Env) (body : Env → Option (Fl × Env)) : List P → Env → Option (Fl × Env)
  | [], ρ => some (.nx, ρ)
  | p :: ps, ρ => match bd p ρ with
    | none => none
    | some ρ1 => match body ρ1 with
      | none => none
      | some (.bk, ρ2) => some (.nx, ρ2)
      | some (.rt m, ρ2) => some (.rt m, ρ2)
      | some (_, ρ2) => forL bd body ps ρ2
def whL (c : Env → Option (Bool × Env)) (body : Env → Option (Fl × Env)) : Nat → Env → Option (Fl × Env)
  | 0, _ => none
  | n + 1, ρ => match c ρ with
    | none => none
    | some (false, ρ1) => some (.nx, ρ1)
    | some (true, ρ1) => match body ρ1 with
      | none => none
      | some (.bk, ρ2) => some (.nx, ρ2)
      | some (.rt m, ρ2) => some (.rt m, ρ2)
      | some (_, ρ2) => whL c body n ρ2
def WF : Nat := 2 ^ 40
def ofB : Option (M × Env) → Option (Bool × Env)
  | some (.v (.bool b), ρ) => some (b, ρ)
  | _ => none
/-- a list's item, a dict's value is stored -/
def putM (m : M) (k : P) (x : P) : Option M := match m with
  | .l ps => match k with
    | .int i => (L2.ixN ps.length i).map fun j => .l (ps.set j x)
    | _ => none
  | .d kvs => match keyOf k with
    | some k => if kvs.length < LIM then some (.d (putA kvs k x)) else none
    | none => none
  | .n kvs => match keyOf k with
    | some k => match getA kvs k with
      | some (.v _) => if kvs.length < LIM then some (.n (putA kvs k (.v x))) else none
      | none => if kvs.length < LIM then some (.n (putA kvs k (.v x))) else none
      | _ => none
    | none => none
  | _ => none
mutual
def evs (X : Cxt) : S → Env → Option (Fl × Env)
  | .asg tg e, ρ => match ev X e ρ with
    | some (m, ρ1) => match tg, m with
      | .nm i, m => (sto X i m ρ1).map fun ρ2 => (.nx, ρ2)
      | tg, .v p => (bindT X tg p ρ1).map fun ρ2 => (.nx, ρ2)
      | _, _ => none
    | none => none
  | .par i j a b, ρ => match ev X a ρ with
    | some (m1, ρ1) => match ev X b ρ1 with
      | some (m2, ρ2) => match sto X i m1 ρ2 with
        | some ρ3 => match sto X j m2 ρ3 with
          | some ρ4 => some (.nx, ρ4)
          | none => none
        | none => none
      | none => none
    | none => none
  | .sto i k e, ρ => if (slot ρ i).isSome = false then none else match ev X e ρ with
    | some (m, ρ1) => match toP m with
      | some x => match ev X k ρ1 with
        | some (.v p, ρ2) => match slot ρ2 i with
          | some c => match putM c p x with
            | some c2 => some (.nx, ρ2.set i (some c2))
            | none => none
          | none => none
        | _ => none
      | none => none
    | none => none
  | .stn i k e, ρ => if (slot ρ i).isSome = false then none else match ev X e ρ with
    | some (m, ρ1) => match toP m with
      | some x => match ev X k ρ1 with
        | some (.v p, ρ2) => match slot ρ2 i, rkOf p with
          | some (.r kvs), some k => if kvs.length < LIM ∧ kvs.isEmpty = false ∧ rkN k = true ∧ (kvs.all fun kv => rkN kv.1) = true then some (.nx, ρ2.set i (some (.r (putA kvs k x)))) else none
          | _, _ => none
        | _ => none
      | none => none
    | none => none
  | .stt i ks e, ρ => if (slot ρ i).isSome = false then none else match ev X e ρ with
    | some (m, ρ1) => match toP m with
      | some x => match evp X ks ρ1 with
        | some (ps, ρ2) => match slot ρ2 i, keysAll ps with
          | some (.t kvs), some k => if kvs.length < LIM then some (.nx, ρ2.set i (some (.t (putA kvs k x)))) else none
          | _, _ => none
        | none => none
      | none => none
    | none => none
  | .stf i f k e, ρ => if isNd (slot ρ i) = false then none else match ev X e ρ with
    | some (m, ρ1) => match toP m with
      | some x => match slot ρ1 i with
        | some (.n kvs) => match getA kvs (.inr f) with
          | some (.d kv2) => match ev X k (ρ1.set i none) with
            | some (.v p, ρ2) => match slot ρ2 i, keyOf p with
              | none, some kk => if kv2.length < LIM then some (.nx, ρ2.set i (some (.n (putA kvs (.inr f) (.d (putA kv2 kk x)))))) else none
              | _, _ => none
            | _ => none
          | _ => none
        | _ => none
      | none => none
    | none => none
  | .app i e, ρ => if isL (slot ρ i) = false then none else match ev X e ρ with
    | some (m, ρ1) => match toP m, slot ρ1 i with
      | some p, some (.l ps) => if ps.length < LIM then some (.nx, ρ1.set i (some (.l (ps ++ [p])))) else none
      | _, _ => none
    | none => none
  | .ext i e, ρ => if isL (slot ρ i) = false then none else match ev X e ρ with
    | some (m, ρ1) => match toP m, slot ρ1 i with
      | some (.list qs), some (.l ps) => if ps.length + qs.length ≤ LIM then some (.nx, ρ1.set i (some (.l (ps ++ qs)))) else none
      | _, _ => none
    | none => none
  | .upd i e, ρ => none
  | .sda i k e, ρ => if isNd (slot ρ i) = false then none else match ev X k ρ with
    | some (.v p, ρ1) => match slot ρ1 i, keyOf p with
      | some (.n kvs), some k => match sdN kvs k with
        | none => none
        | some ps => match ev X e (ρ1.set i none) with
          | some (m, ρ2) => match toP m, slot ρ2 i with
            | some x, none => some (.nx, ρ2.set i (some (.n (putA kvs k (.l (ps ++ [x]))))))
            | _, _ => none
          | none => none
      | _, _ => none
    | _ => none
  | .expr e, ρ => match ev X e ρ with
    | some (_, ρ1) => some (.nx, ρ1)
    | none => none
  | .aug i op e, ρ => match slot ρ i, ev X e ρ with
    | some (.v (.int a)), some (.v (.int b), ρ1) => match op with
      | .add => (sto X i (.v (.int (a + b))) ρ1).map fun ρ2 => (.nx, ρ2)
      | .sub => (sto X i (.v (.int (a - b))) ρ1).map fun ρ2 => (.nx, ρ2)
      | _ => none
    | _, _ => none
  | .ifs c a b, ρ => match ofB (ev X c ρ) with
    | some (c, ρ1) => if c = true then evss X a ρ1 else evss X b ρ1
    | none => none
  | .fr tg it b, ρ => match lockE it ρ with
   | none => none
   | some (lk, ρ0) => match evit X it ρ0 with
    | none => none
    | some (ps, ρ1) => match forL (bindT X tg) (evss X b) ps ρ1 with
      | none => none
      | some (f, ρ2) => match lk with
        | none => some (f, ρ2)
        | some (i, m) => some (f, ρ2.set i (some m))
  | .wh c b, ρ => whL (fun ρ => ofB (ev X c ρ)) (evss X b) WF ρ
  | .ret e, ρ => match ev X e ρ with
    | some (m, ρ1) => some (.rt m, ρ1)
    | none => none
  | .ret0, ρ => some (.rt (.v .none), ρ)
  | .cont, ρ => some (.ct, ρ)
  | .brk, ρ => some (.bk, ρ)
  | .pass, ρ => some (.nx, ρ)
def evss (X : Cxt) : SL → Env → Option (Fl × Env)
  | .nil, ρ => some (.nx, ρ)
  | .cons s r, ρ => match evs X s ρ with
    | none => none
    | some (.nx, ρ1) => evss X r ρ1
    | some (f, ρ1) => some (f, ρ1)
end

structure Fn where
  name : Str
  np : Nat
  N : List Str
  body : SL
structure Tab where
  fs : List Fn
  gs : List (Str × P)
def isMut : M → Bool
  | .v _ => false
  | _ => true
/-- what stands first, where it is asked -/
def headOr (m : M) : Bool → Env → M
  | true, some x :: _ => x
  | _, _ => m
/-- the arguments behind the call -/
def outs : List M → Env → List M
  | [], _ => []
  | m :: ms, ρ => headOr m (isMut m) ρ :: outs ms ρ.tail
def resM : Fl → Option M
  | .nx => some (.v .none)
  | .rt m => some m
  | _ => none
def cxt (T : Tab) (C : Nat → List M → Option (M × List M)) (ms : List M) : Cxt := ⟨C, fun c => (T.gs[c]?).map (·.2), ms.map isMut⟩
def runF (T : Tab) (C : Nat → List M → Option (M × List M)) (F : Fn) (ms : List M) : Option (M × List M) :=
  if ms.length = F.np then match evss (cxt T C ms) F.body (ms.map some ++ List.replicate (F.N.length - ms.length) none) with
    | some (f, ρ) => match resM f with
      | some m => some (m, outs ms ρ)
      | none => none
    | none => none
  else none
def callF (T : Tab) : Nat → Nat → List M → Option (M × List M)
  | 0, _, _ => none
  | k + 1, f, ms => match T.fs[f]? with
    | some F => runF T (callF T k) F ms
    | none => none
end Mn
end
section
set_option maxHeartbeats 200000
namespace Mn
open PySem L2
/-- the program and the world that all goes on in -/
class WW where
  P : Program
  w : World
variable [WW]
/-- a dict that has None among its keys -/
def NoneO (a : Addr) (vs : List (Option Key × V)) : HO := .ext fun h => ∃ us : List (Option Key × Value), KV vs us ∧ us.length ≤ sizeLine ∧ h.DictOf (noneKind WW.P WW.w) a us
/-- a dict whose keys are tuples, wherever these lie -/
def TupO (a : Addr) (vs : List (List Key × Addr × V)) : HO := .ext fun h => ∃ (o : Obj) (es : Array DictEntry) (ep : Nat), h.get? a = some o ∧ o.ExactDict ∧ o.data = .dict es ep ∧ Paired (fun (p : List Key × Addr × V) (e : DictEntry) => e.key = .ref p.2.1 ∧ e.hash = (tupleKind (mixKind WW.P WW.w)).hash p.1 ∧ RelV p.2.2 e.val) vs es.toList ∧ (vs.map (·.1)).Nodup

def Sub (A B : Hp) : Prop := ∀ a o, A a = some o → B a = some o
theorem Sub.rfl' (A : Hp) : Sub A A := fun _ _ h => h
theorem Sub.trans {A B C : Hp} (h : Sub A B) (h2 : Sub B C) : Sub A C := fun a o e => h2 a o (h a o e)
def KeyOk : Key → Prop
  | .inl _ => True
  | .inr x => PyData.strOk x = true ∧ x.length ≤ sizeLine

mutual
inductive Rep (K : PySem.W.Frag) (Z : Hp) : V → P → Prop
  | non : Rep K Z .non .none
  | bl (b : Bool) : Rep K Z (.bl b) (.bool b)
  | int (i : Int) : Rep K Z (.int i) (.int i)
  | str (x : Str) : PyData.strOk x = true → x.length ≤ sizeLine → Rep K Z (.str x) (.str x)
  | tup {a : Addr} {vs : List V} {ps : List P} : SqT K Z a vs → RepL K Z vs ps → Rep K Z (.ref a) (.tuple ps)
  | lst {a : Addr} {vs : List V} {ps : List P} : Z a = some (.lst vs) → RepL K Z vs ps → Rep K Z (.ref a) (.list ps)
  | dk {a : Addr} {o : Obj} {kvs : List (Key × V)} {ps : List (P × P)} : Z a = some (.frz o (.dK kvs)) → RepK K Z kvs ps → Rep K Z (.ref a) (.dict ps)
  | dt {a : Addr} {o : Obj} {kvs : List (List Key × V)} {ps : List (P × P)} : Z a = some (.frz o (.dT kvs)) → RepT K Z kvs ps → Rep K Z (.ref a) (.dict ((.none, .none) :: ps))
inductive RepL (K : PySem.W.Frag) (Z : Hp) : List V → List P → Prop
  | nil : RepL K Z [] []
  | cons {v : V} {vs : List V} {p : P} {ps : List P} : Rep K Z v p → RepL K Z vs ps → RepL K Z (v :: vs) (p :: ps)
inductive RepK (K : PySem.W.Frag) (Z : Hp) : List (Key × V) → List (P × P) → Prop
  | nil : RepK K Z [] []
  | cons {k : Key} {v : V} {kvs : List (Key × V)} {p : P} {ps : List (P × P)} : KeyOk k → Rep K Z v p → RepK K Z kvs ps → RepK K Z ((k, v) :: kvs) ((ofKey k, p) :: ps)
inductive RepT (K : PySem.W.Frag) (Z : Hp) : List (List Key × V) → List (P × P) → Prop
  | nil : RepT K Z [] []
  | cons {k : List Key} {v : V} {kvs : List (List Key × V)} {p : P} {ps : List (P × P)} : (∀ x ∈ k, KeyOk x) → Rep K Z v p → RepT K Z kvs ps → RepT K Z ((k, v) :: kvs) ((ofKeys k, p) :: ps)
end

section
variable {K : PySem.W.Frag} {Z Z' : Hp}
theorem sqT_sub (s : Sub Z Z') {a : Addr} {vs : List V} (h : SqT K Z a vs) : SqT K Z' a vs := by
  rcases h with (h | ⟨o, h⟩) | h
  · exact .inl (.inl (s _ _ h))
  · exact .inl (.inr ⟨o, s _ _ h⟩)
  · exact .inr h
theorem sqL_sub (s : Sub Z Z') {a : Addr} {vs : List V} (h : SqL K Z a vs) : SqL K Z' a vs := by
  rcases h with (h | ⟨o, h⟩) | h
  · exact .inl (.inl (s _ _ h))
  · exact .inl (.inr ⟨o, s _ _ h⟩)
  · exact .inr h
mutual
theorem Rep.sub (s : Sub Z Z') : ∀ {v : V} {p : P}, Rep K Z v p → Rep K Z' v p
  | _, _, .non => .non
  | _, _, .bl b => .bl b
  | _, _, .int i => .int i
  | _, _, .str x h h2 => .str x h h2
  | _, _, .tup h r => .tup (sqT_sub s h) (RepL.sub s r)
  | _, _, .lst h r => .lst (s _ _ h) (RepL.sub s r)
  | _, _, .dk h r => .dk (s _ _ h) (RepK.sub s r)
  | _, _, .dt h r => .dt (s _ _ h) (RepT.sub s r)
theorem RepL.sub (s : Sub Z Z') : ∀ {v : List V} {p : List P}, RepL K Z v p → RepL K Z' v p
  | _, _, .nil => .nil
  | _, _, .cons h r => .cons (Rep.sub s h) (RepL.sub s r)
theorem RepK.sub (s : Sub Z Z') : ∀ {v : List (Key × V)} {p : List (P × P)}, RepK K Z v p → RepK K Z' v p
  | _, _, .nil => .nil
  | _, _, .cons k h r => .cons k (Rep.sub s h) (RepK.sub s r)
theorem RepT.sub (s : Sub Z Z') : ∀ {v : List (List Key × V)} {p : List (P × P)}, RepT K Z v p → RepT K Z' v p
  | _, _, .nil => .nil
  | _, _, .cons k h r => .cons k (Rep.sub s h) (RepT.sub s r)
end
theorem RepL.length : ∀ {vs : List V} {ps : List P}, RepL K Z vs ps → vs.length = ps.length
  | _, _, .nil => rfl
  | _, _, .cons _ r => congrArg (· + 1) r.length
theorem RepL.app : ∀ {vs ws : List V} {ps qs : List P}, RepL K Z vs ps → RepL K Z ws qs → RepL K Z (vs ++ ws) (ps ++ qs)
  | _, _, _, _, .nil, h => h
  | _, _, _, _, .cons a r, h => .cons a (r.app h)
theorem RepL.one {v : V} {p : P} (h : Rep K Z v p) : RepL K Z [v] [p] := .cons h .nil
theorem RepL.get : ∀ {vs : List V} {ps : List P} {i : Nat} {p : P}, RepL K Z vs ps → ps[i]? = some p → ∃ v, vs[i]? = some v ∧ Rep K Z v p
  | _, _, _, _, .nil, h => by simp at h
  | _, _, 0, _, .cons a _, h => by simp at h; subst h; exact ⟨_, rfl, a⟩
  | _, _, i + 1, _, .cons _ r, h => by
    obtain ⟨v, h1, h2⟩ := r.get (i := i) (by simpa using h)
    exact ⟨v, by simpa using h1, h2⟩
theorem RepL.getV : ∀ {vs : List V} {ps : List P} {i : Nat} {v : V}, RepL K Z vs ps → vs[i]? = some v → ∃ p, ps[i]? = some p ∧ Rep K Z v p
  | _, _, _, _, .nil, h => by simp at h
  | _, _, 0, _, .cons a _, h => by simp at h; subst h; exact ⟨_, rfl, a⟩
  | _, _, i + 1, _, .cons _ r, h => by
    obtain ⟨v, h1, h2⟩ := r.getV (i := i) (by simpa using h)
    exact ⟨v, by simpa using h1, h2⟩
theorem RepL.drop : ∀ {vs : List V} {ps : List P} (n : Nat), RepL K Z vs ps → RepL K Z (vs.drop n) (ps.drop n)
  | _, _, 0, r => r
  | _, _, _ + 1, .nil => .nil
  | _, _, n + 1, .cons _ r => r.drop n
theorem RepL.take : ∀ {vs : List V} {ps : List P} (n : Nat), RepL K Z vs ps → RepL K Z (vs.take n) (ps.take n)
  | _, _, 0, _ => .nil
  | _, _, _ + 1, .nil => .nil
  | _, _, n + 1, .cons a r => .cons a (r.take n)
theorem RepL.set {v : V} {p : P} (h : Rep K Z v p) : ∀ {vs : List V} {ps : List P} (n : Nat), RepL K Z vs ps → RepL K Z (vs.set n v) (ps.set n p)
  | _, _, _, .nil => .nil
  | _, _, 0, .cons _ r => .cons h r
  | _, _, n + 1, .cons a r => .cons a (r.set h n)
theorem RepL.rev {vs : List V} {ps : List P} (h : RepL K Z vs ps) : RepL K Z vs.reverse ps.reverse := by
  induction vs generalizing ps with
  | nil => cases h; exact .nil
  | cons v vs ih =>
    cases h with
    | cons a r =>
      rw [List.reverse_cons, List.reverse_cons]
      exact (ih r).app (.one a)
theorem RepL.dropLast : ∀ {vs : List V} {ps : List P}, RepL K Z vs ps → RepL K Z vs.dropLast ps.dropLast := fun {vs ps} r => by
  rw [List.dropLast_eq_take, List.dropLast_eq_take, r.length]
  exact r.take _
theorem RepL.erase : ∀ {vs : List V} {ps : List P} (n : Nat), RepL K Z vs ps → RepL K Z (vs.eraseIdx n) (ps.eraseIdx n)
  | _, _, _, .nil => .nil
  | _, _, 0, .cons _ r => r
  | _, _, n + 1, .cons a r => .cons a (r.erase n)
theorem RepL.rep {vs : List V} {ps : List P} (h : RepL K Z vs ps) : ∀ n : Nat, RepL K Z (List.replicate n vs).flatten (List.replicate n ps).flatten
  | 0 => .nil
  | n + 1 => by
    rw [List.replicate_succ, List.replicate_succ, List.flatten_cons, List.flatten_cons]
    exact h.app (h.rep n)

mutual
theorem Rep.dp {H : Hp} (s : Sub Z H) : ∀ {v : V} {p : P}, Rep K Z v p → (¬ PyData.canLay0 p = true) ∨ Dp K H v p
  | _, _, .non => .inr .non
  | _, _, .bl b => .inr (.bl b)
  | _, _, .int i => .inr (.int i)
  | _, _, .str x _ _ => .inr (.str x)
  | _, _, .tup (ps := ps) h r => by
    rcases RepL.dp s r with q | q
    · exact .inl (by simpa only [PyData.canLay0] using q)
    · exact .inr (.tup (sqT_sub s h) q)
  | _, _, .lst (ps := ps) h r => by
    rcases RepL.dp s r with q | q
    · exact .inl (by simpa only [PyData.canLay0] using q)
    · exact .inr (.lst (.inl (.inl (s _ _ h))) q)
  | _, _, .dk _ _ => .inl (by simp [PyData.canLay0])
  | _, _, .dt _ _ => .inl (by simp [PyData.canLay0])
theorem RepL.dp {H : Hp} (s : Sub Z H) : ∀ {v : List V} {p : List P}, RepL K Z v p → (¬ PyData.canLayAll0 p = true) ∨ DpAll K H v p
  | _, _, .nil => .inr .nil
  | _, _, .cons h r => by
    rcases Rep.dp s h with q | q
    · exact .inl (by simp [PyData.canLayAll0, q])
    · rcases RepL.dp s r with q2 | q2
      · exact .inl (by simp [PyData.canLayAll0, q2])
      · exact .inr (.cons q q2)
end
mutual
theorem Rep.lay : ∀ {v : V} {p : P}, Rep K Z v p → noD p = true → PyData.canLay0 p = true
  | _, _, .non, _ => by simp [PyData.canLay0]
  | _, _, .bl b, _ => by simp [PyData.canLay0]
  | _, _, .int i, _ => by simp [PyData.canLay0]
  | _, _, .str x h _, _ => by simpa [PyData.canLay0] using h
  | _, _, .tup _ r, h => by
    simp only [PyData.canLay0]
    exact RepL.lay r (by simpa [noD] using h)
  | _, _, .lst _ r, h => by
    simp only [PyData.canLay0]
    exact RepL.lay r (by simpa [noD] using h)
  | _, _, .dk _ _, h => by simp [noD] at h
  | _, _, .dt _ _, h => by simp [noD] at h
theorem RepL.lay : ∀ {v : List V} {p : List P}, RepL K Z v p → noDs p = true → PyData.canLayAll0 p = true
  | _, _, .nil, _ => by simp [PyData.canLayAll0]
  | _, _, .cons h r, q => by
    simp only [noDs, Bool.and_eq_true] at q
    simp [PyData.canLayAll0, Rep.lay h q.1, RepL.lay r q.2]
end
end

abbrev DRel (K : PySem.W.Frag) (Z : Hp) : List (Key × V) → List (Key × P) → Prop := Paired fun x y => x.1 = y.1 ∧ KeyOk y.1 ∧ Rep K Z x.2 y.2
abbrev NRel (K : PySem.W.Frag) (Z : Hp) : List (Option Key × V) → List (RK × P) → Prop := Paired fun x y => y.1 = .inl x.1 ∧ (∀ k, x.1 = some k → KeyOk k) ∧ Rep K Z x.2 y.2
abbrev URel (K : PySem.W.Frag) (Z : Hp) : List (List Key × Addr × V) → List (RK × P) → Prop := Paired fun x y => y.1 = .inr x.1 ∧ (∀ k ∈ x.1, KeyOk k) ∧ SqT K Z x.2.1 (x.1.map kV) ∧ Rep K Z x.2.2 y.2
abbrev TRel (K : PySem.W.Frag) (Z : Hp) : List (List Key × V) → List (List Key × P) → Prop := Paired fun x y => x.1 = y.1 ∧ (∀ k ∈ y.1, KeyOk k) ∧ Rep K Z x.2 y.2
mutual
inductive Own (K : PySem.W.Frag) (Z H : Hp) : M → V → List Addr → Prop
  | v {x : V} {p : P} : Rep K Z x p → Own K Z H (.v p) x []
  | l {a : Addr} {vs : List V} {ps : List P} : H a = some (.lst vs) → Z a = none → RepL K Z vs ps → Own K Z H (.l ps) (.ref a) [a]
  | d {a : Addr} {vs : List (Key × V)} {ps : List (Key × P)} : H a = some (.dK vs) → Z a = none → DRel K Z vs ps → Own K Z H (.d ps) (.ref a) [a]
  | t {a : Addr} {vs : List (List Key × V)} {ps : List (List Key × P)} : H a = some (.dT vs) → Z a = none → TRel K Z vs ps → Own K Z H (.t ps) (.ref a) [a]
  | n {a : Addr} {vs : List (Key × V)} {ms : List (Key × M)} {G : List Addr} : H a = some (.dK vs) → Z a = none → OwnN K Z H ms vs G → a ∉ G → Own K Z H (.n ms) (.ref a) (a :: G)
  | s {a : Addr} {ns : List Int} : SqL K Z a (ns.map V.int) → ns.length ≤ sizeLine → Own K Z H (.s ns) (.ref a) []
  | kl {a : Addr} {vs : List V} {ps : List P} : H a = some (.lst vs) → Z a = none → RepL K Z vs ps → Own K Z H (.k (.l ps)) (.ref a) [a]
  | kd {a : Addr} {o : Obj} {vs : List (Key × V)} {ps : List (Key × P)} : H a = some (.frz o (.dK vs)) → Z a = none → DRel K Z vs ps → Own K Z H (.k (.d ps)) (.ref a) [a]
  | kt {a : Addr} {o : Obj} {vs : List (List Key × V)} {ps : List (List Key × P)} : H a = some (.frz o (.dT vs)) → Z a = none → TRel K Z vs ps → Own K Z H (.k (.t ps)) (.ref a) [a]
  | rn {a : Addr} {vs : List (Option Key × V)} {ps : List (RK × P)} : H a = some (NoneO a vs) → Z a = none → NRel K Z vs ps → Own K Z H (.r ps) (.ref a) [a]
  | rt {a : Addr} {vs : List (List Key × Addr × V)} {ps : List (RK × P)} : H a = some (TupO a vs) → Z a = none → URel K Z vs ps → Own K Z H (.r ps) (.ref a) [a]
inductive OwnN (K : PySem.W.Frag) (Z H : Hp) : List (Key × M) → List (Key × V) → List Addr → Prop
  | nil : OwnN K Z H [] [] []
  | cons {k : Key} {m : M} {v : V} {ms : List (Key × M)} {vs : List (Key × V)} {G G2 : List Addr} : KeyOk k → getA ms k = none → Own K Z H m v G → OwnN K Z H ms vs G2 → (∀ a ∈ G, a ∉ G2) → OwnN K Z H ((k, m) :: ms) ((k, v) :: vs) (G ++ G2)
end
section
variable {K : PySem.W.Frag} {Z Z' H H' : Hp}
theorem dRel_sub (s : Sub Z Z') {vs : List (Key × V)} {ps : List (Key × P)} (h : DRel K Z vs ps) : DRel K Z' vs ps := Paired.mapP h fun _ _ q => ⟨q.1, q.2.1, q.2.2.sub s⟩
theorem tRel_sub (s : Sub Z Z') {vs : List (List Key × V)} {ps : List (List Key × P)} (h : TRel K Z vs ps) : TRel K Z' vs ps := Paired.mapP h fun _ _ q => ⟨q.1, q.2.1, q.2.2.sub s⟩
theorem nRel_sub (s : Sub Z Z') {vs : List (Option Key × V)} {ps : List (RK × P)} (h : NRel K Z vs ps) : NRel K Z' vs ps := Paired.mapP h fun _ _ q => ⟨q.1, q.2.1, q.2.2.sub s⟩
theorem uRel_sub (s : Sub Z Z') {vs : List (List Key × Addr × V)} {ps : List (RK × P)} (h : URel K Z vs ps) : URel K Z' vs ps := Paired.mapP h fun _ _ q => ⟨q.1, q.2.1, sqT_sub s q.2.2.1, q.2.2.2.sub s⟩
def notTup : HO → Prop
  | .tup _ => False
  | _ => True
mutual
theorem Own.at_ : ∀ {m : M} {v : V} {G : List Addr}, Own K Z H m v G → ∀ a ∈ G, Z a = none ∧ ∃ o, H a = some o ∧ notTup o
  | _, _, _, .v _ => fun _ h => nomatch h
  | _, _, _, .l h z _ => fun a e => by simp at e; subst e; exact ⟨z, _, h, trivial⟩
  | _, _, _, .d h z _ => fun a e => by simp at e; subst e; exact ⟨z, _, h, trivial⟩
  | _, _, _, .t h z _ => fun a e => by simp at e; subst e; exact ⟨z, _, h, trivial⟩
  | _, _, _, .n h z r _ => fun a e => by
    rcases List.mem_cons.mp e with e | e
    · subst e; exact ⟨z, _, h, trivial⟩
    · exact OwnN.at_ r a e
  | _, _, _, .s _ _ => fun _ h => nomatch h
  | _, _, _, .kl h z _ => fun a e => by simp at e; subst e; exact ⟨z, _, h, trivial⟩
  | _, _, _, .kd h z _ => fun a e => by simp at e; subst e; exact ⟨z, _, h, trivial⟩
  | _, _, _, .kt h z _ => fun a e => by simp at e; subst e; exact ⟨z, _, h, trivial⟩
  | _, _, _, .rn h z _ => fun a e => by simp at e; subst e; exact ⟨z, _, h, trivial⟩
  | _, _, _, .rt h z _ => fun a e => by simp at e; subst e; exact ⟨z, _, h, trivial⟩
theorem OwnN.at_ : ∀ {m : List (Key × M)} {v : List (Key × V)} {G : List Addr}, OwnN K Z H m v G → ∀ a ∈ G, Z a = none ∧ ∃ o, H a = some o ∧ notTup o
  | _, _, _, .nil => fun _ h => nomatch h
  | _, _, _, .cons _ _ h r _ => fun a e => by
    rcases List.mem_append.mp e with e | e
    · exact Own.at_ h a e
    · exact OwnN.at_ r a e
end
mutual
theorem Own.keep (s : Sub Z Z') : ∀ {m : M} {v : V} {G : List Addr}, Own K Z H m v G → (∀ a ∈ G, ∀ o, H a = some o → H' a = some o) → (∀ a ∈ G, Z' a = none) → Own K Z' H' m v G
  | _, _, _, .v h => fun _ _ => .v (h.sub s)
  | _, _, _, .l h z r => fun k n => .l (k _ (by simp) _ h) (n _ (by simp)) (r.sub s)
  | _, _, _, .d h z r => fun k n => .d (k _ (by simp) _ h) (n _ (by simp)) (dRel_sub s r)
  | _, _, _, .t h z r => fun k n => .t (k _ (by simp) _ h) (n _ (by simp)) (tRel_sub s r)
  | _, _, _, .n h z r q => fun k n => .n (k _ (by simp) _ h) (n _ (by simp)) (OwnN.keep s r (fun a e => k a (List.mem_cons_of_mem _ e)) fun a e => n a (List.mem_cons_of_mem _ e)) q
  | _, _, _, .s h z => fun _ _ => .s (sqL_sub s h) z
  | _, _, _, .kl h z r => fun k n => .kl (k _ (by simp) _ h) (n _ (by simp)) (r.sub s)
  | _, _, _, .kd h z r => fun k n => .kd (k _ (by simp) _ h) (n _ (by simp)) (dRel_sub s r)
  | _, _, _, .kt h z r => fun k n => .kt (k _ (by simp) _ h) (n _ (by simp)) (tRel_sub s r)
  | _, _, _, .rn h z r => fun k n => .rn (k _ (by simp) _ h) (n _ (by simp)) (nRel_sub s r)
  | _, _, _, .rt h z r => fun k n => .rt (k _ (by simp) _ h) (n _ (by simp)) (uRel_sub s r)
theorem OwnN.keep (s : Sub Z Z') : ∀ {m : List (Key × M)} {v : List (Key × V)} {G : List Addr}, OwnN K Z H m v G → (∀ a ∈ G, ∀ o, H a = some o → H' a = some o) → (∀ a ∈ G, Z' a = none) → OwnN K Z' H' m v G
  | _, _, _, .nil => fun _ _ => .nil
  | _, _, _, .cons ko kn h r q => fun k n => .cons ko kn (Own.keep s h (fun a e => k a (List.mem_append_left _ e)) fun a e => n a (List.mem_append_left _ e)) (OwnN.keep s r (fun a e => k a (List.mem_append_right _ e)) fun a e => n a (List.mem_append_right _ e)) q
end
end

abbrev AS := Addr → Prop
def U (F : Nat → List Addr) : AS := fun a => ∃ i, a ∈ F i
structure Rel (K : PySem.W.Frag) (Z H : Hp) (σ : St) (ρ : Env) (F : Nat → List Addr) : Prop where
  sub : Sub Z H
  len : σ.length = ρ.length
  own : ∀ i m, slot ρ i = some m → ∃ v, σ[i]? = some (some v) ∧ Own K Z H m v (F i)
  no : ∀ i, slot ρ i = none → F i = []
  dj : ∀ i j a, a ∈ F i → a ∈ F j → i = j
/-- what a piece of code may do: A is what the variables own ahead, A' behind -/
structure Step (Z H Z' H' : Hp) (A A' : AS) : Prop where
  fr : ∀ a o, H a = some o → ¬ A a → H' a = some o
  zz : Sub Z Z'
  zn : ∀ a o, Z' a = some o → Z a = some o ∨ A a ∨ H a = none ∨ ∃ xs, o = .tup xs
  an : ∀ a, A' a → A a ∨ H a = none
  fz : ∀ a o u, H a = some (.frz o u) → H' a = some (.frz o u)
section
variable {K : PySem.W.Frag} {Z H Z' H' Z2 H2 : Hp} {A A' A2 : AS} {σ : St} {ρ ρ' : Env} {F F' : Nat → List Addr}
theorem Step.refl (A : AS) : Step Z H Z H A A := ⟨fun _ _ h _ => h, Sub.rfl' _, fun _ _ h => .inl h, fun _ h => .inl h, fun _ _ _ h => h⟩
theorem Step.trans (x : Step Z H Z' H' A A') (y : Step Z' H' Z2 H2 A' A2) : Step Z H Z2 H2 A A2 where
  fr := fun a o h n => y.fr a o (x.fr a o h n) fun q => by
    rcases x.an a q with q | q
    · exact n q
    · rw [q] at h; cases h
  zz := x.zz.trans y.zz
  zn := fun a o h => by
    rcases y.zn a o h with h | h | h | h
    · exact x.zn a o h
    · rcases x.an a h with h | h
      · exact .inr (.inl h)
      · exact .inr (.inr (.inl h))
    · by_cases q : A a
      · exact .inr (.inl q)
      · cases e : H a with
        | none => exact .inr (.inr (.inl rfl))
        | some u => rw [x.fr a u e q] at h; cases h
    · exact .inr (.inr (.inr h))
  an := fun a h => by
    rcases y.an a h with h | h
    · exact x.an a h
    · by_cases q : A a
      · exact .inl q
      · cases e : H a with
        | none => exact .inr rfl
        | some u => rw [x.fr a u e q] at h; cases h
  fz := fun a o u h => y.fz a o u (x.fz a o u h)
/-- what stands apart from the variables stays -/
theorem Own.step {m : M} {v : V} {G : List Addr} (o : Own K Z H m v G) (d : ∀ a ∈ G, ¬ A a) (x : Step Z H Z' H' A A') (s : Sub Z' H') : Own K Z' H' m v G ∧ ∀ a ∈ G, ¬ A' a := by
  refine ⟨o.keep x.zz (fun a e u h => x.fr a u h (d a e)) fun a e => ?_, fun a e q => ?_⟩
  · obtain ⟨z, u, hu, nt⟩ := o.at_ a e
    cases q : Z' a with
    | none => rfl
    | some w =>
      have h1 := s a w q
      rw [x.fr a u hu (d a e)] at h1
      cases h1
      rcases x.zn a _ q with h | h | h | ⟨xs, h⟩
      · rw [z] at h; cases h
      · exact absurd h (d a e)
      · rw [hu] at h; cases h
      · subst h; exact nt.elim
  · obtain ⟨z, u, hu, nt⟩ := o.at_ a e
    rcases x.an a q with h | h
    · exact d a e h
    · rw [hu] at h; cases h
theorem OwnN.step {m : List (Key × M)} {v : List (Key × V)} {G : List Addr} (o : OwnN K Z H m v G) (d : ∀ a ∈ G, ¬ A a) (x : Step Z H Z' H' A A') (s : Sub Z' H') : OwnN K Z' H' m v G ∧ ∀ a ∈ G, ¬ A' a := by
  refine ⟨o.keep x.zz (fun a e u h => x.fr a u h (d a e)) fun a e => ?_, fun a e q => ?_⟩
  · obtain ⟨z, u, hu, nt⟩ := o.at_ a e
    cases q : Z' a with
    | none => rfl
    | some w =>
      have h1 := s a w q
      rw [x.fr a u hu (d a e)] at h1
      cases h1
      rcases x.zn a _ q with h | h | h | ⟨xs, h⟩
      · rw [z] at h; cases h
      · exact absurd h (d a e)
      · rw [hu] at h; cases h
      · subst h; exact nt.elim
  · obtain ⟨z, u, hu, nt⟩ := o.at_ a e
    rcases x.an a q with h | h
    · exact d a e h
    · rw [hu] at h; cases h
theorem RepL.step {vs : List V} {ps : List P} (r : RepL K Z vs ps) (x : Step Z H Z' H' A A') : RepL K Z' vs ps := r.sub x.zz

/-- something new is laid: Z or the heap grows, the result owns G -/
structure Alloc (Z H Z' H' : Hp) (G : List Addr) : Prop where
  hh : Sub H H'
  zz : Sub Z Z'
  zh : Sub Z' H'
  zn : ∀ a o, Z' a = some o → Z a = some o ∨ H a = none ∨ ∃ xs, o = .tup xs
  gn : ∀ a ∈ G, H a = none
theorem Alloc.refl (s : Sub Z H) : Alloc Z H Z H [] := ⟨Sub.rfl' _, Sub.rfl' _, s, fun _ _ h => .inl h, fun _ h => nomatch h⟩
theorem sub_upd {H : Hp} {p : Addr} {o : HO} (h : H p = none) : Sub H (upd H p o) := fun a u e => by rw [upd_ne (ne_of_none e h)]; exact e
/-- a new list, dict of one's own -/
theorem Alloc.own {p : Addr} {o : HO} (s : Sub Z H) (h : H p = none) : Alloc Z H Z (upd H p o) [p] :=
  ⟨sub_upd h, Sub.rfl' _, s.trans (sub_upd h), fun _ _ h => .inl h, fun a e => by simp at e; subst e; exact h⟩
/-- a new tuple, a new frozen thing -/
theorem Alloc.imm {p : Addr} {o : HO} (s : Sub Z H) (h : H p = none) : Alloc Z H (upd Z p o) (upd H p o) [] := by
  have hz : Z p = none := by
    cases e : Z p with
    | none => rfl
    | some u => rw [s _ _ e] at h; cases h
  refine ⟨sub_upd h, sub_upd hz, fun a u e => ?_, fun a u e => ?_, fun _ h => nomatch h⟩
  · by_cases q : a = p
    · subst q; rw [upd_same] at e; rw [upd_same]; exact e
    · rw [upd_ne q] at e; rw [upd_ne q]; exact s _ _ e
  · by_cases q : a = p
    · subst q; exact .inr (.inl h)
    · rw [upd_ne q] at e; exact .inl e
theorem Alloc.step {G : List Addr} (x : Alloc Z H Z' H' G) (A : AS) : Step Z H Z' H' A A :=
  ⟨fun a o h _ => x.hh a o h, x.zz, fun a o h => by
    rcases x.zn a o h with h | h | h
    · exact .inl h
    · exact .inr (.inr (.inl h))
    · exact .inr (.inr (.inr h)), fun _ h => .inl h, fun a o u h => x.hh a _ h⟩
theorem Own.alloc {m : M} {v : V} {G G' : List Addr} (o : Own K Z H m v G) (x : Alloc Z H Z' H' G') : Own K Z' H' m v G :=
  (o.step (A := fun _ => False) (fun _ _ h => h) (x.step _) x.zh).1
theorem Rel.alloc {G : List Addr} (R : Rel K Z H σ ρ F) (x : Alloc Z H Z' H' G) : Rel K Z' H' σ ρ F :=
  ⟨x.zh, R.len, fun i m e => by
    obtain ⟨v, h1, h2⟩ := R.own i m e
    exact ⟨v, h1, h2.alloc x⟩, R.no, R.dj⟩
theorem Rel.apart {G : List Addr} (R : Rel K Z H σ ρ F) (h : ∀ a ∈ G, H a = none) : ∀ a ∈ G, ¬ U F a := fun a e ⟨i, q⟩ => by
  cases s : slot ρ i with
  | none => rw [R.no i s] at q; cases q
  | some m =>
    obtain ⟨v, _, o⟩ := R.own i m s
    obtain ⟨_, u, hu, _⟩ := o.at_ a q
    rw [h a e] at hu; cases hu
theorem Rel.mem (R : Rel K Z H σ ρ F) {a : Addr} (h : U F a) : Z a = none ∧ ∃ o, H a = some o ∧ notTup o := by
  obtain ⟨i, q⟩ := h
  cases s : slot ρ i with
  | none => rw [R.no i s] at q; cases q
  | some m =>
    obtain ⟨v, _, o⟩ := R.own i m s
    exact o.at_ a q
end
end Mn
end
section
set_option maxHeartbeats 200000
namespace Mn
open PySem L2
variable [WW]

/-- what is asked of an operation on values: m is its answer -/
abbrev Ask (K : PySem.W.Frag) (Z H : Hp) (m : M) (Q : VK) : Prop := ∀ Z' H' v G, Alloc Z H Z' H' G → Own K Z' H' m v G → Q v H'
section
variable {K : PySem.W.Frag} {Z H : Hp} {a b m : M} {x y : V} {Ga Gb : List Addr} {Q : VK}
theorem Ask.imm (q : Ask K Z H (.v p) Q) (s : Sub Z H) (h : Rep K Z v p) : Q v H := q Z H v [] (.refl s) (.v h)
theorem Ask.lst {qs : List P} {vs : List V} (q : Ask K Z H (.l qs) Q) (s : Sub Z H) (r : RepL K Z vs qs) : ∀ p, H p = none → Q (.ref p) (upd H p (.lst vs)) := fun p hp =>
  q Z _ (.ref p) [p] (.own s hp) (.l upd_same (by
    cases e : Z p with
    | none => rfl
    | some u => rw [s _ _ e] at hp; cases hp) r)
theorem Ask.tup {qs : List P} {vs : List V} (q : Ask K Z H (.v (.tuple qs)) Q) (s : Sub Z H) (r : RepL K Z vs qs) : ∀ p, H p = none → Q (.ref p) (upd H p (.tup vs)) := fun p hp =>
  q (upd Z p (.tup vs)) _ (.ref p) [] (.imm s hp) (.v (.tup (.inl (.inl upd_same)) (r.sub (sub_upd (by
    cases e : Z p with
    | none => rfl
    | some u => rw [s _ _ e] at hp; cases hp)))))
/-- what a read-only look sees -/
inductive View (K : PySem.W.Frag) (Z H : Hp) : M → V → Prop
  | v {x : V} {p : P} : Rep K Z x p → View K Z H (.v p) x
  | l {a : Addr} {vs : List V} {ps : List P} : H a = some (.lst vs) → RepL K Z vs ps → View K Z H (.l ps) (.ref a)
  | d {a : Addr} {vs : List (Key × V)} {ps : List (Key × P)} : Rd H a (.dK vs) → DRel K Z vs ps → View K Z H (.d ps) (.ref a)
  | t {a : Addr} {vs : List (List Key × V)} {ps : List (List Key × P)} : Rd H a (.dT vs) → TRel K Z vs ps → View K Z H (.t ps) (.ref a)
  | n {a : Addr} {vs : List (Key × V)} {ms : List (Key × M)} {G : List Addr} : H a = some (.dK vs) → OwnN K Z H ms vs G → View K Z H (.n ms) (.ref a)
  | s {a : Addr} {ns : List Int} : SqL K Z a (ns.map V.int) → ns.length ≤ sizeLine → View K Z H (.s ns) (.ref a)
  | rn {a : Addr} {vs : List (Option Key × V)} {ps : List (RK × P)} : H a = some (NoneO a vs) → NRel K Z vs ps → View K Z H (.r ps) (.ref a)
  | rt {a : Addr} {vs : List (List Key × Addr × V)} {ps : List (RK × P)} : H a = some (TupO a vs) → URel K Z vs ps → View K Z H (.r ps) (.ref a)
theorem Own.view : ∀ {m : M} {x : V} {G : List Addr}, Own K Z H m x G → View K Z H (vw m) x
  | _, _, _, .v h => .v h
  | _, _, _, .l h _ r => .l h r
  | _, _, _, .d h _ r => .d (.inl h) r
  | _, _, _, .t h _ r => .t (.inl h) r
  | _, _, _, .n h _ r _ => .n h r
  | _, _, _, .s h z => .s h z
  | _, _, _, .kl h _ r => .l h r
  | _, _, _, .kd h _ r => .d (.inr ⟨_, h⟩) r
  | _, _, _, .kt h _ r => .t (.inr ⟨_, h⟩) r
  | _, _, _, .rn h _ r => .rn h r
  | _, _, _, .rt h _ r => .rt h r
theorem View.int {i : Int} (h : View K Z H (.v (.int i)) x) : x = .int i := by
  cases h with
  | v h => cases h; rfl
theorem View.bl {i : Bool} (h : View K Z H (.v (.bool i)) x) : x = .bl i := by
  cases h with
  | v h => cases h; rfl
theorem View.str {i : Str} (h : View K Z H (.v (.str i)) x) : x = .str i ∧ PyData.strOk i = true ∧ i.length ≤ sizeLine := by
  cases h with
  | v h => cases h; exact ⟨rfl, by assumption, by assumption⟩
theorem View.tup {ps : List P} (h : View K Z H (.v (.tuple ps)) x) : ∃ a vs, x = .ref a ∧ SqT K Z a vs ∧ RepL K Z vs ps := by
  cases h with
  | v h => cases h; exact ⟨_, _, rfl, by assumption, by assumption⟩
/-- a list of one's own or a frozen one -/
theorem View.lstv (s : Sub Z H) {ps : List P} (h : View K Z H (.v (.list ps)) x) : ∃ a vs, x = .ref a ∧ H a = some (.lst vs) ∧ RepL K Z vs ps := by
  cases h with
  | v h =>
    cases h
    rename_i h r
    exact ⟨_, _, rfl, s _ _ h, r⟩
theorem View.lstl {ps : List P} (h : View K Z H (.l ps) x) : ∃ a vs, x = .ref a ∧ H a = some (.lst vs) ∧ RepL K Z vs ps := by
  cases h with
  | l h r => exact ⟨_, _, rfl, h, r⟩
theorem LIM_line : LIM ≤ sizeLine := by rw [sizeLine_eq]; decide
theorem lim_le {n : Nat} (h : n ≤ LIM) : n ≤ sizeLine := Nat.le_trans h LIM_line

theorem strOk_iff {z : Str} : PyData.strOk z = true ↔ ∀ c ∈ z.cps.toList, c < 0x110000 := by
  unfold PyData.strOk
  rw [← Array.all_toList, List.all_eq_true]
  simp
theorem app_list (x y : Str) : (x ++ y).cps.toList = x.cps.toList ++ y.cps.toList := by
  show (x.cps ++ y.cps).toList = _
  simp
theorem app_len (x y : Str) : (x ++ y).length = x.length + y.length := by
  show (x.cps ++ y.cps).size = x.cps.size + y.cps.size
  simp
theorem rep_str_app {x y : Str} (h1 : PyData.strOk x = true) (h2 : PyData.strOk y = true) (h : x.length + y.length ≤ LIM) : Rep K Z (.str (x ++ y)) (.str (x ++ y)) := by
  refine .str _ ?_ (by rw [app_len]; exact lim_le h)
  rw [strOk_iff] at h1 h2 ⊢
  intro c hc
  rw [app_list] at hc
  rcases List.mem_append.mp hc with hc | hc
  · exact h1 c hc
  · exact h2 c hc
theorem rep_sub {x y : Str} (h1 : PyData.strOk x = true) (hl : x.length ≤ sizeLine) (h : ∀ c ∈ y.cps.toList, c ∈ x.cps.toList) (hy : y.length ≤ x.length) : Rep K Z (.str y) (.str y) := by
  refine .str _ ?_ (Nat.le_trans hy hl)
  rw [strOk_iff] at h1 ⊢
  exact fun c hc => h1 c (h c hc)
theorem mulS_list (x : Str) (n : Nat) : (mulS x n).cps.toList = (List.replicate n x.cps.toList).flatten := by
  unfold mulS
  simp
theorem flat_len {α : Type} (l : List α) (n : Nat) : (List.replicate n l).flatten.length = l.length * n := by
  simp [Nat.mul_comm]
theorem mulS_len (x : Str) (n : Nat) : (mulS x n).length = x.length * n := by
  show (mulS x n).cps.size = x.cps.size * n
  rw [← Array.length_toList, mulS_list, flat_len, Array.length_toList]
theorem rep_mulS {x : Str} {n : Nat} (h1 : PyData.strOk x = true) (h : x.length * n ≤ LIM) : Rep K Z (.str (mulS x n)) (.str (mulS x n)) := by
  refine .str _ ?_ (by rw [mulS_len]; exact lim_le h)
  rw [strOk_iff] at h1 ⊢
  intro c hc
  rw [mulS_list] at hc
  obtain ⟨l, h2, h3⟩ := List.mem_flatten.mp hc
  rw [List.mem_replicate] at h2
  rw [h2.2] at h3
  exact h1 c h3
theorem str_ext {x y : Str} (h : x.cps.toList = y.cps.toList) : x = y := by
  cases x with
  | mk a => cases y with
    | mk b =>
      have : a = b := Array.toList_inj.mp h
      rw [this]
theorem foldl_rep (x : Array Nat) : ∀ (n : Nat) (acc : Array Nat), ((List.replicate n x).foldl (· ++ ·) acc).toList = acc.toList ++ (List.replicate n x.toList).flatten
  | 0, acc => by simp
  | n + 1, acc => by
    rw [List.replicate_succ, List.foldl_cons, foldl_rep x n, List.replicate_succ, List.flatten_cons]
    simp
/-- text * int -/
def rRepS : R2 := fun x y H Q => ∃ z j, x = .str z ∧ y = .int j ∧ 0 ≤ j ∧ j < 2 ^ 62 ∧ z.length * j.toNat ≤ LIM ∧ Q (.str (mulS z j.toNat)) H
theorem op_repS {X : Cx} : OpR X (binaryOp .Mult) rRepS := by
  intro pins s σ H x y v u Q I rx ry h
  obtain ⟨z, j, rfl, rfl, h0, h1, h2, q⟩ := h
  obtain ⟨t, rfl⟩ := rx
  obtain ⟨u, rfl⟩ := ry
  have hL : (LIM : Nat) = 1000000 := rfl
  refine P.mul_str ?_ (fun a b => ?_) (fun a b => ?_) ?_
  · rw [decide_eq_false (by omega), decide_eq_false (by omega)]; rfl
  · have b1 : (z.length : Int) * j ≤ 1000000 := by
      have h3 : (z.length : Int) * (j.toNat : Int) ≤ (LIM : Nat) := by exact_mod_cast h2
      rw [Int.toNat_of_nonneg h0, hL] at h3
      exact h3
    have hz : (0 : Int) ≤ z.length := by omega
    have b2 : (z.length : Int) ≤ 1000000 := by
      have : (z.length : Int) * 1 ≤ z.length * j := Int.mul_le_mul_of_nonneg_left (by omega) hz
      omega
    have b3 : (z.length : Int) ≤ (2 ^ 63 - 1) / j := by
      rw [Int.le_ediv_iff_mul_le (by omega)]
      omega
    omega
  · have h5 := lim_le h2
    show decide (_ > _) = false
    exact decide_eq_false (by omega)
  · have e0 : ∀ t2, RelV (V.str (mulS z j.toNat)) (Value.str (mulS z j.toNat) t2) := fun t2 => ⟨t2, rfl⟩
    by_cases c1 : j < 1
    · rw [if_pos c1]
      have ej : j = 0 := by omega
      subst ej
      refine ⟨by decide, ?_⟩
      refine ⟨.str (mulS z 0), H, I.tok _, ⟨_, rfl⟩, q⟩
    · rw [if_neg c1]
      by_cases c2 : (j == 1 || z.length == 0) = true
      · rw [if_pos c2]
        have ez : mulS z j.toNat = z := by
          apply str_ext
          rw [mulS_list]
          simp only [Bool.or_eq_true, beq_iff_eq] at c2
          rcases c2 with c2 | c2
          · subst c2; simp
          · have : z.cps.toList = [] := List.eq_nil_of_length_eq_zero (by rw [Array.length_toList]; exact c2)
            rw [this]; simp
        rw [ez] at q
        exact ⟨.str z, H, I, ⟨_, rfl⟩, q⟩
      · rw [if_neg c2]
        have ez : (⟨(List.replicate j.toNat z.cps).foldl (· ++ ·) #[]⟩ : Str) = mulS z j.toNat := by
          apply str_ext
          rw [mulS_list]
          show ((List.replicate j.toNat z.cps).foldl (· ++ ·) #[]).toList = _
          rw [foldl_rep]; simp
        rw [ez]
        exact ⟨by rw [mulS_len]; exact lim_le h2, ⟨.str (mulS z j.toNat), H, I.tok _, ⟨_, rfl⟩, q⟩⟩

def oMul (K : PySem.W.Frag) : R2 := fun x y H Q => rI CMul (fun i j => .int (i * j)) x y H Q ∨ rI CMulW (fun i j => .int (i * j)) x y H Q ∨ rRep x y H Q ∨ rRepS x y H Q
def oAdd (K : PySem.W.Frag) : R2 := fun x y H Q => rI0 (fun i j => .int (i + j)) x y H Q ∨ (∃ i j, x = .str i ∧ y = .str j ∧ i.length + j.length ≤ sizeLine ∧ Q (.str (i ++ j)) H) ∨ rCat x y H Q ∨ rCatA K x y H Q
def rBin (K : PySem.W.Frag) : BOp → R2
  | .add => oAdd K
  | .sub => rI0 fun i j => .int (i - j)
  | .mul => oMul K
  | .mod => rI (fun _ j => 0 < j) fun i j => .int (i % j)
  | .div => rI CDiv fun i j => .int (i / j)
  | .pow => rI CPow fun i j => .int (i ^ j.toNat)
def bOp : BOp → Operator
  | .add => .Add | .sub => .Sub | .mul => .Mult | .mod => .Mod | .div => .FloorDiv | .pow => .Pow
theorem bin_R {X : Cx} : ∀ op : BOp, OpR X (binaryOp (bOp op)) (rBin X.K op)
  | .add => op_add.or (op_add_str.or (op_cat.or op_catA))
  | .sub => op_sub
  | .mul => op_mul.or (op_mulW.or (op_rep.or op_repS))
  | .mod => op_mod
  | .div => op_fdiv
  | .pow => op_pow
theorem cat_ok {pa pb : List P} (s : Sub Z H) (ha : ∃ p vs, x = .ref p ∧ H p = some (.lst vs) ∧ RepL K Z vs pa) (hb : ∃ p vs, y = .ref p ∧ H p = some (.lst vs) ∧ RepL K Z vs pb) (hl : pa.length + pb.length ≤ LIM) (q : Ask K Z H (.l (pa ++ pb)) Q) :
    rBin K .add x y H Q := by
  obtain ⟨p, vs, rfl, h1, r1⟩ := ha
  obtain ⟨p2, vs2, rfl, h2, r2⟩ := hb
  exact .inr (.inr (.inl ⟨p, p2, vs, vs2, rfl, rfl, h1, h2, by rw [r1.length, r2.length]; exact lim_le hl, q.lst s (r1.app r2)⟩))
theorem rep_ok {pa : List P} {j : Int} (s : Sub Z H) (ha : ∃ p vs, x = .ref p ∧ H p = some (.lst vs) ∧ RepL K Z vs pa) (hb : y = .int j) (hl : -(2 ^ 63) ≤ j ∧ j < 2 ^ 63 ∧ pa.length * j.toNat ≤ LIM) (q : Ask K Z H (.l (List.replicate j.toNat pa).flatten) Q) :
    rBin K .mul x y H Q := by
  obtain ⟨p, vs, rfl, h1, r1⟩ := ha
  subst hb
  exact .inr (.inr (.inl ⟨p, j, vs, rfl, rfl, h1, hl.1, hl.2.1, by rw [r1.length]; exact lim_le hl.2.2, q.lst s (r1.rep _)⟩))
theorem bin_ok (op : BOp) (s : Sub Z H) (ha : View K Z H (vw a) x) (hb : View K Z H (vw b) y) (e : binM op a b = some m) (q : Ask K Z H m Q) : rBin K op x y H Q := by
  unfold binM at e
  split at e <;> rename_i e1 e2
  · rw [e1] at ha; rw [e2] at hb; cases e; cases ha.int; cases hb.int
    exact .inl ⟨_, _, rfl, rfl, q.imm s (.int _)⟩
  · rw [e1] at ha; rw [e2] at hb; cases e; cases ha.int; cases hb.int
    exact ⟨_, _, rfl, rfl, q.imm s (.int _)⟩
  · rw [e1] at ha; rw [e2] at hb; cases ha.int; cases hb.int
    split at e
    · rename_i c
      cases e
      unfold mulOk at c
      simp only [Bool.or_eq_true, Bool.and_eq_true, decide_eq_true_eq] at c
      rcases c with c | c
      · exact .inl ⟨_, _, rfl, rfl, c, q.imm s (.int _)⟩
      · exact .inr (.inl ⟨_, _, rfl, rfl, c, q.imm s (.int _)⟩)
    · cases e
  · rw [e1] at ha; rw [e2] at hb; cases ha.int; cases hb.int
    split at e
    · rename_i c
      cases e
      exact ⟨_, _, rfl, rfl, c, q.imm s (.int _)⟩
    · cases e
  · rw [e1] at ha; rw [e2] at hb; cases ha.int; cases hb.int
    split at e
    · rename_i c
      cases e
      exact ⟨_, _, rfl, rfl, c, q.imm s (.int _)⟩
    · cases e
  · rw [e1] at ha; rw [e2] at hb; cases ha.int; cases hb.int
    split at e
    · rename_i c
      cases e
      exact ⟨_, _, rfl, rfl, ⟨c.1, by omega, c.2.2⟩, q.imm s (.int _)⟩
    · cases e
  · rw [e1] at ha; rw [e2] at hb
    obtain ⟨rfl, k1, k2⟩ := ha.str
    obtain ⟨rfl, k3, k4⟩ := hb.str
    split at e
    · rename_i c
      cases e
      exact .inr (.inl ⟨_, _, rfl, rfl, lim_le c, q.imm s (rep_str_app k1 k3 c)⟩)
    · cases e
  · rw [e1] at ha; rw [e2] at hb
    obtain ⟨p, vs, rfl, h1, r1⟩ := ha.tup
    obtain ⟨p2, vs2, rfl, h2, r2⟩ := hb.tup
    split at e
    · rename_i c
      cases e
      refine .inr (.inr (.inr ⟨p, p2, vs, vs2, rfl, rfl, sqT_sub s h1, sqT_sub s h2, by rw [r1.length, r2.length]; exact lim_le c, fun z => ?_, fun _ z => ?_, fun _ _ => q.tup s (r1.app r2)⟩))
      · subst z; cases r1; exact q.imm s (.tup h2 r2)
      · subst z; cases r2; rw [List.append_nil] at q; exact q.imm s (.tup h1 r1)
    · cases e
  · rw [e1] at ha; rw [e2] at hb
    split at e
    · rename_i c
      cases e
      exact cat_ok s ha.lstl hb.lstl c q
    · cases e
  · rw [e1] at ha; rw [e2] at hb
    split at e
    · rename_i c
      cases e
      exact cat_ok s ha.lstl (hb.lstv s) c q
    · cases e
  · rw [e1] at ha; rw [e2] at hb
    split at e
    · rename_i c
      cases e
      exact cat_ok s (ha.lstv s) hb.lstl c q
    · cases e
  · rw [e1] at ha; rw [e2] at hb
    split at e
    · rename_i c
      cases e
      exact cat_ok s (ha.lstv s) (hb.lstv s) c q
    · cases e
  · rw [e1] at ha; rw [e2] at hb
    split at e
    · rename_i c
      cases e
      exact rep_ok s ha.lstl hb.int c q
    · cases e
  · rw [e1] at ha; rw [e2] at hb
    split at e
    · rename_i c
      cases e
      exact rep_ok s (ha.lstv s) hb.int c q
    · cases e
  · rw [e1] at ha; rw [e2] at hb
    obtain ⟨rfl, k1, k2⟩ := ha.str
    cases hb.int
    split at e
    · rename_i c
      cases e
      exact .inr (.inr (.inr ⟨_, _, rfl, rfl, c.1, c.2.1, c.2.2, q.imm s (rep_mulS k1 c.2.2)⟩))
    · cases e
  · cases e
end
end Mn
end
section
set_option maxHeartbeats 200000
namespace Mn
open PySem L2 PySem.Spec
open PyProof.Rows (wpAny_notIn_heap)
variable [WW]

theorem dRel_any {K : PySem.W.Frag} {Z : Hp} (k : Key) : ∀ {vs : List (Key × V)} {ps : List (Key × P)}, DRel K Z vs ps → (vs.any fun kv => decide (kv.1 = k)) = ps.any fun kv => decide (kv.1 = k)
  | _, _, .nil => rfl
  | _, _, .cons h t => by rw [List.any_cons, List.any_cons, dRel_any k t, h.1]
theorem dRel_get {K : PySem.W.Frag} {Z : Hp} (k : Key) : ∀ {vs : List (Key × V)} {ps : List (Key × P)}, DRel K Z vs ps → (match getA ps k with
    | some p => ∃ v, valV vs k = some v ∧ Rep K Z v p
    | none => valV vs k = none)
  | _, _, .nil => rfl
  | _, _, @Paired.cons _ _ _ x y xs ys h t => by
    obtain ⟨h1, _, h2⟩ := h
    have ih := dRel_get k t
    by_cases e : y.1 = k
    · have e1 : getA (y :: ys) k = some y.2 := by simp [getA, List.find?_cons, e]
      rw [e1]
      exact ⟨x.2, valV_pos (h1.trans e), h2⟩
    · have e1 : getA (y :: ys) k = getA ys k := by simp [getA, List.find?_cons, e]
      rw [e1, valV_neg (fun q => e (h1.symm.trans q))]
      exact ih
theorem tRel_get {K : PySem.W.Frag} {Z : Hp} (k : List Key) : ∀ {vs : List (List Key × V)} {ps : List (List Key × P)}, TRel K Z vs ps → (match getA ps k with
    | some p => ∃ v, valV vs k = some v ∧ Rep K Z v p
    | none => valV vs k = none)
  | _, _, .nil => rfl
  | _, _, @Paired.cons _ _ _ x y xs ys h t => by
    obtain ⟨h1, _, h2⟩ := h
    have ih := tRel_get k t
    by_cases e : y.1 = k
    · have e1 : getA (y :: ys) k = some y.2 := by simp [getA, List.find?_cons, e]
      rw [e1]
      exact ⟨x.2, valV_pos (h1.trans e), h2⟩
    · have e1 : getA (y :: ys) k = getA ys k := by simp [getA, List.find?_cons, e]
      rw [e1, valV_neg (fun q => e (h1.symm.trans q))]
      exact ih
theorem ownN_get {K : PySem.W.Frag} {Z H : Hp} (k : Key) : ∀ {ms : List (Key × M)} {vs : List (Key × V)} {G : List Addr}, OwnN K Z H ms vs G → (match getA ms k with
    | some m => ∃ v G', valV vs k = some v ∧ Own K Z H m v G' ∧ ∀ a ∈ G', a ∈ G
    | none => valV vs k = none)
  | _, _, _, .nil => rfl
  | _, _, _, @OwnN.cons _ _ _ _ k0 m v ms vs G G2 ko kn h t d => by
    have ih := ownN_get k t
    by_cases e : k0 = k
    · have e1 : getA ((k0, m) :: ms) k = some m := by simp [getA, List.find?_cons, e]
      rw [e1]
      exact ⟨v, G, valV_pos (by exact e), h, fun a q => List.mem_append_left _ q⟩
    · have e1 : getA ((k0, m) :: ms) k = getA ms k := by simp [getA, List.find?_cons, e]
      rw [e1, valV_neg (by exact e)]
      revert ih
      cases getA ms k with
      | none => exact id
      | some m2 => exact fun ⟨v2, G', a1, a2, a3⟩ => ⟨v2, G', a1, a2, fun a q => List.mem_append_right _ (a3 a q)⟩
theorem keyOf_v {K : PySem.W.Frag} {Z : Hp} {p : P} {k : Key} {y : V} (e : keyOf p = some k) (h : Rep K Z y p) : y = kV k ∧ KeyOk k ∧ p = ofKey k := by
  cases h with
  | int i => cases e; exact ⟨rfl, trivial, rfl⟩
  | str x h1 h2 => cases e; exact ⟨rfl, ⟨h1, h2⟩, rfl⟩
  | _ => cases e
theorem keysAll_v {K : PySem.W.Frag} {Z : Hp} : ∀ {ps : List P} {ks : List Key} {vs : List V}, keysAll ps = some ks → RepL K Z vs ps → vs = ks.map kV ∧ (∀ k ∈ ks, KeyOk k) ∧ ps = ks.map ofKey
  | [], ks, _, e, .nil => by cases e; exact ⟨rfl, (fun k h => by cases h), rfl⟩
  | p :: ps, ks, _, e, .cons (v := v) h r => by
    unfold keysAll at e
    split at e
    · rename_i k ek
      split at e
      · rename_i ks2 ek2
        cases e
        obtain ⟨h1, h2, h3⟩ := keyOf_v ek h
        obtain ⟨g1, g2, g3⟩ := keysAll_v ek2 r
        subst h1 g1 h3 g3
        exact ⟨rfl, fun x hx => (List.mem_cons.mp hx).elim (fun q => q ▸ h2) (g2 x), rfl⟩
      · cases e
    · cases e
theorem keysOf_v {K : PySem.W.Frag} {Z : Hp} {p : P} {ks : List Key} {y : V} (e : keysOf p = some ks) (h : Rep K Z y p) : ∃ b, y = .ref b ∧ SqT K Z b (ks.map kV) ∧ (∀ k ∈ ks, KeyOk k) ∧ p = ofKeys ks := by
  cases h with
  | tup h1 r =>
    obtain ⟨g1, g2, g3⟩ := keysAll_v (by exact e) r
    subst g1 g3
    exact ⟨_, rfl, h1, g2, rfl⟩
  | _ => cases e
theorem ofKey_inj {a b : Key} (h : ofKey a = ofKey b) : a = b := by
  cases a <;> cases b <;> simp_all [ofKey]
omit [WW] in
theorem keyOf_ofKey (k : Key) : keyOf (ofKey k) = some k := by cases k <;> rfl
omit [WW] in
theorem keysAll_of : ∀ ks : List Key, keysAll (ks.map ofKey) = some ks
  | [] => rfl
  | k :: ks => by
    rw [List.map_cons]
    unfold keysAll
    rw [keyOf_ofKey, keysAll_of ks]
omit [WW] in
theorem keysOf_ofKeys (ks : List Key) : keysOf (ofKeys ks) = some ks := keysAll_of ks
theorem keyOf_ofKeys (ks : List Key) : keyOf (ofKeys ks) = none := rfl
theorem keysOf_ofKey (k : Key) : keysOf (ofKey k) = none := by cases k <;> rfl

/-- K: the key may be a written tuple, or None (which is in no dict of ints and texts) -/
def DG (K : PySem.W.Frag) (H : Hp) (a : Addr) (y : V) (r : Option V) : Prop :=
  (∃ kvs k, Rd H a (.dK kvs) ∧ y = kV k ∧ r = valV kvs k) ∨ (∃ kvs k b, Rd H a (.dT kvs) ∧ y = .ref b ∧ SqT K H b (k.map kV) ∧ r = valV kvs k) ∨ ∃ kvs, Rd H a (.dK kvs) ∧ y = .non ∧ r = none
section
variable {X : Cx} {pins : List (Addr × Obj)} {σ : St} {H : Hp} {s : Shared} {a : Addr} {y v d : V} {u r : Value} {o : Option V} {A : Around} {E : Value → Shared → Prop}
theorem key_is {b : Addr} {ks : List Key} (J : Inv X pins σ H s) (h : SqT X.K H b (ks.map kV)) : (tupleKind (mixKind X.prog X.w)).is s.heap ks b := by
  obtain ⟨its, r, ⟨o, h1, h2, n, h3⟩, _⟩ := J.tuple h
  exact ⟨o, its.toArray, n, h1, h2, h3, by simpa using items_are r⟩
theorem relO_some {v : V} {o : Option Value} (h : RelO (some v) o) : ∃ w, o = some w ∧ RelV v w := by
  cases o with
  | none => exact h.elim
  | some w => exact ⟨w, rfl, h⟩
theorem dg_item {Q : Value → Shared → Prop} (hu : A.units + 1 < cLine) (J : Inv X pins σ H s) (g : DG X.K H a y (some v)) (ry : RelV y u) (h : ∀ w' s', Inv X pins σ H s' → RelV v w' → Q w' s') :
    wpAny (model X.prog X.w) A (getItem (.ref a) u) Q E s := by
  rcases g with ⟨kvs, k, e, ey, l⟩ | ⟨kvs, k, b, e, ey, eb, l⟩ | ⟨kvs, _, _, l⟩
  · exact d_getItem hu J (.inl ⟨kvs, k, e, ey, l⟩) ry h
  · subst ey; cases ry
    obtain ⟨z, hd, xs, rel, dd⟩ := dt_rd J.hok e
    obtain ⟨w', hw, rw'⟩ := relO_some (v := v) (o := (atKey xs k).map (·.2)) (by rw [l]; exact rel.val k)
    obtain ⟨p, hp, hp2⟩ := Option.map_eq_some_iff.mp hw
    exact wpAny_getItem_heap (tupleKind_room_in1 hu) (key_is J eb) dd hp (by rw [hp2]; exact h w' _ (J.tok _) rw')
  · cases l
theorem dg_in {Q : Value → Shared → Prop} (hu : A.units + 1 < cLine) (J : Inv X pins σ H s) (g : DG X.K H a y o) (ry : RelV y u) (h : ∀ s', Inv X pins σ H s' → Q (.bool o.isSome) s') :
    wpAny (model X.prog X.w) A (compareOp .In u (.ref a)) Q E s := by
  rcases g with ⟨kvs, k, e, ey, l⟩ | ⟨kvs, k, b, e, ey, eb, l⟩ | ⟨kvs, e, ey, l⟩
  · exact d_in hu J (.inl ⟨kvs, k, e, ey, l⟩) ry h
  · subst ey; cases ry
    obtain ⟨z, hd, xs, rel, dd⟩ := dt_rd J.hok e
    have q := (rel.val k).isSome_eq
    rw [Option.isSome_map, ← l] at q
    exact wpAny_in_heap (tupleKind_room_in1 hu) (key_is J eb) hd dd (by rw [← q]; exact h _ (J.tok _))
  · subst ey l; cases ry; exact d_inNone J e h
theorem dg_nin {Q : Value → Shared → Prop} (hu : A.units + 1 < cLine) (J : Inv X pins σ H s) (g : DG X.K H a y o) (ry : RelV y u) (h : ∀ s', Inv X pins σ H s' → Q (.bool (!o.isSome)) s') :
    wpAny (model X.prog X.w) A (compareOp .NotIn u (.ref a)) Q E s := by
  rcases g with ⟨kvs, k, e, ey, l⟩ | ⟨kvs, k, b, e, ey, eb, l⟩ | ⟨kvs, e, ey, l⟩
  · exact d_notIn hu J (.inl ⟨kvs, k, e, ey, l⟩) ry h
  · subst ey; cases ry
    obtain ⟨z, hd, xs, rel, dd⟩ := dt_rd J.hok e
    have q := (rel.val k).isSome_eq
    rw [Option.isSome_map, ← l] at q
    exact wpAny_notIn_heap (tupleKind_room_in1 hu) (key_is J eb) hd dd (by rw [← q]; exact h _ (J.tok _))
  · subst ey l; cases ry; exact d_notInNone J e h
theorem dg_get1 {Q : Value → Shared → Prop} (hu : A.units + 1 < cLine) (J : Inv X pins σ H s) (g : DG X.K H a y o) (ry : RelV y u) (h : ∀ w' s', Inv X pins σ H s' → RelV (o.getD .non) w' → Q w' s') :
    wpAny (model X.prog X.w) A (call (.builtin "dict.get") [.ref a, u]) Q E s := by
  rcases g with ⟨kvs, k, e, ey, l⟩ | ⟨kvs, k, b, e, ey, eb, l⟩ | ⟨kvs, e, ey, l⟩
  · exact d_get1 hu J (.inl ⟨kvs, k, e, ey, l⟩) ry h
  · subst ey; cases ry
    obtain ⟨z, hd, xs, rel, dd⟩ := dt_rd J.hok e
    exact call_meetsIn PySem.F.slot_dict_get dd.typeIs PySem.F.entry_dict_get (PySem.F.args_dict_get_2 _ _) (meetsH_dict_get (tupleKind (mixKind X.prog X.w)) a b hd)
      ⟨tupleKind_room_in1 hu, k, xs, key_is J eb, dd, h _ _ (J.tok _) (by rw [l]; exact (rel.val k).getD rfl)⟩
  · subst ey l; cases ry
    obtain ⟨_, hd, vs, _, dd⟩ := dk_rd J.hok e
    obtain ⟨f, hm, hf⟩ := none_map dd
    exact call_meetsIn PySem.F.slot_dict_get dd.typeIs PySem.F.entry_dict_get (PySem.F.args_dict_get_2 _ _) (meets_dict_get (noneKind X.prog X.w) a (show (noneKind X.prog X.w).is none .none = true from rfl) hd)
      ⟨_, hm, h _ _ (J.tok _) (by rw [hf]; rfl)⟩
theorem dg_get2 {Q : Value → Shared → Prop} (hu : A.units + 1 < cLine) (J : Inv X pins σ H s) (g : DG X.K H a y o) (ry : RelV y u) (rd : RelV d r) (h : ∀ w' s', Inv X pins σ H s' → RelV (o.getD d) w' → Q w' s') :
    wpAny (model X.prog X.w) A (call (.builtin "dict.get") [.ref a, u, r]) Q E s := by
  rcases g with ⟨kvs, k, e, ey, l⟩ | ⟨kvs, k, b, e, ey, eb, l⟩ | ⟨kvs, e, ey, l⟩
  · exact d_get2 hu J (.inl ⟨kvs, k, e, ey, l⟩) ry rd h
  · subst ey; cases ry
    obtain ⟨z, hd, xs, rel, dd⟩ := dt_rd J.hok e
    exact call_meetsIn PySem.F.slot_dict_get dd.typeIs PySem.F.entry_dict_get (PySem.F.args_dict_get_3 _ _ _) (meetsH_dict_get_default (tupleKind (mixKind X.prog X.w)) a b hd r)
      ⟨tupleKind_room_in1 hu, k, xs, key_is J eb, dd, h _ _ (J.tok _) (by rw [l]; exact (rel.val k).getD rd)⟩
  · subst ey l; cases ry
    obtain ⟨_, hd, vs, _, dd⟩ := dk_rd J.hok e
    obtain ⟨f, hm, hf⟩ := none_map dd
    exact call_meetsIn PySem.F.slot_dict_get dd.typeIs PySem.F.entry_dict_get (PySem.F.args_dict_get_3 _ _ _) (meets_dict_get_default (noneKind X.prog X.w) a (show (noneKind X.prog X.w).is none .none = true from rfl) hd r)
      ⟨_, hm, h _ _ (J.tok _) (by rw [hf]; exact rd)⟩
/-- the dict is one -/
theorem dg_dict (J : Inv X pins σ H s) (g : DG X.K H a y o) : ∃ ob, s.heap.get? a = some ob ∧ ob.ExactDict := by
  have hk : (∃ kvs, Rd H a (.dK kvs)) ∨ ∃ kvs, Rd H a (.dT kvs) := by
    rcases g with ⟨kvs, k, e, ey, l⟩ | ⟨kvs, k, b, e, ey, eb, l⟩ | ⟨kvs, e, ey, l⟩
    · exact .inl ⟨_, e⟩
    · exact .inr ⟨_, e⟩
    · exact .inl ⟨_, e⟩
  rcases hk with ⟨kvs, e⟩ | ⟨kvs, e⟩
  · obtain ⟨_, _, _, _, o, _, _, e, ex, _⟩ := dk_rd J.hok e
    exact ⟨o, e, ex⟩
  · obtain ⟨_, _, _, _, o, _, _, e, ex, _⟩ := dt_rd J.hok e
    exact ⟨o, e, ex⟩
end

def rDin (K : PySem.W.Frag) : R2 := fun x y H Q => ∃ a o, y = .ref a ∧ DG K H a x o ∧ Q (.bl o.isSome) H
def rDnin (K : PySem.W.Frag) : R2 := fun x y H Q => ∃ a o, y = .ref a ∧ DG K H a x o ∧ Q (.bl (!o.isSome)) H
def rSg : R2 := fun x y H Q => ∃ (c : Nat) (z : Str), x = .str ⟨#[c]⟩ ∧ y = .str z ∧ Q (.bl (decide (c ∈ z.cps.toList))) H
def rNsg : R2 := fun x y H Q => ∃ (c : Nat) (z : Str), x = .str ⟨#[c]⟩ ∧ y = .str z ∧ Q (.bl (!decide (c ∈ z.cps.toList))) H
def rLtS : R2 := fun x y H Q => ∃ i j, x = .str i ∧ y = .str j ∧ Q (.bl (decide (i.cps.toList < j.cps.toList))) H
def rIsNo : R2 := fun x y H Q => y = .non ∧ Q (.bl (decide (x = .non))) H
def rNotNo : R2 := fun x y H Q => y = .non ∧ Q (.bl (!decide (x = .non))) H
def rCmp (K : PySem.W.Frag) : COp → R2
  | .eq => rEqD K
  | .ne => rNeD K
  | .lt => fun x y H Q => rI0 (fun i j => .bl (decide (i < j))) x y H Q ∨ rLtS x y H Q
  | .le => rI0 fun i j => .bl (decide (i ≤ j))
  | .gt => rI0 fun i j => .bl (decide (j < i))
  | .ge => rI0 fun i j => .bl (decide (j ≤ i))
  | .inn => fun x y H Q => rIn K false x y H Q ∨ rSg x y H Q ∨ rDin K x y H Q
  | .nin => fun x y H Q => rIn K true x y H Q ∨ rNsg x y H Q ∨ rDnin K x y H Q
  | .isN => rIsNo
  | .notN => rNotNo
  | .isB => rIsB
  | .notB => rNotB
def cOp : COp → CmpOp
  | .eq => .Eq | .ne => .NotEq | .lt => .Lt | .le => .LtE | .gt => .Gt | .ge => .GtE | .inn => .In | .nin => .NotIn | .isN => .Is | .notN => .IsNot | .isB => .Is | .notB => .IsNot
theorem cmp_R {X : Cx} (hr : X.A.units + 64 < cLine) : ∀ op : COp, OpR X (compareOp (cOp op)) (rCmp X.K op)
  | .eq => op_eqD hr
  | .ne => op_neD hr
  | .lt => op_lt.or op_lt_str
  | .le => op_le
  | .gt => op_gt
  | .ge => op_ge
  | .inn => op_in_seq.or (op_in_sign.or fun pins s σ H x y v u Q J rx ry h => by
      obtain ⟨a, o, rfl, g, q⟩ := h
      cases ry
      exact dg_in (by omega) J g rx fun s' J' => ⟨.bl o.isSome, H, J', rfl, q⟩)
  | .nin => op_notIn_seq.or (op_notIn_sign.or fun pins s σ H x y v u Q J rx ry h => by
      obtain ⟨a, o, rfl, g, q⟩ := h
      cases ry
      exact dg_nin (by omega) J g rx fun s' J' => ⟨.bl (!o.isSome), H, J', rfl, q⟩)
  | .isN => op_isN
  | .notN => op_notN
  | .isB => op_isBl
  | .notB => op_notBl
end Mn
end
section
set_option maxHeartbeats 200000
namespace Mn
open PySem L2 PySem.Spec
variable [WW]
section
variable {K : PySem.W.Frag} {Z H : Hp} {a b m : M} {x y : V} {Ga Gb : List Addr} {Q : VK}
theorem asP_dp (s : Sub Z H) {p : P} (h : View K Z H (vw a) x) (e : asP a = some p) (n : noD p = true) (hd : p.depth ≤ 64) : Dp K H x p ∧ SeqAt.shaped p = true := by
  have key : Dp K H x p ∧ PyData.canLay0 p = true := by
    unfold asP at e
    split at e
    · rename_i q eq
      cases e
      rw [eq] at h
      cases h with
      | v h =>
        have l := Rep.lay h n
        exact ⟨(Rep.dp s h).resolve_left fun z => z l, l⟩
    · rename_i ps eq
      cases e
      rw [eq] at h
      cases h with
      | l h r =>
        have l := RepL.lay r (by simpa [noD] using n)
        exact ⟨.lst (SqL.of h) ((RepL.dp s r).resolve_left fun z => z l), by simpa [PyData.canLay0] using l⟩
    · cases e
  refine ⟨key.1, ?_⟩
  show (PyData.canLay0 p && decide (p.depth ≤ 64)) = true
  rw [key.2, decide_eq_true hd]; rfl
theorem eqM_ok (s : Sub Z H) {c : Bool} (ha : View K Z H (vw a) x) (hb : View K Z H (vw b) y) (e : eqM a b = some c) : ∃ d f, Dp K H x d ∧ Dp K H y f ∧ SeqAt.shaped d = true ∧ SeqAt.shaped f = true ∧ PyData.eqv d f = c := by
  unfold eqM at e
  split at e
  · rename_i p q ep eq
    unfold eqP at e
    split at e
    · rename_i c
      obtain ⟨h1, h2⟩ := asP_dp s ha ep c.2.2.1 c.1
      obtain ⟨h3, h4⟩ := asP_dp s hb eq c.2.2.2 c.2.1
      exact ⟨p, q, h1, h3, h2, h4, Option.some.inj e⟩
    · cases e
  · cases e
theorem flat_rep {p : P} {v : V} (h : Rep K Z v p) : flatV v = flatP p := by cases h <;> rfl
theorem eqv_rep {p q : P} {v w : V} (h : Rep K Z v p) (h2 : Rep K Z w q) (f : flatP p = true) (g : flatP q = true) : eqV v w = PyData.eqv p q := by
  cases h <;> first | (cases f; done) | skip
  all_goals cases h2 <;> first | (cases g; done) | (simp [eqV, PyData.eqv]; done) | skip
theorem flats_rep : ∀ {ps : List P} {vs : List V}, RepL K Z vs ps → vs.all flatV = ps.all flatP
  | _, _, .nil => rfl
  | _, _, .cons h r => by rw [List.all_cons, List.all_cons, flat_rep h, flats_rep r]
theorem any_rep {q : P} {w : V} (h2 : Rep K Z w q) (g : flatP q = true) : ∀ {ps : List P} {vs : List V}, RepL K Z vs ps → ps.all flatP = true → inV w vs = ps.any fun y => PyData.eqv y q
  | _, _, .nil, _ => rfl
  | _, _, .cons h r, f => by
    rw [List.all_cons, Bool.and_eq_true] at f
    unfold inV
    rw [List.any_cons, List.any_cons, eqv_rep h h2 f.1 g]
    exact congrArg _ (any_rep h2 g r f.2)
theorem inSeq_ok {neg c : Bool} {ps : List P} {p : P} (hx : Rep K Z x p) (hy : ∃ a vs, y = .ref a ∧ (SqL K H a vs ∨ SqT K H a vs) ∧ RepL K Z vs ps) (e : inSeq p ps = some c) (q : Q (.bl (if neg then !c else c)) H) : rIn K neg x y H Q := by
  obtain ⟨a, vs, rfl, hs, r⟩ := hy
  unfold inSeq at e
  split at e
  · rename_i f
    cases e
    refine ⟨a, vs, rfl, hs, by rw [flat_rep hx]; exact f.1, by rw [flats_rep r]; exact f.2, ?_⟩
    rw [any_rep hx f.1 r f.2]
    exact q
  · cases e
/-- a find and its value -/
def Hit (K : PySem.W.Frag) (Z : Hp) : Option P → Option V → Prop
  | some q, o => ∃ v, o = some v ∧ Rep K Z v q
  | none, o => o = none
theorem repK_get (k : Key) : ∀ {kvs : List (Key × V)} {ps : List (P × P)}, RepK K Z kvs ps → (match (ps.find? fun kv => decide (keyOf kv.1 = some k)).map (·.2) with
    | some p => ∃ v, valV kvs k = some v ∧ Rep K Z v p
    | none => valV kvs k = none)
  | _, _, .nil => rfl
  | _, _, .cons (k := k0) (v := v) ko hv r => by
    by_cases e : k0 = k
    · subst e
      simp only [List.find?_cons, keyOf_ofKey, decide_true, Option.map_some]
      exact ⟨v, valV_pos rfl, hv⟩
    · have e1 : decide (keyOf (ofKey k0) = some k) = false := by rw [keyOf_ofKey]; simpa using e
      simp only [List.find?_cons, e1]
      rw [valV_neg (by exact e)]
      exact repK_get k r
theorem repT_get (k : List Key) : ∀ {kvs : List (List Key × V)} {ps : List (P × P)}, RepT K Z kvs ps → (match (ps.find? fun kv => decide (keysOf kv.1 = some k)).map (·.2) with
    | some p => ∃ v, valV kvs k = some v ∧ Rep K Z v p
    | none => valV kvs k = none)
  | _, _, .nil => rfl
  | _, _, .cons (k := k0) (v := v) ko hv r => by
    by_cases e : k0 = k
    · subst e
      simp only [List.find?_cons, keysOf_ofKeys, decide_true, Option.map_some]
      exact ⟨v, valV_pos rfl, hv⟩
    · have e1 : decide (keysOf (ofKeys k0) = some k) = false := by rw [keysOf_ofKeys]; simpa using e
      simp only [List.find?_cons, e1]
      rw [valV_neg (by exact e)]
      exact repT_get k r
theorem repK_head {kvs : List (Key × V)} {ps : List (P × P)} (h : RepK K Z kvs ps) : ∀ q r, ps ≠ (PyData.none, q) :: r := by
  intro q r e
  cases h with
  | nil => cases e
  | cons ko hv r =>
    injection e with e1 e2
    injection e1 with e1 e3
    rename_i k _ _ _ _
    cases k <;> cases e1
/-- a frozen dict is looked at -/
theorem getF_ok (s : Sub Z H) {kvs : List (P × P)} {p : P} {r : Option P} (h : Rep K Z x (.dict kvs)) (hk : Rep K Z y p) (e : getF kvs p = some r) :
    ∃ a o, x = .ref a ∧ DG K H a y o ∧ Hit K Z r o := by
  cases h with
  | @dk a o kvs0 ps hz r1 =>
    have e2 : (match keyOf p with
      | some k => some ((kvs.find? fun kv => decide (keyOf kv.1 = some k)).map (·.2))
      | none => none) = some r := by
      unfold getF at e
      split at e
      · exact absurd rfl (repK_head r1 _ _)
      · exact e
    split at e2
    · rename_i k ek
      cases e2
      obtain ⟨ey, _, _⟩ := keyOf_v ek hk
      refine ⟨a, valV kvs0 k, rfl, .inl ⟨kvs0, k, .inr ⟨o, s _ _ hz⟩, ey, rfl⟩, ?_⟩
      have h7 := repK_get k r1
      revert h7
      cases (kvs.find? fun kv => decide (keyOf kv.1 = some k)).map (·.2) <;> exact id
    · cases e2
  | @dt a o kvs0 ps hz r1 =>
    unfold getF at e
    split at e
    · rename_i r2 e3
      injection e3 with e4 e5
      subst e5
      split at e
      · rename_i ks ek
        cases e
        obtain ⟨b, ey, hb, _, _⟩ := keysOf_v ek hk
        refine ⟨a, valV kvs0 ks, rfl, .inr (.inl ⟨kvs0, ks, b, .inr ⟨o, s _ _ hz⟩, ey, sqT_sub s hb, rfl⟩), ?_⟩
        have h7 := repT_get ks r1
        revert h7
        cases (ps.find? fun kv => decide (keysOf kv.1 = some ks)).map (·.2) <;> exact id
      · cases e
    · rename_i h9
      exact absurd rfl (h9 _ _)
theorem dRel_hit {vs : List (Key × V)} {ps : List (Key × P)} (r : DRel K Z vs ps) (k : Key) : Hit K Z (getA ps k) (valV vs k) := by
  have h := dRel_get k r
  revert h
  cases getA ps k <;> exact id
theorem tRel_hit {vs : List (List Key × V)} {ps : List (List Key × P)} (r : TRel K Z vs ps) (k : List Key) : Hit K Z (getA ps k) (valV vs k) := by
  have h := tRel_get k r
  revert h
  cases getA ps k <;> exact id
theorem Hit.some_eq {r : Option P} {o : Option V} (h : Hit K Z r o) : o.isSome = r.isSome := by
  cases r with
  | none => cases (show o = none from h); rfl
  | some q => obtain ⟨v, rfl, _⟩ := (show ∃ v, o = some v ∧ Rep K Z v q from h); rfl
theorem ownN_some {ms : List (Key × M)} {vs : List (Key × V)} {G : List Addr} (r : OwnN K Z H ms vs G) (k : Key) : (valV vs k).isSome = (getA ms k).isSome := by
  have h := ownN_get k r
  revert h
  cases getA ms k with
  | none => intro h; rw [h]; rfl
  | some m => rintro ⟨v, _, h, _⟩; rw [h]; rfl
theorem View.imm {p : P} (h : View K Z H (.v p) x) : Rep K Z x p := by cases h; assumption
/-- x in a -/
theorem inM_ok {neg c : Bool} (s : Sub Z H) (ha : View K Z H (vw a) x) (hb : View K Z H (vw b) y) (e : inM a b = some c) (q : Q (.bl (if neg then !c else c)) H) :
    rIn K neg x y H Q ∨ (if neg then rNsg x y H Q else rSg x y H Q) ∨ (if neg then rDnin K x y H Q else rDin K x y H Q) := by
  have din : ∀ {p : Addr} {o : Option V}, y = .ref p → DG K H p x o → o.isSome = c → (if neg then rDnin K x y H Q else rDin K x y H Q) := by
    intro p o ey g ec
    subst ec
    cases neg
    · exact ⟨p, o, ey, g, q⟩
    · exact ⟨p, o, ey, g, q⟩
  unfold inM at e
  split at e <;> rename_i e1 e2
  · rw [e1] at ha; rw [e2] at hb
    obtain ⟨p, vs, ey, h1, r⟩ := hb.lstl
    exact .inl (inSeq_ok ha.imm ⟨p, vs, ey, .inl (SqL.of h1), r⟩ e q)
  · rw [e1] at ha; rw [e2] at hb
    obtain ⟨p, vs, ey, h1, r⟩ := hb.lstv s
    exact .inl (inSeq_ok ha.imm ⟨p, vs, ey, .inl (SqL.of h1), r⟩ e q)
  · rw [e1] at ha; rw [e2] at hb
    obtain ⟨p, vs, ey, h1, r⟩ := hb.tup
    exact .inl (inSeq_ok ha.imm ⟨p, vs, ey, .inr (sqT_sub s h1), r⟩ e q)
  · rw [e1] at ha; rw [e2] at hb
    obtain ⟨rfl, k1, k2⟩ := ha.str
    obtain ⟨rfl, k3, k4⟩ := hb.str
    rename_i w z
    split at e
    · rename_i c1
      cases e
      have ew : w = ⟨#[w.cps.getD 0 0]⟩ := by
        have h1 : w.cps.size = 1 := c1
        cases w with
        | mk arr =>
          have : arr = #[arr.getD 0 0] := by
            apply Array.ext
            · simpa using h1
            · intro i h2 h3
              have : i = 0 := by simp at h3; exact h3
              subst this
              simp at h1
              simp [Array.getD, h1]
          exact congrArg _ this
      refine .inr (.inl ?_)
      rw [ew]
      cases neg
      · exact ⟨_, _, rfl, rfl, q⟩
      · exact ⟨_, _, rfl, rfl, q⟩
    · cases e
  · rw [e1] at ha; rw [e2] at hb
    cases ha.imm
    cases hb with
    | d h r => exact .inr (.inr (din rfl (.inr (.inr ⟨_, h, rfl, rfl⟩)) (Option.some.inj e)))
  · rw [e1] at ha; rw [e2] at hb
    cases hb with
    | @d p vs ps h r =>
      split at e
      · rename_i k ek
        obtain ⟨ey, _, _⟩ := keyOf_v ek ha.imm
        exact .inr (.inr (din rfl (.inl ⟨_, k, h, ey, rfl⟩) (by rw [(dRel_hit r k).some_eq]; exact Option.some.inj e)))
      · cases e
  · rw [e1] at ha; rw [e2] at hb
    cases hb with
    | @n p vs ms G h r =>
      split at e
      · rename_i k ek
        obtain ⟨ey, _, _⟩ := keyOf_v ek ha.imm
        exact .inr (.inr (din rfl (.inl ⟨_, k, .inl h, ey, rfl⟩) (by rw [ownN_some r k]; exact Option.some.inj e)))
      · cases e
  · rw [e1] at ha; rw [e2] at hb
    obtain ⟨r, er, ec⟩ := Option.map_eq_some_iff.mp e
    obtain ⟨p, o, ey, g, hit⟩ := getF_ok s hb.imm ha.imm er
    exact .inr (.inr (din ey g (by rw [hit.some_eq]; exact ec)))
  · rw [e1] at ha; rw [e2] at hb
    cases hb with
    | @t p vs ps h r =>
      split at e
      · rename_i k ek
        obtain ⟨b, ey, hb2, _, _⟩ := keysOf_v ek ha.imm
        exact .inr (.inr (din rfl (.inr (.inl ⟨_, k, b, h, ey, sqT_sub s hb2, rfl⟩)) (by rw [(tRel_hit r k).some_eq]; exact Option.some.inj e)))
      · cases e
  · cases e
theorem isNone_ok : ∀ {a : M}, Own K Z H a x Ga → decide (x = V.non) = isNone a
  | .v p, .v h => by cases h <;> rfl
  | _, .l _ _ _ => rfl
  | _, .d _ _ _ => rfl
  | _, .t _ _ _ => rfl
  | _, .n _ _ _ _ => rfl
  | _, .s _ _ => rfl
  | _, .kl _ _ _ => rfl
  | _, .kd _ _ _ => rfl
  | _, .kt _ _ _ => rfl
  | _, .rn _ _ _ => rfl
  | _, .rt _ _ _ => rfl
/-- a comparison -/
theorem cmp_ok (op : COp) (s : Sub Z H) (ha : Own K Z H a x Ga) (hb : Own K Z H b y Gb) (hn : op = .isN ∨ op = .notN → b = .v .none) (e : cmpM op a b = some m) (q : Ask K Z H m Q) : rCmp K op x y H Q := by
  have bl : ∀ {c : Bool}, m = .v (.bool c) → Q (.bl c) H := fun {c} em => by subst em; exact q.imm s (.bl c)
  cases op with
  | eq =>
    obtain ⟨c, ec, em⟩ := Option.map_eq_some_iff.mp e
    obtain ⟨d, f, h1, h2, h3, h4, h5⟩ := eqM_ok s ha.view hb.view ec
    exact ⟨d, f, h1, h2, h3, h4, by rw [h5]; exact bl em.symm⟩
  | ne =>
    obtain ⟨c, ec, em⟩ := Option.map_eq_some_iff.mp e
    obtain ⟨d, f, h1, h2, h3, h4, h5⟩ := eqM_ok s ha.view hb.view ec
    exact ⟨d, f, h1, h2, h3, h4, by rw [h5]; exact bl em.symm⟩
  | inn =>
    obtain ⟨c, ec, em⟩ := Option.map_eq_some_iff.mp e
    have h := inM_ok (neg := false) s ha.view hb.view ec (bl em.symm)
    rw [if_neg Bool.false_ne_true, if_neg Bool.false_ne_true] at h
    exact h
  | nin =>
    obtain ⟨c, ec, em⟩ := Option.map_eq_some_iff.mp e
    have h := inM_ok (neg := true) s ha.view hb.view ec (bl em.symm)
    rw [if_pos rfl, if_pos rfl] at h
    exact h
  | isN =>
    have hb2 := hn (.inl rfl)
    subst hb2
    cases hb with
    | v h => cases h; exact ⟨rfl, by rw [isNone_ok ha]; exact bl (Option.some.inj e).symm⟩
  | notN =>
    have hb2 := hn (.inr rfl)
    subst hb2
    cases hb with
    | v h => cases h; exact ⟨rfl, by rw [isNone_ok ha]; exact bl (Option.some.inj e).symm⟩
  | isB =>
    dsimp only [cmpM] at e
    split at e
    · cases ha with
      | v h => cases hb with
        | v h2 => cases h; cases h2; exact ⟨_, _, rfl, rfl, bl (Option.some.inj e).symm⟩
    · cases e
  | notB =>
    dsimp only [cmpM] at e
    split at e
    · cases ha with
      | v h => cases hb with
        | v h2 => cases h; cases h2; exact ⟨_, _, rfl, rfl, bl (Option.some.inj e).symm⟩
    · cases e
  | lt =>
    dsimp only [cmpM] at e
    have va := ha.view
    have vb := hb.view
    split at e
    · rename_i p w e1 e2
      rw [e1] at va; rw [e2] at vb
      obtain ⟨c, ec, em⟩ := Option.map_eq_some_iff.mp e
      unfold ltP at ec
      split at ec
      · cases va.int; cases vb.int
        exact .inl ⟨_, _, rfl, rfl, bl (em.symm.trans (by rw [← Option.some.inj ec]))⟩
      · obtain ⟨rfl, _, _⟩ := va.str
        obtain ⟨rfl, _, _⟩ := vb.str
        exact .inr ⟨_, _, rfl, rfl, bl (em.symm.trans (by rw [← Option.some.inj ec]))⟩
      · cases ec
    · cases e
  | gt =>
    dsimp only [cmpM] at e
    have va := ha.view
    have vb := hb.view
    split at e
    · rename_i e1 e2
      rw [e1] at va; rw [e2] at vb
      cases va.int; cases vb.int
      exact ⟨_, _, rfl, rfl, bl (Option.some.inj e).symm⟩
    · cases e
  | le =>
    dsimp only [cmpM] at e
    have va := ha.view
    have vb := hb.view
    split at e
    · rename_i e1 e2
      rw [e1] at va; rw [e2] at vb
      cases va.int; cases vb.int
      exact ⟨_, _, rfl, rfl, bl (Option.some.inj e).symm⟩
    · cases e
  | ge =>
    dsimp only [cmpM] at e
    have va := ha.view
    have vb := hb.view
    split at e
    · rename_i e1 e2
      rw [e1] at va; rw [e2] at vb
      cases va.int; cases vb.int
      exact ⟨_, _, rfl, rfl, bl (Option.some.inj e).symm⟩
    · cases e
end
/-- the program and the world are those -/
structure AtW (X : Cx) : Prop where
  P : X.prog = WW.P
  w : X.w = WW.w
def nkV : Option Key → V
  | none => .non
  | some k => kV k
theorem nk_is {P : Program} {w : World} {k : Option Key} {u : Value} (r : RelV (nkV k) u) : (noneKind P w).is k u = true := by
  cases k with
  | none =>
    have e : u = Value.none := r
    subst e
    rfl
  | some k => exact kV_is (P := P) (w := w) r
section
variable {X : Cx} {pins : List (Addr × Obj)} {σ : St} {H : Hp} {s : Shared} {a : Addr} {vs : List (Option Key × V)} {k : Option Key} {v : V} {u : Value} {A : Around} {E : Value → Shared → Prop}
theorem nn_get (J : Inv X pins σ H s) (hw : AtW X) (e : H a = some (NoneO a vs)) : ∃ us, KV vs us ∧ us.length ≤ sizeLine ∧ s.heap.DictOf (noneKind X.prog X.w) a us := by
  obtain ⟨us, h1, h2, h3⟩ := (J.hok a _ e).1
  rw [← hw.P, ← hw.w] at h3
  exact ⟨us, h1, h2, h3⟩
theorem nn_new {H' : Hp} {h : Heap} {us : List (Option Key × Value)} (hw : AtW X) (rel : KV vs us) (z : us.length ≤ sizeLine) (dd : h.DictOf (noneKind X.prog X.w) a us) : ObjOk X.prog X.w H' h a (NoneO a vs) := by
  rw [hw.P, hw.w] at dd
  refine ⟨⟨us, rel, z, dd⟩, ?_, fun h1 h2 ⟨us, r, z, d⟩ k => ⟨us, r, z, d.at k⟩⟩
  obtain ⟨o, _, _, ho, _⟩ := dd
  exact ⟨o, ho⟩
theorem nn_item {Q : Value → Shared → Prop} (J : Inv X pins σ H s) (hw : AtW X) (e : H a = some (NoneO a vs)) (ry : RelV (nkV k) u) (hv : valV vs k = some v) (h : ∀ w' s', Inv X pins σ H s' → RelV v w' → Q w' s') : wpAny (model X.prog X.w) A (getItem (.ref a) u) Q E s := by
  obtain ⟨us, rel, z, dd⟩ := nn_get J hw e
  have q := rel.val k
  rw [hv] at q
  cases q0 : valueAt us k with
  | none =>
    rw [q0] at q
    exact (show False from q).elim
  | some v0 =>
    rw [q0] at q
    exact wpAny_getItem_of (nk_is ry) dd.mapOf q0 (h _ _ (J.tok _) q)
theorem nn_set {r : Value} {Q : Unit → Shared → Prop} (J : Inv X pins σ H s) (hw : AtW X) (e : H a = some (NoneO a vs)) (hl : vs.length < sizeLine) (ry : RelV (nkV k) u) (rv : RelV v r) (h : ∀ s', Inv X pins σ (upd H a (NoneO a (putK vs k v))) s' → Q () s') :
    wpAny (model X.prog X.w) A (setItem (.ref a) u r) Q E s := by
  obtain ⟨us, rel, z, dd⟩ := nn_get J hw e
  refine wpAny_setItem_pairs (hsz := z) (nk_is ry) dd fun h' dd' hs => h _ ?_
  have he : ∃ q, h'.get? a = some q := let ⟨q, _, _, hq, _⟩ := dd'; ⟨q, hq⟩
  have rel2 := rel.put k rv
  refine d_write J (by rw [e]; exact True.intro) hs he (nn_new hw rel2 ?_ dd')
  rw [← rel2.length]
  have := length_putK vs k v
  omega
end
/-- {k: v} with one key that may be None; the new dict stands empty while the pair is made -/
def tDispN (tk tv : TE) : TE := fun σ H Q => ∀ p, H p = none → tk σ (upd H p (NoneO p [])) fun x H1 => tv σ H1 fun y H2 => H2 p = some (NoneO p []) ∧ ∃ k, x = nkV k ∧ Q (.ref p) (upd H2 p (NoneO p [(k, y)]))
theorem pe_dispN {X : Cx} {pos : Pos} {ke ve : Expr} {tk tv : TE} (hw : AtW X) (hk : PE X ke tk) (hv : PE X ve tv) : PE X (.Dict [some ke] [ve] pos) (tDispN tk tv) := by
  refine ⟨fun pins s σ H Q I q => ?_⟩
  have hn := I.hok.fresh (Nat.le_refl s.heap.objs.size)
  have I1 := I.laid (a := s.heap.objs.size) (o := NoneO s.heap.objs.size []) (h' := s.heap.push { cls := .type "dict", data := .dict #[] }) (t' := s.toks) (fun _ _ q => Heap.get?_push_of_some _ q) (Nat.le_refl _) (nn_new hw .nil (by rw [sizeLine_eq]; exact Nat.zero_le _) (Heap.DictOf.new s.heap))
  have hp := pps_cons (pos := pos) hk hv pps_nil
  let Q1 : List (V × V) → Hp → Prop := fun ps H2 => match ps with
    | [(x, y)] => H2 s.heap.objs.size = some (NoneO s.heap.objs.size []) ∧ ∃ k, x = nkV k ∧ Q (.ref s.heap.objs.size) (upd H2 s.heap.objs.size (NoneO s.heap.objs.size [(k, y)]))
    | _ => False
  refine wpAny_Dict_walk (knd := noneKind X.prog X.w) rfl rfl (by simp) (by simp) (thn (hp.run pins _ σ _ Q1 I1 (q _ hn)) fun ws s2 ⟨ps, H2, I2, rel, q2⟩ => ?_)
  match ps, rel, q2 with
  | [(x, y)], rel, ⟨e, k, ex, q2⟩ =>
    subst ex
    cases rel with
    | @cons _ b _ bs h1 t1 =>
      cases t1
      obtain ⟨b1, b2⟩ := b
      obtain ⟨us, r0, _, dd⟩ := nn_get I2 hw e
      cases r0
      refine ⟨[(k, b2)], ⟨nk_is h1.1, rfl, True.intro⟩, dd, fun h' dd' hs => ⟨.ref s.heap.objs.size, _, ?_, rfl, q2⟩⟩
      have he : ∃ q, h'.get? s.heap.objs.size = some q := let ⟨q, _, _, hq, _⟩ := dd'; ⟨q, hq⟩
      exact d_write I2 (by rw [e]; exact True.intro) hs he (nn_new hw (us := [(k, b2)]) (.cons ⟨rfl, h1.2⟩ .nil) (by rw [sizeLine_eq]; simp) dd')
theorem rkOf_v {K : PySem.W.Frag} {Z : Hp} {p : P} {k : Option Key} {y : V} (e : rkOf p = some (.inl k)) (h : Rep K Z y p) : y = nkV k ∧ ∀ k', k = some k' → KeyOk k' := by
  cases h with
  | non => cases e; exact ⟨rfl, fun _ h => by cases h⟩
  | int i => cases e; exact ⟨rfl, fun k' h => by cases h; exact True.intro⟩
  | str x h1 h2 => cases e; exact ⟨rfl, fun k' h => by cases h; exact ⟨h1, h2⟩⟩
  | tup h r =>
    rename_i ps
    have e : (keysAll ps).map Sum.inr = some (Sum.inl k) := e
    cases h2 : keysAll ps <;> rw [h2] at e <;> cases e
  | _ => cases e
theorem nRel_hit {K : PySem.W.Frag} {Z : Hp} {vs : List (Option Key × V)} {ps : List (RK × P)} (r : NRel K Z vs ps) (k : Option Key) : match getA ps (.inl k) with
    | some p => ∃ v, valV vs k = some v ∧ Rep K Z v p
    | none => valV vs k = none := by
  induction r with
  | nil => rfl
  | @cons x y xs ys h t ih =>
    obtain ⟨h1, h2, h3⟩ := h
    obtain ⟨xk, xv⟩ := x
    obtain ⟨yk, yp⟩ := y
    simp only at h1 h3
    subst h1
    by_cases e : xk = k
    · subst e
      have e1 : getA ((Sum.inl xk, yp) :: ys) (Sum.inl xk : RK) = some yp := by simp [getA, List.find?_cons]
      rw [e1]
      exact ⟨xv, by simp [valV, List.find?_cons], h3⟩
    · have e1 : getA ((Sum.inl xk, yp) :: ys) (Sum.inl k : RK) = getA ys (Sum.inl k) := by simp [getA, List.find?_cons, e]
      have e2 : valV ((xk, xv) :: xs) k = valV xs k := by simp [valV, List.find?_cons, e]
      rw [e1, e2]
      exact ih
theorem nRel_no {K : PySem.W.Frag} {Z : Hp} {vs : List (Option Key × V)} {ps : List (RK × P)} (r : NRel K Z vs ps) (k : List Key) : getA ps (.inr k) = none := by
  induction r with
  | nil => rfl
  | @cons x y xs ys h t ih =>
    obtain ⟨h1, h2, h3⟩ := h
    obtain ⟨yk, yp⟩ := y
    simp only at h1
    subst h1
    have e1 : getA ((Sum.inl x.1, yp) :: ys) (Sum.inr k : RK) = getA ys (Sum.inr k) := by simp [getA, List.find?_cons]
    rw [e1]; exact ih
theorem uRel_no {K : PySem.W.Frag} {Z : Hp} {vs : List (List Key × Addr × V)} {ps : List (RK × P)} (r : URel K Z vs ps) (k : Option Key) : getA ps (.inl k) = none := by
  induction r with
  | nil => rfl
  | @cons x y xs ys h t ih =>
    obtain ⟨h1, _⟩ := h
    obtain ⟨yk, yp⟩ := y
    simp only at h1
    subst h1
    have e1 : getA ((Sum.inr x.1, yp) :: ys) (Sum.inl k : RK) = getA ys (Sum.inl k) := by simp [getA, List.find?_cons]
    rw [e1]; exact ih
theorem nRel_any {K : PySem.W.Frag} {Z : Hp} (k : Option Key) : ∀ {vs : List (Option Key × V)} {ps : List (RK × P)}, NRel K Z vs ps → (vs.any fun kv => decide (kv.1 = k)) = ps.any fun kv => decide (kv.1 = .inl k)
  | _, _, .nil => rfl
  | _, _, .cons h t => by
    rw [List.any_cons, List.any_cons, nRel_any k t, h.1]
    congr 1
    exact decide_eq_decide.mpr ⟨fun e => by rw [e], fun e => Sum.inl.inj e⟩
theorem nRel_put {K : PySem.W.Frag} {Z : Hp} {vs : List (Option Key × V)} {ps : List (RK × P)} {k : Option Key} {v : V} {p : P} (r : NRel K Z vs ps) (ko : ∀ k', k = some k' → KeyOk k') (h : Rep K Z v p) : NRel K Z (putK vs k v) (putA ps (.inl k) p) := by
  have e := nRel_any k r
  unfold putK putA
  rw [e]
  by_cases c : (ps.any fun kv => decide (kv.1 = (Sum.inl k : RK))) = true
  · rw [if_pos c, if_pos c]
    clear e c
    induction r with
    | nil => exact .nil
    | @cons x y xs ys h1 _ ih =>
      rw [List.map_cons, List.map_cons]
      refine .cons ?_ ih
      obtain ⟨g1, g2, g3⟩ := h1
      by_cases e : x.1 = k
      · rw [if_pos e, if_pos (by rw [g1, e])]; exact ⟨g1, g2, h⟩
      · rw [if_neg e, if_neg fun q => e (Sum.inl.inj (g1.symm.trans q))]; exact ⟨g1, g2, g3⟩
  · rw [if_neg c, if_neg c]
    exact Paired.snoc r ⟨rfl, ko, h⟩
end Mn
end
section
set_option maxHeartbeats 200000
namespace Mn
open PySem L2 PySem.Spec
open PyProof.Rows (tail_any)
variable [WW]

def rSubD (K : PySem.W.Frag) : R2 := fun x y H Q => ∃ a v, x = .ref a ∧ DG K H a y (some v) ∧ Q v H
def rSubN : R2 := fun x y H Q => ∃ (a : Addr) (vs : List (Option Key × V)) (k : Option Key) (v : V), x = .ref a ∧ H a = some (NoneO a vs) ∧ y = nkV k ∧ valV vs k = some v ∧ Q v H
def rSub (K : PySem.W.Frag) : R2 := fun x y H Q => rIx K x y H Q ∨ (rSubD K x y H Q ∨ rSubN x y H Q)
theorem sub_R {X : Cx} (hu : X.A.units + 64 < cLine) (hw : AtW X) : IxR X (rSub X.K) := by
  refine ix_seq.or fun value slice pins s σ H x y v u Q J rx ry h hs => ?_
  rcases h with h | ⟨a, vs, k, w, rfl, e, rfl, hv, q⟩
  case inr =>
    cases rx
    obtain ⟨us, _, _, dd⟩ := nn_get J hw e
    exact tail_any dd.typeIs PySem.F.slot_dict_getitem.lookup (nn_item J hw e ry hv fun w' s' J' r' => ⟨w, H, J', r', q⟩) hs
  obtain ⟨a, w, rfl, g, q⟩ := h
  cases rx
  obtain ⟨ob, h1, h2⟩ := dg_dict J g
  exact tail_any ⟨ob, h1, h2.1⟩ PySem.F.slot_dict_getitem.lookup (dg_item (by omega) J g ry fun w' s' J' r' => ⟨w, H, J', r', q⟩) hs
section
variable {K : PySem.W.Frag} {Z H : Hp} {a b m : M} {x y : V} {Ga Gb : List Addr} {Q : VK}
theorem atI_rep {vs : List V} {ps : List P} {i : Int} {p : P} (r : RepL K Z vs ps) (e : atI ps i = some p) : ∃ v, atI vs i = some v ∧ Rep K Z v p := by
  unfold atI at e ⊢
  rw [r.length]
  obtain ⟨j, h1, h2⟩ := Option.bind_eq_some_iff.mp e
  obtain ⟨v, h3, h4⟩ := r.get h2
  exact ⟨v, by rw [h1]; exact h3, h4⟩
theorem sub_ok (s : Sub Z H) (ha : Own K Z H a x Ga) (hb : Own K Z H b y Gb) (e : subM a b = some m) (q : Ask K Z H m Q) : rSub K x y H Q := by
  have va := ha.view
  have vb := hb.view
  unfold subM at e
  split at e <;> rename_i e1 e2
  · rw [e1] at va; rw [e2] at vb; cases vb.int
    obtain ⟨p, h1, h2⟩ := Option.map_eq_some_iff.mp e
    subst h2
    obtain ⟨c, vs, rfl, h3, r⟩ := va.lstl
    obtain ⟨v, h4, h5⟩ := atI_rep r h1
    exact .inl (.inl ⟨c, vs, _, v, rfl, rfl, SqL.of h3, h4, q.imm s h5⟩)
  · rw [e1] at va; rw [e2] at vb; cases vb.int
    obtain ⟨p, h1, h2⟩ := Option.map_eq_some_iff.mp e
    subst h2
    obtain ⟨c, vs, rfl, h3, r⟩ := va.lstv s
    obtain ⟨v, h4, h5⟩ := atI_rep r h1
    exact .inl (.inl ⟨c, vs, _, v, rfl, rfl, SqL.of h3, h4, q.imm s h5⟩)
  · rw [e1] at va; rw [e2] at vb; cases vb.int
    obtain ⟨p, h1, h2⟩ := Option.map_eq_some_iff.mp e
    subst h2
    obtain ⟨c, vs, rfl, h3, r⟩ := va.tup
    obtain ⟨v, h4, h5⟩ := atI_rep r h1
    exact .inl (.inr (.inl ⟨c, vs, _, v, rfl, rfl, sqT_sub s h3, h4, q.imm s h5⟩))
  · rw [e1] at va; rw [e2] at vb; cases vb.int
    obtain ⟨c, h1, h2⟩ := Option.map_eq_some_iff.mp e
    subst h2
    obtain ⟨rfl, k1, k2⟩ := va.str
    refine .inl (.inr (.inr ⟨_, _, c, rfl, rfl, k2, h1, q.imm s ?_⟩))
    obtain ⟨j, h3, h4⟩ := Option.bind_eq_some_iff.mp (show (ixN _ _).bind _ = some c from h1)
    have hm := List.mem_of_getElem? h4
    refine rep_sub k1 k2 (fun c' hc => ?_) ?_
    · simp at hc; subst hc; exact hm
    · have := List.length_pos_of_mem hm
      rw [Array.length_toList] at this
      exact this
  · rw [e1] at va; rw [e2] at vb
    split at e
    · rename_i r er
      cases e
      obtain ⟨c, o, rfl, g, hit⟩ := getF_ok s va.imm vb.imm er
      obtain ⟨v, rfl, hv⟩ := (show ∃ v, o = some v ∧ Rep K Z v _ from hit)
      exact .inr (.inl ⟨c, v, rfl, g, q.imm s hv⟩)
    · cases e
  · rename_i ns i
    rw [e1] at va; rw [e2] at vb; cases vb.int
    obtain ⟨n, h1, h2⟩ := Option.map_eq_some_iff.mp e
    subst h2
    cases va with
    | s h3 _ =>
      refine .inl (.inl ⟨_, ns.map V.int, _, .int n, rfl, rfl, sqL_sub s h3, ?_, q.imm s (.int n)⟩)
      unfold atI at h1 ⊢
      rw [List.length_map]
      obtain ⟨j, h4, h5⟩ := Option.bind_eq_some_iff.mp h1
      rw [h4]
      show (ns.map V.int)[j]? = some (V.int n)
      rw [List.getElem?_map, h5]; rfl
  · rw [e1] at va; rw [e2] at vb
    cases va with
    | @d c vs ps h r =>
      split at e
      · rename_i k ek
        obtain ⟨ey, _, _⟩ := keyOf_v ek vb.imm
        obtain ⟨p, h1, h2⟩ := Option.map_eq_some_iff.mp e
        subst h2
        have hit := dRel_hit r k
        rw [h1] at hit
        obtain ⟨v, h3, h4⟩ := (show ∃ v, valV vs k = some v ∧ Rep K Z v p from hit)
        exact .inr (.inl ⟨c, v, rfl, .inl ⟨vs, k, h, ey, h3.symm⟩, q.imm s h4⟩)
      · cases e
  · rw [e1] at va; rw [e2] at vb
    cases va with
    | @t c vs ps h r =>
      split at e
      · rename_i k ek
        obtain ⟨b2, ey, hb2, _, _⟩ := keysOf_v ek vb.imm
        obtain ⟨p, h1, h2⟩ := Option.map_eq_some_iff.mp e
        subst h2
        have hit := tRel_hit r k
        rw [h1] at hit
        obtain ⟨v, h3, h4⟩ := (show ∃ v, valV vs k = some v ∧ Rep K Z v p from hit)
        exact .inr (.inl ⟨c, v, rfl, .inr (.inl ⟨vs, k, b2, h, ey, sqT_sub s hb2, h3.symm⟩), q.imm s h4⟩)
      · cases e
  · rw [e1] at va; rw [e2] at vb
    cases va with
    | @n c vs ms G h r =>
      split at e
      · rename_i k ek
        obtain ⟨ey, _, _⟩ := keyOf_v ek vb.imm
        have hit := ownN_get k r
        split at e
        · rename_i p ep
          cases e
          rw [ep] at hit
          obtain ⟨v, G', h3, h4, _⟩ := hit
          cases h4 with
          | v h4 => exact .inr (.inl ⟨c, v, rfl, .inl ⟨vs, k, .inl h, ey, h3.symm⟩, q.imm s h4⟩)
        · cases e
      · cases e
  · rw [e1] at va; rw [e2] at vb
    split at e
    · rename_i k ek
      split at e
      · rename_i hk
        obtain ⟨p, h1, h2⟩ := Option.map_eq_some_iff.mp e
        subst h2
        cases k with
        | inr k => cases hk
        | inl k =>
          cases va with
          | @rn c vs ps h r =>
            obtain ⟨ey, _⟩ := rkOf_v ek vb.imm
            have hit := nRel_hit r k
            rw [h1] at hit
            obtain ⟨v, h3, h4⟩ := (show ∃ v, valV vs k = some v ∧ Rep K Z v p from hit)
            exact .inr (.inr ⟨c, vs, k, v, rfl, h, ey, h3, q.imm s h4⟩)
          | @rt c vs ps h r => rw [uRel_no r k] at h1; cases h1
      · cases e
    · cases e
  · cases e

def rSlc (K : PySem.W.Frag) : V → Option Int → Option Int → Hp → VK → Prop := fun x lo hi H Q => rSlL K x lo hi H Q ∨ rSlA K x lo hi H Q ∨ rSlS x lo hi H Q
theorem slc_R {X : Cx} : SlR X (rSlc X.K) := sl_list.or (sl_tupA.or sl_str)
theorem cut_rep {vs : List V} {ps : List P} (r : RepL K Z vs ps) (lo hi : Option Int) : RepL K Z (cutV vs lo hi) (cut ps lo hi) := by
  unfold cutV cut
  rw [r.length]
  exact (r.drop _).take _
theorem cut_all {α : Type} (ps : List α) {lo hi : Option Int} (h : HT.sIx ps.length 0 lo = 0 ∧ HT.sIx ps.length ps.length hi = ps.length) : cut ps lo hi = ps := by
  unfold cut
  rw [h.1, h.2]
  simp
theorem slc_ok {lo hi : Option Int} (s : Sub Z H) (ha : Own K Z H a x Ga) (e : slcM a lo hi = some m) (q : Ask K Z H m Q) : rSlc K x lo hi H Q := by
  have va := ha.view
  unfold slcM at e
  split at e <;> rename_i e1
  · rw [e1] at va; cases e
    obtain ⟨c, vs, rfl, h3, r⟩ := va.lstl
    exact .inl ⟨c, vs, rfl, SqL.of h3, q.lst s (cut_rep r lo hi)⟩
  · rw [e1] at va; cases e
    obtain ⟨c, vs, rfl, h3, r⟩ := va.lstv s
    exact .inl ⟨c, vs, rfl, SqL.of h3, q.lst s (cut_rep r lo hi)⟩
  · rw [e1] at va; cases e
    obtain ⟨c, vs, rfl, h3, r⟩ := va.tup
    refine .inr (.inl ⟨c, vs, rfl, sqT_sub s h3, fun w => ?_, fun _ => q.tup s (cut_rep r lo hi)⟩)
    rw [r.length] at w
    rw [cut_all _ w] at q
    exact q.imm s (.tup h3 r)
  · rw [e1] at va; cases e
    obtain ⟨rfl, k1, k2⟩ := va.str
    refine .inr (.inr ⟨_, rfl, k2, q.imm s (rep_sub k1 k2 (fun c hc => ?_) (cutS_length _ _ _))⟩)
    unfold cutS at hc
    exact List.mem_of_mem_drop (List.mem_of_mem_take (by simpa using hc))
  · cases e
theorem lst_any {ps : List P} (s : Sub Z H) (ha : Own K Z H a x Ga) (e : listOf a = some ps) : ∃ c vs, x = .ref c ∧ H c = some (.lst vs) ∧ RepL K Z vs ps := by
  have va := ha.view
  unfold listOf at e
  split at e <;> rename_i e1
  · rw [e1] at va; cases e; exact va.lstl
  · rw [e1] at va; cases e; exact va.lstv s
  · cases e
theorem seq_any {ps : List P} (s : Sub Z H) (ha : Own K Z H a x Ga) (e : seqOf a = some ps) : ∃ c vs, x = .ref c ∧ (H c = some (.lst vs) ∨ (SqT K H c vs ∧ Rep K Z x (.tuple ps))) ∧ RepL K Z vs ps := by
  have va := ha.view
  unfold seqOf at e
  split at e <;> rename_i e1
  · rw [e1] at va; cases e
    obtain ⟨c, vs, h1, h2, h3⟩ := va.lstl
    exact ⟨c, vs, h1, .inl h2, h3⟩
  · rw [e1] at va; cases e
    obtain ⟨c, vs, h1, h2, h3⟩ := va.lstv s
    exact ⟨c, vs, h1, .inl h2, h3⟩
  · rw [e1] at va; cases e
    obtain ⟨c, vs, rfl, h2, h3⟩ := va.tup
    exact ⟨c, vs, rfl, .inr ⟨sqT_sub s h2, .tup h2 h3⟩, h3⟩
  · cases e

inductive OwnL (K : PySem.W.Frag) (Z H : Hp) : List M → List V → Prop
  | nil : OwnL K Z H [] []
  | cons {m : M} {v : V} {G : List Addr} {ms : List M} {vs : List V} : Own K Z H m v G → OwnL K Z H ms vs → OwnL K Z H (m :: ms) (v :: vs)
def rBi (K : PySem.W.Frag) (b : BI) : List V → Hp → VK → Prop := fun vs H Q => match b with
  | .len => (∃ p ys, vs = [.ref p] ∧ (SqL K H p ys ∨ SqT K H p ys) ∧ Q (.int ys.length) H) ∨ (∃ z, vs = [.str z] ∧ z.length ≤ sizeLine ∧ Q (.int z.length) H) ∨ ∃ a kvs, vs = [V.ref a] ∧ Rd H a (.dK kvs) ∧ Q (.int kvs.length) H
  | .tup => ∃ p ys, vs = [.ref p] ∧ ((SqL K H p ys ∧ ∀ l, H l = none → Q (.ref l) (upd H l (.tup ys))) ∨ (SqT K H p ys ∧ Q (.ref p) H))
  | .list => (∃ p ys, vs = [.ref p] ∧ (SqL K H p ys ∨ SqT K H p ys) ∧ ∀ l, H l = none → Q (.ref l) (upd H l (.lst ys))) ∨ rListD vs H Q
  | .dict => ∃ (a : Addr) (ps : List Addr) (kvs : List (Key × V)), vs = [.ref a] ∧ SqL K H a (ps.map V.ref) ∧ Paired (fun p kv => SqT K H p [kV kv.1, kv.2]) ps kvs ∧ ∀ p, H p = none → Q (.ref p) (upd H p (.dK (mergeK [] kvs)))
  | .int => (∃ i, vs = [.int i] ∧ Q (.int i) H) ∨ ∃ k, vs = [.bl k] ∧ Q (.int (if k then 1 else 0)) H
  | .sorted => rSortedS K vs H Q ∨ rSorted K vs H Q
  | .all => rAll K vs H Q
  | .any => rAny K vs H Q
  | .sum => rSum K vs H Q
  | .abs => ∃ i, vs = [.int i] ∧ Q (.int (if i < 0 then -i else i)) H
  | .max2 => ∃ i j, vs = [.int i, .int j] ∧ Q (.int (if j > i then j else i)) H
  | .min2 => ∃ i j, vs = [.int i, .int j] ∧ Q (.int (if j < i then j else i)) H
  | _ => False
theorem boolsOf_v : ∀ {ps : List P} {bs : List Bool} {vs : List V}, boolsOf ps = some bs → RepL K Z vs ps → vs = bs.map V.bl
  | [], _, _, e, .nil => by cases e; rfl
  | p :: ps, bs, _, e, .cons h r => by
    unfold boolsOf at e
    split at e
    · rename_i h0; cases h0
    · rename_i b r2 e2
      injection e2 with e3 e4
      subst e3 e4
      obtain ⟨bs2, h1, h2⟩ := Option.map_eq_some_iff.mp e
      subst h2
      cases h
      rw [boolsOf_v h1 r]; rfl
    · cases e
theorem intsOf_v : ∀ {ps : List P} {bs : List Int} {vs : List V}, intsOf ps = some bs → RepL K Z vs ps → vs = bs.map V.int
  | [], _, _, e, .nil => by cases e; rfl
  | p :: ps, bs, _, e, .cons h r => by
    unfold intsOf at e
    split at e
    · rename_i h0; cases h0
    · rename_i b r2 e2
      injection e2 with e3 e4
      subst e3 e4
      obtain ⟨bs2, h1, h2⟩ := Option.map_eq_some_iff.mp e
      subst h2
      cases h
      rw [intsOf_v h1 r]; rfl
    · cases e
theorem strsOf_v : ∀ {ps : List P} {bs : List Str} {vs : List V}, strsOf ps = some bs → RepL K Z vs ps → vs = bs.map V.str ∧ ∀ z ∈ bs, PyData.strOk z = true ∧ z.length ≤ sizeLine
  | [], _, _, e, .nil => by cases e; exact ⟨rfl, fun _ h => nomatch h⟩
  | p :: ps, bs, _, e, .cons h r => by
    unfold strsOf at e
    split at e
    · rename_i h0; cases h0
    · rename_i b r2 e2
      injection e2 with e3 e4
      subst e3 e4
      obtain ⟨bs2, h1, h2⟩ := Option.map_eq_some_iff.mp e
      subst h2
      cases h
      rename_i k1 k2
      obtain ⟨g1, g2⟩ := strsOf_v h1 r
      rw [g1]
      exact ⟨rfl, fun z hz => (List.mem_cons.mp hz).elim (fun q => q ▸ ⟨k1, k2⟩) (g2 z)⟩
    · cases e
theorem repL_strs : ∀ {zs : List Str}, (∀ z ∈ zs, PyData.strOk z = true ∧ z.length ≤ sizeLine) → RepL K Z (zs.map V.str) (zs.map PyData.str)
  | [], _ => .nil
  | z :: zs, h => .cons (.str z (h z List.mem_cons_self).1 (h z List.mem_cons_self).2) (repL_strs fun w hw => h w (List.mem_cons_of_mem _ hw))
theorem repL_ints : ∀ {zs : List Int}, RepL K Z (zs.map V.int) (zs.map PyData.int)
  | [] => .nil
  | z :: zs => .cons (.int z) repL_ints
end
end Mn
end
section
set_option maxHeartbeats 200000
namespace Mn
open PySem L2 PySem.Spec
open PyProof.Rows (sortedS risingS)
variable [WW]

omit [WW] in
theorem le_str_total (a b : Str) : (decide (a.cps.toList ≤ b.cps.toList) || decide (b.cps.toList ≤ a.cps.toList)) = true := by
  rcases List.le_total a.cps.toList b.cps.toList with h | h
  · rw [decide_eq_true h]; rfl
  · rw [decide_eq_true h, Bool.or_true]
theorem rising_pair : ∀ {ys : List Str} {x : Str}, risingS x ys = true → (x :: ys).Pairwise fun a b => a.cps.toList ≤ b.cps.toList
  | [], x, _ => List.pairwise_singleton _ _
  | y :: ys, x, h => by
    have h2 : (!PySem.Spec.ltCps y.cps.toList x.cps.toList) = true ∧ risingS y ys = true := Bool.and_eq_true_iff.mp h
    have ih := rising_pair h2.2
    have hxy : x.cps.toList ≤ y.cps.toList := by
      have := h2.1
      rw [PyProof.Rows.ltCps_eq] at this
      simpa using this
    refine List.pairwise_cons.mpr ⟨fun z hz => ?_, ih⟩
    rcases List.mem_cons.mp hz with e | hz
    · subst e; exact hxy
    · exact List.le_trans hxy ((List.pairwise_cons.mp ih).1 z hz)
theorem sortS_eq {xs ys : List Str} (p : ys.Perm xs) (h : sortedS ys = true) : ys = sortS xs := by
  have h1 : ys.Pairwise fun a b => a.cps.toList ≤ b.cps.toList := by
    cases ys with
    | nil => exact .nil
    | cons y ys => exact rising_pair h
  have h2 : (sortS xs).Pairwise fun a b => a.cps.toList ≤ b.cps.toList := by
    have := List.pairwise_mergeSort (le := fun a b : Str => decide (a.cps.toList ≤ b.cps.toList)) (fun a b c x y => decide_eq_true (List.le_trans (of_decide_eq_true x) (of_decide_eq_true y))) le_str_total xs
    exact this.imp fun h => of_decide_eq_true h
  exact List.Perm.eq_of_pairwise (fun a b _ _ x y => str_ext (List.le_antisymm x y)) h1 h2 (p.trans (List.mergeSort_perm _ _).symm)
theorem sortI_eq {xs ys : List Int} (p : ys.Perm xs) (h : ys.Pairwise (· ≤ ·)) : ys = sortI xs := by
  have h2 : (sortI xs).Pairwise fun a b => a ≤ b := by
    have := List.pairwise_mergeSort (le := fun a b : Int => decide (a ≤ b)) (fun a b c x y => decide_eq_true (Int.le_trans (of_decide_eq_true x) (of_decide_eq_true y))) (fun a b => by
      rcases Int.le_total a b with h | h
      · rw [decide_eq_true h]; rfl
      · rw [decide_eq_true h, Bool.or_true]) xs
    exact this.imp fun h => of_decide_eq_true h
  exact List.Perm.eq_of_pairwise (fun a b _ _ x y => Int.le_antisymm x y) h h2 (p.trans (List.mergeSort_perm _ _).symm)

theorem call_lenRd {X : Cx} : CallR X (.builtin "len") (fun xs H Q => ∃ a kvs, xs = [V.ref a] ∧ Rd H a (.dK kvs) ∧ Q (.int kvs.length) H) := by
  intro pins s σ H xs us Q J r h
  obtain ⟨a, kvs, rfl, e, q⟩ := h
  obtain ⟨u, rfl, ru⟩ := r.one
  cases ru
  exact d_len J e fun t s' J' => ⟨.int kvs.length, H, J', ⟨t, rfl⟩, q⟩
def biV : BI → Value
  | .tup => .type "tuple" | .list => .type "list" | .dict => .type "dict" | .int => .type "int"
  | .len => .builtin "len" | .sorted => .builtin "sorted" | .all => .builtin "all" | .any => .builtin "any" | .sum => .builtin "sum" | .abs => .builtin "abs" | .max2 => .builtin "max" | .min2 => .builtin "min"
  | _ => .none
theorem callR_false {X : Cx} {f : Value} : CallR X f (fun _ _ _ => False) := fun _ _ _ _ _ _ _ _ _ h => h.elim
theorem bi_R {X : Cx} (hc : X.calm = true) : ∀ b : BI, CallR X (biV b) (rBi X.K b)
  | .len => call_len_seq.or (call_len_str.or call_lenRd)
  | .tup => call_tuple_of
  | .list => call_list_of.or (call_list_dK hc)
  | .dict => call_dictP hc
  | .int => call_int1
  | .sorted => cr_sortedS.or cr_sorted
  | .all => cr_all hc
  | .any => cr_any hc
  | .sum => cr_sum hc
  | .abs => call_abs
  | .max2 => call_max2 hc
  | .min2 => call_min2 hc
  | .str => callR_false | .isTup => callR_false | .isStr => callR_false | .isBool => callR_false | .isInt => callR_false | .isList => callR_false
  | .setLen => callR_false | .listZip => callR_false | .min1 => callR_false | .max1 => callR_false
section
variable {K : PySem.W.Frag} {Z H : Hp} {m : M} {Q : VK}
theorem dRel_len {vs : List (Key × V)} {ps : List (Key × P)} (r : DRel K Z vs ps) : vs.length = ps.length := Paired.length r
theorem dRel_put {vs : List (Key × V)} {ps : List (Key × P)} {k : Key} {v : V} {p : P} (r : DRel K Z vs ps) (ko : KeyOk k) (h : Rep K Z v p) : DRel K Z (putK vs k v) (putA ps k p) := by
  have e := dRel_any k r
  unfold putK putA
  rw [e]
  by_cases c : (ps.any fun kv => decide (kv.1 = k)) = true
  · rw [if_pos c, if_pos c]
    clear e c
    induction r with
    | nil => exact .nil
    | @cons x y xs ys h1 _ ih =>
      rw [List.map_cons, List.map_cons]
      refine .cons ?_ ih
      obtain ⟨g1, g2, g3⟩ := h1
      by_cases e : y.1 = k
      · rw [if_pos e, if_pos (g1.trans e)]; exact ⟨g1, g2, h⟩
      · rw [if_neg e, if_neg fun q => e (g1.symm.trans q)]; exact ⟨g1, g2, g3⟩
  · rw [if_neg c, if_neg c]
    exact Paired.snoc r ⟨rfl, ko, h⟩
theorem tRel_any (k : List Key) : ∀ {vs : List (List Key × V)} {ps : List (List Key × P)}, TRel K Z vs ps → (vs.any fun kv => decide (kv.1 = k)) = ps.any fun kv => decide (kv.1 = k)
  | _, _, .nil => rfl
  | _, _, .cons h t => by rw [List.any_cons, List.any_cons, tRel_any k t, h.1]
theorem tRel_put {vs : List (List Key × V)} {ps : List (List Key × P)} {k : List Key} {v : V} {p : P} (r : TRel K Z vs ps) (ko : ∀ x ∈ k, KeyOk x) (h : Rep K Z v p) : TRel K Z (putK vs k v) (putA ps k p) := by
  have e := tRel_any k r
  unfold putK putA
  rw [e]
  by_cases c : (ps.any fun kv => decide (kv.1 = k)) = true
  · rw [if_pos c, if_pos c]
    clear e c
    induction r with
    | nil => exact .nil
    | @cons x y xs ys h1 _ ih =>
      rw [List.map_cons, List.map_cons]
      refine .cons ?_ ih
      obtain ⟨g1, g2, g3⟩ := h1
      by_cases e : y.1 = k
      · rw [if_pos e, if_pos (g1.trans e)]; exact ⟨g1, g2, h⟩
      · rw [if_neg e, if_neg fun q => e (g1.symm.trans q)]; exact ⟨g1, g2, g3⟩
  · rw [if_neg c, if_neg c]
    exact Paired.snoc r ⟨rfl, ko, h⟩
theorem dRel_merge : ∀ {ws : List (Key × V)} {qs : List (Key × P)} {vs : List (Key × V)} {ps : List (Key × P)}, DRel K Z ws qs → DRel K Z vs ps → DRel K Z (mergeK vs ws) (mergeA ps qs)
  | _, _, _, _, .nil, r => r
  | _, _, _, _, @Paired.cons _ _ _ x y xs ys h t, r => by
    obtain ⟨g1, g2, g3⟩ := h
    unfold mergeK mergeA
    rw [List.foldl_cons, List.foldl_cons, g1]
    exact dRel_merge t (dRel_put r g2 g3)
theorem pairsK_v {H : Hp} (s : Sub Z H) : ∀ {ps : List P} {kvs : List (Key × P)} {vs : List V}, pairsK ps = some kvs → RepL K Z vs ps →
    ∃ (as : List Addr) (ws : List (Key × V)), vs = as.map V.ref ∧ Paired (fun p kv => SqT K H p [kV kv.1, kv.2]) as ws ∧ DRel K Z ws kvs
  | [], _, _, e, .nil => by cases e; exact ⟨[], [], rfl, .nil, .nil⟩
  | p :: ps, kvs, _, e, .cons h r => by
    unfold pairsK at e
    split at e
    · rename_i h0; cases h0
    · rename_i a b r2 e2
      injection e2 with e3 e4
      subst e3 e4
      split at e
      · rename_i k kv2 ek er
        cases e
        obtain ⟨as, ws, g1, g2, g3⟩ := pairsK_v s er r
        cases h with
        | tup h1 r1 =>
          cases r1 with
          | cons ha r1 =>
            cases r1 with
            | cons hb r1 =>
              cases r1
              obtain ⟨rfl, ko, _⟩ := keyOf_v ek ha
              exact ⟨_ :: as, (k, _) :: ws, by rw [g1]; rfl, .cons (sqT_sub s h1) g2, .cons ⟨rfl, ko, hb⟩ g3⟩
      · cases e
    · cases e
theorem Ask.dic {qs : List (Key × P)} {vs : List (Key × V)} (q : Ask K Z H (.d qs) Q) (s : Sub Z H) (r : DRel K Z vs qs) : ∀ p, H p = none → Q (.ref p) (upd H p (.dK vs)) := fun p hp =>
  q Z _ (.ref p) [p] (.own s hp) (.d upd_same (by
    cases e : Z p with
    | none => rfl
    | some u => rw [s _ _ e] at hp; cases hp) r)
theorem keys_rep : ∀ {vs : List (Key × V)} {ps : List (Key × P)}, DRel K Z vs ps → RepL K Z (vs.map fun kv => kV kv.1) (ps.map fun kv => ofKey kv.1)
  | _, _, .nil => .nil
  | _, _, @Paired.cons _ _ _ x y xs ys h t => by
    obtain ⟨h1, h2, _⟩ := h
    refine .cons ?_ (keys_rep t)
    show Rep K Z (kV x.1) (ofKey y.1)
    rw [h1]
    cases e : y.1 with
    | inl i => exact .int i
    | inr z => rw [e] at h2; exact .str z h2.1 h2.2
theorem own1 {a : M} {vs : List V} (o : OwnL K Z H [a] vs) : ∃ x G, vs = [x] ∧ Own K Z H a x G := by
  cases o with
  | cons h o => cases o; exact ⟨_, _, rfl, h⟩
theorem own2 {a b : M} {vs : List V} (o : OwnL K Z H [a, b] vs) : ∃ x y G G2, vs = [x, y] ∧ Own K Z H a x G ∧ Own K Z H b y G2 := by
  cases o with
  | cons h o => cases o with
    | cons h2 o => cases o; exact ⟨_, _, _, _, rfl, h, h2⟩
theorem len_ok (s : Sub Z H) {a : M} {vs : List V} (o : OwnL K Z H [a] vs) (e : biM .len [a] = some m) (q : Ask K Z H m Q) : rBi K .len vs H Q := by
  obtain ⟨x, G, rfl, ha⟩ := own1 o
  obtain ⟨n, h1, h2⟩ := Option.map_eq_some_iff.mp (show (lenM a).map _ = some m from e)
  subst h2
  have va := ha.view
  unfold lenM at h1
  split at h1 <;> rename_i e1
  · rw [e1] at va; cases h1
    obtain ⟨rfl, _, k2⟩ := va.str
    exact .inr (.inl ⟨_, rfl, k2, q.imm s (.int _)⟩)
  · rw [e1] at va; cases h1
    obtain ⟨c, ws, rfl, h3, r⟩ := va.tup
    exact .inl ⟨c, ws, rfl, .inr (sqT_sub s h3), by rw [r.length]; exact q.imm s (.int _)⟩
  · rw [e1] at va; cases h1
    obtain ⟨c, ws, rfl, h3, r⟩ := va.lstv s
    exact .inl ⟨c, ws, rfl, .inl (SqL.of h3), by rw [r.length]; exact q.imm s (.int _)⟩
  · rw [e1] at va; cases h1
    obtain ⟨c, ws, rfl, h3, r⟩ := va.lstl
    exact .inl ⟨c, ws, rfl, .inl (SqL.of h3), by rw [r.length]; exact q.imm s (.int _)⟩
  · rw [e1] at va; cases h1
    cases va with
    | d h r => exact .inr (.inr ⟨_, _, rfl, h, by rw [dRel_len r]; exact q.imm s (.int _)⟩)
  · rw [e1] at va; cases h1
    cases va with
    | s h _ => exact .inl ⟨_, _, rfl, .inl (sqL_sub s h), by rw [List.length_map]; exact q.imm s (.int _)⟩
  · cases h1
theorem tup_ok (s : Sub Z H) {a : M} {vs : List V} (o : OwnL K Z H [a] vs) (e : biM .tup [a] = some m) (q : Ask K Z H m Q) : rBi K .tup vs H Q := by
  obtain ⟨x, G, rfl, ha⟩ := own1 o
  obtain ⟨ps, h1, h2⟩ := Option.map_eq_some_iff.mp (show (seqOf a).map _ = some m from e)
  subst h2
  obtain ⟨c, ws, rfl, h3, r⟩ := seq_any s ha h1
  rcases h3 with h3 | ⟨h3, h4⟩
  · exact ⟨c, ws, rfl, .inl ⟨SqL.of h3, q.tup s r⟩⟩
  · exact ⟨c, ws, rfl, .inr ⟨h3, q.imm s h4⟩⟩
theorem list_ok (s : Sub Z H) {a : M} {vs : List V} (o : OwnL K Z H [a] vs) (e : biM .list [a] = some m) (q : Ask K Z H m Q) : rBi K .list vs H Q := by
  obtain ⟨x, G, rfl, ha⟩ := own1 o
  dsimp only [biM] at e
  split at e
  · cases e
    cases ha with
    | d h _ r => exact .inr ⟨_, _, rfl, h, q.lst s (keys_rep r)⟩
  · obtain ⟨ps, h1, h2⟩ := Option.map_eq_some_iff.mp e
    subst h2
    obtain ⟨c, ws, rfl, h3, r⟩ := seq_any s ha h1
    rcases h3 with h3 | ⟨h3, h4⟩
    · exact .inl ⟨c, ws, rfl, .inl (SqL.of h3), q.lst s r⟩
    · exact .inl ⟨c, ws, rfl, .inr h3, q.lst s r⟩
theorem dict_ok (s : Sub Z H) {a : M} {vs : List V} (o : OwnL K Z H [a] vs) (e : biM .dict [a] = some m) (q : Ask K Z H m Q) : rBi K .dict vs H Q := by
  obtain ⟨x, G, rfl, ha⟩ := own1 o
  dsimp only [biM] at e
  split at e
  · rename_i ps ep
    obtain ⟨kvs, h1, h2⟩ := Option.map_eq_some_iff.mp e
    subst h2
    obtain ⟨c, ws, rfl, h3, r⟩ := lst_any s ha ep
    obtain ⟨as, zs, rfl, g2, g3⟩ := pairsK_v s h1 r
    exact ⟨c, as, zs, rfl, SqL.of h3, g2, q.dic s (dRel_merge g3 .nil)⟩
  · cases e
theorem int_ok (s : Sub Z H) {a : M} {vs : List V} (o : OwnL K Z H [a] vs) (e : biM .int [a] = some m) (q : Ask K Z H m Q) : rBi K .int vs H Q := by
  obtain ⟨x, G, rfl, ha⟩ := own1 o
  have va := ha.view
  dsimp only [biM] at e
  split at e <;> rename_i e1
  · rw [e1] at va; cases va.int; cases e
    exact .inl ⟨_, rfl, q.imm s (.int _)⟩
  · rw [e1] at va; cases va.bl; cases e
    exact .inr ⟨_, rfl, q.imm s (.int _)⟩
  · cases e
theorem sorted_ok (s : Sub Z H) {a : M} {vs : List V} (o : OwnL K Z H [a] vs) (e : biM .sorted [a] = some m) (q : Ask K Z H m Q) : rBi K .sorted vs H Q := by
  obtain ⟨x, G, rfl, ha⟩ := own1 o
  dsimp only [biM] at e
  split at e
  · rename_i ps ep
    obtain ⟨c, ws, rfl, h3, r⟩ := lst_any s ha ep
    split at e
    · rename_i hl
      split at e
      · rename_i xs ex
        cases e
        obtain ⟨rfl, ok⟩ := strsOf_v ex r
        refine .inl ⟨c, xs, rfl, SqL.of h3, by rw [← List.length_map (f := V.str), r.length]; exact hl, fun ys p hp hs hn => ?_⟩
        have ey := sortS_eq hp hs
        subst ey
        exact q.lst s (repL_strs fun z hz => ok z (hp.mem_iff.mp hz)) p hn
      · obtain ⟨ns, h1, h2⟩ := Option.map_eq_some_iff.mp e
        subst h2
        have ew := intsOf_v h1 r
        subst ew
        refine .inr ⟨c, ns, rfl, SqL.of h3, by rw [← List.length_map (f := V.int), r.length]; exact hl, fun ys p hp hs hn => ?_⟩
        have ey := sortI_eq hp hs
        subst ey
        exact q.lst s repL_ints p hn
    · cases e
  · cases e
theorem all_ok (s : Sub Z H) {a : M} {vs : List V} (o : OwnL K Z H [a] vs) (e : biM .all [a] = some m) (q : Ask K Z H m Q) : rBi K .all vs H Q := by
  obtain ⟨x, G, rfl, ha⟩ := own1 o
  dsimp only [biM] at e
  split at e
  · rename_i ps ep
    obtain ⟨bs, h1, h2⟩ := Option.map_eq_some_iff.mp e
    subst h2
    obtain ⟨c, ws, rfl, h3, r⟩ := lst_any s ha ep
    have ew := boolsOf_v h1 r
    subst ew
    exact ⟨c, bs, rfl, SqL.of h3, q.imm s (.bl _)⟩
  · cases e
theorem any_ok (s : Sub Z H) {a : M} {vs : List V} (o : OwnL K Z H [a] vs) (e : biM .any [a] = some m) (q : Ask K Z H m Q) : rBi K .any vs H Q := by
  obtain ⟨x, G, rfl, ha⟩ := own1 o
  dsimp only [biM] at e
  split at e
  · rename_i ps ep
    obtain ⟨bs, h1, h2⟩ := Option.map_eq_some_iff.mp e
    subst h2
    obtain ⟨c, ws, rfl, h3, r⟩ := lst_any s ha ep
    have ew := boolsOf_v h1 r
    subst ew
    exact ⟨c, bs, rfl, SqL.of h3, q.imm s (.bl _)⟩
  · cases e
theorem sum_ok (s : Sub Z H) {a : M} {vs : List V} (o : OwnL K Z H [a] vs) (e : biM .sum [a] = some m) (q : Ask K Z H m Q) : rBi K .sum vs H Q := by
  obtain ⟨x, G, rfl, ha⟩ := own1 o
  dsimp only [biM] at e
  split at e
  · rename_i ps ep
    obtain ⟨bs, h1, h2⟩ := Option.map_eq_some_iff.mp e
    subst h2
    obtain ⟨c, ws, rfl, h3, r⟩ := lst_any s ha ep
    have ew := intsOf_v h1 r
    subst ew
    exact ⟨c, bs, rfl, SqL.of h3, q.imm s (.int _)⟩
  · cases e
theorem abs_ok (s : Sub Z H) {a : M} {vs : List V} (o : OwnL K Z H [a] vs) (e : biM .abs [a] = some m) (q : Ask K Z H m Q) : rBi K .abs vs H Q := by
  obtain ⟨x, G, rfl, ha⟩ := own1 o
  have va := ha.view
  dsimp only [biM] at e
  split at e <;> rename_i e1
  · rw [e1] at va; cases va.int; cases e
    exact ⟨_, rfl, q.imm s (.int _)⟩
  · cases e
theorem max2_ok (s : Sub Z H) {a b : M} {vs : List V} (o : OwnL K Z H [a, b] vs) (e : biM .max2 [a, b] = some m) (q : Ask K Z H m Q) : rBi K .max2 vs H Q := by
  obtain ⟨x, y, G, G2, rfl, ha, hb⟩ := own2 o
  have va := ha.view
  have vb := hb.view
  dsimp only [biM] at e
  split at e
  · rename_i e1 e2
    rw [e1] at va; rw [e2] at vb; cases va.int; cases vb.int; cases e
    exact ⟨_, _, rfl, q.imm s (.int _)⟩
  · cases e
theorem min2_ok (s : Sub Z H) {a b : M} {vs : List V} (o : OwnL K Z H [a, b] vs) (e : biM .min2 [a, b] = some m) (q : Ask K Z H m Q) : rBi K .min2 vs H Q := by
  obtain ⟨x, y, G, G2, rfl, ha, hb⟩ := own2 o
  have va := ha.view
  have vb := hb.view
  dsimp only [biM] at e
  split at e
  · rename_i e1 e2
    rw [e1] at va; rw [e2] at vb; cases va.int; cases vb.int; cases e
    exact ⟨_, _, rfl, q.imm s (.int _)⟩
  · cases e
/-- the built-ins of one rule -/
def biArity : BI → Nat
  | .max2 => 2 | .min2 => 2
  | .len => 1 | .tup => 1 | .list => 1 | .dict => 1 | .int => 1 | .sorted => 1 | .all => 1 | .any => 1 | .sum => 1 | .abs => 1
  | _ => 0
theorem one_of {ms : List M} (h : ms.length = 1) : ∃ a, ms = [a] := by
  match ms, h with
  | [a], _ => exact ⟨a, rfl⟩
theorem two_of {ms : List M} (h : ms.length = 2) : ∃ a b, ms = [a, b] := by
  match ms, h with
  | [a, b], _ => exact ⟨a, b, rfl⟩
theorem bi_ok (b : BI) (s : Sub Z H) {ms : List M} {vs : List V} (h0 : biArity b ≠ 0) (hl : ms.length = biArity b) (o : OwnL K Z H ms vs) (e : biM b ms = some m) (q : Ask K Z H m Q) : rBi K b vs H Q := by
  cases b <;> first | exact (h0 rfl).elim | skip
  · obtain ⟨a, rfl⟩ := one_of hl; exact len_ok s o e q
  · obtain ⟨a, rfl⟩ := one_of hl; exact tup_ok s o e q
  · obtain ⟨a, rfl⟩ := one_of hl; exact list_ok s o e q
  · obtain ⟨a, rfl⟩ := one_of hl; exact dict_ok s o e q
  · obtain ⟨a, rfl⟩ := one_of hl; exact int_ok s o e q
  · obtain ⟨a, rfl⟩ := one_of hl; exact sorted_ok s o e q
  · obtain ⟨a, rfl⟩ := one_of hl; exact all_ok s o e q
  · obtain ⟨a, rfl⟩ := one_of hl; exact any_ok s o e q
  · obtain ⟨a, b, rfl⟩ := two_of hl; exact min2_ok s o e q
  · obtain ⟨a, b, rfl⟩ := two_of hl; exact max2_ok s o e q
  · obtain ⟨a, rfl⟩ := one_of hl; exact abs_ok s o e q
  · obtain ⟨a, rfl⟩ := one_of hl; exact sum_ok s o e q
end
end Mn
end
section
set_option maxHeartbeats 200000
namespace Mn
open PySem L2
variable [WW]

/-- locked variables stay, handed in ones are there -/
structure Lk (X : Cxt) (ρ ρ' : Env) : Prop where
  lk : ∀ i m, slot ρ i = some (.k m) → slot ρ' i = some (.k m)
  pm : ∀ i, pmAt X i = true → slot ρ i ≠ none → slot ρ' i ≠ none
  len : ρ'.length = ρ.length
theorem Lk.refl {X : Cxt} (ρ : Env) : Lk X ρ ρ := ⟨fun _ _ h => h, fun _ _ h => h, rfl⟩
theorem Lk.trans {X : Cxt} {a b c : Env} (x : Lk X a b) (y : Lk X b c) : Lk X a c := ⟨fun i m h => y.lk i m (x.lk i m h), fun i h q => y.pm i h (x.pm i h q), y.len.trans x.len⟩
theorem slot_set (ρ : Env) (i j : Nat) (o : Option M) : slot (ρ.set i o) j = if i = j ∧ i < ρ.length then o else slot ρ j := by
  unfold slot
  by_cases e : i = j
  · subst e
    by_cases h : i < ρ.length
    · rw [if_pos ⟨rfl, h⟩, List.getElem?_set_self h]; cases o <;> rfl
    · rw [if_neg (fun q => h q.2), List.getElem?_eq_none (by simpa using h), List.getElem?_eq_none (by simpa using h)]
  · rw [if_neg (fun q => e q.1), List.getElem?_set_ne e]
theorem slot_lt {ρ : Env} {i : Nat} {m : M} (h : slot ρ i = some m) : i < ρ.length := by
  unfold slot at h
  cases e : ρ[i]? with
  | none => rw [e] at h; cases h
  | some o => exact (List.getElem?_eq_some_iff.mp e).1
theorem slot_self {ρ : Env} {i : Nat} (o : Option M) (h : i < ρ.length) : slot (ρ.set i o) i = o := by rw [slot_set, if_pos ⟨rfl, h⟩]
theorem slot_other {ρ : Env} {i j : Nat} (o : Option M) (h : i ≠ j) : slot (ρ.set i o) j = slot ρ j := by rw [slot_set, if_neg fun q => h q.1]

section
variable {K : PySem.W.Frag} {Z H Z' H' : Hp} {A A' : AS} {σ : St} {ρ ρ' : Env} {F : Nat → List Addr} {m : M} {v : V} {G : List Addr} {i : Nat}
/-- footprints with one exchanged -/
def fset (F : Nat → List Addr) (i : Nat) (G : List Addr) : Nat → List Addr := fun j => if j = i then G else F j
theorem fset_self (F : Nat → List Addr) (i : Nat) (G : List Addr) : fset F i G i = G := if_pos rfl
theorem fset_ne (F : Nat → List Addr) {i j : Nat} (G : List Addr) (h : j ≠ i) : fset F i G j = F j := if_neg h
theorem U_fset {a : Addr} (h : U (fset F i G) a) : a ∈ G ∨ ∃ j, j ≠ i ∧ a ∈ F j := by
  obtain ⟨j, h⟩ := h
  by_cases e : j = i
  · subst e; rw [fset_self] at h; exact .inl h
  · rw [fset_ne F G e] at h; exact .inr ⟨j, e, h⟩
/-- a variable is taken out -/
theorem Rel.del (R : Rel K Z H σ ρ F) (i : Nat) : Rel K Z H σ (ρ.set i none) (fset F i []) := by
  refine ⟨R.sub, by rw [List.length_set]; exact R.len, fun j m e => ?_, fun j e => ?_, fun j k a h1 h2 => ?_⟩
  · have hj : j ≠ i := by
      intro q; subst q
      by_cases h : j < ρ.length
      · rw [slot_self _ h] at e; cases e
      · rw [slot_set, if_neg (fun q => h q.2)] at e; exact h (slot_lt e)
    rw [slot_other _ (Ne.symm hj)] at e
    rw [fset_ne F [] hj]
    exact R.own j m e
  · by_cases hj : j = i
    · subst hj; exact fset_self F j []
    · rw [fset_ne F [] hj]
      rw [slot_other _ (Ne.symm hj)] at e
      exact R.no j e
  · by_cases h3 : j = i
    · subst h3; rw [fset_self] at h1; cases h1
    · by_cases h4 : k = i
      · subst h4; rw [fset_self] at h2; cases h2
      · rw [fset_ne F [] h3] at h1
        rw [fset_ne F [] h4] at h2
        exact R.dj j k a h1 h2
theorem U_del {a : Addr} (h : U (fset F i []) a) : U F a := by
  rcases U_fset h with h | ⟨j, _, h⟩
  · cases h
  · exact ⟨j, h⟩
theorem Rel.del_own (R : Rel K Z H σ ρ F) {m : M} (e : slot ρ i = some m) : ∃ v, σ[i]? = some (some v) ∧ Own K Z H m v (F i) ∧ ∀ a ∈ F i, ¬ U (fset F i []) a := by
  obtain ⟨v, h1, h2⟩ := R.own i m e
  refine ⟨v, h1, h2, fun a ha hu => ?_⟩
  rcases U_fset hu with hu | ⟨j, hj, hu⟩
  · cases hu
  · exact hj (R.dj j i a hu ha)
/-- a variable that holds nothing is put in; its slot holds v -/
theorem Rel.put (R : Rel K Z H σ ρ F) (hn : slot ρ i = none) (hi : i < ρ.length) (hs : σ[i]? = some (some v)) (o : Own K Z H m v G) (d : ∀ a ∈ G, ¬ U F a) : Rel K Z H σ (ρ.set i (some m)) (fset F i G) := by
  refine ⟨R.sub, by rw [List.length_set]; exact R.len, fun j m' e => ?_, fun j e => ?_, fun j k a h1 h2 => ?_⟩
  · by_cases hj : j = i
    · subst hj
      rw [slot_self _ hi] at e; cases e
      rw [fset_self]
      exact ⟨v, hs, o⟩
    · rw [slot_other _ (Ne.symm hj)] at e
      rw [fset_ne F G hj]
      exact R.own j m' e
  · by_cases hj : j = i
    · subst hj; rw [slot_self _ hi] at e; cases e
    · rw [slot_other _ (Ne.symm hj)] at e
      rw [fset_ne F G hj]
      exact R.no j e
  · by_cases h3 : j = i
    · subst h3
      by_cases h4 : k = j
      · exact h4.symm
      · rw [fset_self] at h1; rw [fset_ne F G h4] at h2
        exact (d a h1 ⟨k, h2⟩).elim
    · by_cases h4 : k = i
      · subst h4
        rw [fset_self] at h2; rw [fset_ne F G h3] at h1
        exact (d a h2 ⟨j, h1⟩).elim
      · rw [fset_ne F G h3] at h1
        rw [fset_ne F G h4] at h2
        exact R.dj j k a h1 h2
/-- the slot itself is stored -/
theorem Rel.slotSet (R : Rel K Z H σ ρ F) (hn : slot ρ i = none) (x : V) : Rel K Z H (σ.set i (some x)) ρ F := by
  refine ⟨R.sub, by rw [List.length_set]; exact R.len, fun j m e => ?_, R.no, R.dj⟩
  have hj : i ≠ j := by intro q; subst q; rw [hn] at e; cases e
  rw [List.getElem?_set_ne hj]
  exact R.own j m e
/-- code that touches A alone -/
theorem Rel.frame (R : Rel K Z H σ ρ F) (x : Step Z H Z' H' A A') (s : Sub Z' H') (d : ∀ a, U F a → ¬ A a) : Rel K Z' H' σ ρ F :=
  ⟨s, R.len, fun j m e => by
    obtain ⟨v, h1, h2⟩ := R.own j m e
    exact ⟨v, h1, (h2.step (fun a ha => d a ⟨j, ha⟩) x s).1⟩, R.no, R.dj⟩
/-- a variable's content is exchanged, its slot's value is the same -/
theorem Rel.upd (R : Rel K Z H σ ρ F) {m' : M} (e : slot ρ i = some m') (x : Step Z H Z' H' (· ∈ F i) A') (s : Sub Z' H') (hs : σ[i]? = some (some v)) (o : Own K Z' H' m v G) (d : ∀ a ∈ G, a ∈ F i ∨ H a = none) :
    Rel K Z' H' σ (ρ.set i (some m)) (fset F i G) ∧ Step Z H Z' H' (U F) (U (fset F i G)) := by
  have R1 := (R.del i).frame x s (fun a hu hi => by
    rcases U_fset hu with hu | ⟨j, hj, hu⟩
    · cases hu
    · exact hj (R.dj j i a hu hi))
  have hi := slot_lt e
  have e2 : ρ.set i (some m) = (ρ.set i none).set i (some m) := by rw [List.set_set]
  have ef : fset F i G = fset (fset F i []) i G := by
    funext j
    by_cases hj : j = i
    · subst hj; rw [fset_self, fset_self]
    · rw [fset_ne F G hj, fset_ne _ G hj, fset_ne F [] hj]
  refine ⟨?_, ⟨fun a u h n => x.fr a u h fun q => n ⟨i, q⟩, x.zz, fun a u h => ?_, fun a h => ?_, x.fz⟩⟩
  · rw [e2, ef]
    refine R1.put (slot_self _ hi) (by rw [List.length_set]; exact hi) hs o fun a ha hu => ?_
    rcases U_fset hu with hu | ⟨j, hj, hu⟩
    · cases hu
    · rcases d a ha with q | q
      · exact hj (R.dj j i a hu q)
      · obtain ⟨_, u, hu2, _⟩ := R.mem ⟨j, hu⟩
        rw [q] at hu2; cases hu2
  · rcases x.zn a u h with q | q | q | q
    · exact .inl q
    · exact .inr (.inl ⟨i, q⟩)
    · exact .inr (.inr (.inl q))
    · exact .inr (.inr (.inr q))
  · rcases U_fset h with h | ⟨j, _, h⟩
    · rcases d a h with q | q
      · exact .inl ⟨i, q⟩
      · exact .inr q
    · exact .inl ⟨j, h⟩
end

structure Go (K : PySem.W.Frag) (X : Cxt) (σ : St) (Z H : Hp) (ρ : Env) (F : Nat → List Addr) (Z' H' : Hp) (ρ' : Env) (F' : Nat → List Addr) : Prop where
  rel : Rel K Z' H' σ ρ' F'
  st : Step Z H Z' H' (U F) (U F')
  lk : Lk X ρ ρ'
theorem Go.refl {K : PySem.W.Frag} {X : Cxt} {σ : St} {Z H : Hp} {ρ : Env} {F : Nat → List Addr} (R : Rel K Z H σ ρ F) : Go K X σ Z H ρ F Z H ρ F := ⟨R, Step.refl _, Lk.refl _⟩
theorem Go.trans {K : PySem.W.Frag} {X : Cxt} {σ : St} {Z H Z1 H1 Z2 H2 : Hp} {ρ ρ1 ρ2 : Env} {F F1 F2 : Nat → List Addr} (x : Go K X σ Z H ρ F Z1 H1 ρ1 F1) (y : Go K X σ Z1 H1 ρ1 F1 Z2 H2 ρ2 F2) : Go K X σ Z H ρ F Z2 H2 ρ2 F2 :=
  ⟨y.rel, x.st.trans y.st, x.lk.trans y.lk⟩
theorem Go.alloc {K : PySem.W.Frag} {X : Cxt} {σ : St} {Z H Z1 H1 Z2 H2 : Hp} {ρ ρ1 : Env} {F F1 : Nat → List Addr} {G : List Addr} (x : Go K X σ Z H ρ F Z1 H1 ρ1 F1) (y : Alloc Z1 H1 Z2 H2 G) : Go K X σ Z H ρ F Z2 H2 ρ1 F1 :=
  ⟨x.rel.alloc y, x.st.trans (y.step _), x.lk⟩
/-- an owned answer behind a walk -/
structure Res (K : PySem.W.Frag) (Z H : Hp) (A : AS) (Z' H' : Hp) (F' : Nat → List Addr) (m : M) (v : V) (G : List Addr) : Prop where
  own : Own K Z' H' m v G
  ap : ∀ a ∈ G, ¬ U F' a
  nw : ∀ a ∈ G, A a ∨ H a = none
theorem new_back {Z H Z' H' : Hp} {A A' : AS} (x : Step Z H Z' H' A A') {a : Addr} (h : H' a = none) : A a ∨ H a = none := by
  by_cases q : A a
  · exact .inl q
  · cases e : H a with
    | none => exact .inr rfl
    | some u => rw [x.fr a u e q] at h; cases h
/-- an owned answer that is carried on -/
theorem Res.carry {K : PySem.W.Frag} {X : Cxt} {σ : St} {Z H Z1 H1 Z2 H2 : Hp} {A : AS} {ρ1 ρ2 : Env} {F1 F2 : Nat → List Addr} {m : M} {v : V} {G : List Addr} (r : Res K Z H A Z1 H1 F1 m v G) (y : Go K X σ Z1 H1 ρ1 F1 Z2 H2 ρ2 F2) : Res K Z H A Z2 H2 F2 m v G :=
  let ⟨a, b⟩ := r.own.step r.ap y.st y.rel.sub
  ⟨a, b, r.nw⟩
abbrev Ev1 := Env → Option (M × Env)
/-- an expression's reading: whatever g answers -/
def TEx (K : PySem.W.Frag) (X : Cxt) (g : Ev1) : TE := fun σ H Q => ∃ Z ρ F m ρ', Rel K Z H σ ρ F ∧ g ρ = some (m, ρ') ∧
  ∀ Z' H' F' v G, Go K X σ Z H ρ F Z' H' ρ' F' → Res K Z H (U F) Z' H' F' m v G → Q v H'
def TTs (K : PySem.W.Frag) (X : Cxt) (g : Ev1) : TT := fun σ H Q => ∃ Z ρ F b ρ', Rel K Z H σ ρ F ∧ g ρ = some (.v (.bool b), ρ') ∧ ∀ Z' H' F', Go K X σ Z H ρ F Z' H' ρ' F' → Q b H'
/-- an operand's value -/
def OpdOk (K : PySem.W.Frag) (Z H : Hp) (A : AS) (σ : St) (Z' H' : Hp) (F' : Nat → List Addr) (r : R) (v : V) (G : List Addr) : Prop := match r with
  | .pl i => σ[i]? = some (some v) ∧ G = []
  | .vl m => Res K Z H A Z' H' F' m v G
def TOp (K : PySem.W.Frag) (X : Cxt) (g : Env → Option (R × Env)) : TE := fun σ H Q => ∃ Z ρ F r ρ', Rel K Z H σ ρ F ∧ g ρ = some (r, ρ') ∧
  ∀ Z' H' F' v G, Go K X σ Z H ρ F Z' H' ρ' F' → OpdOk K Z H (U F) σ Z' H' F' r v G → Q v H'
section
variable {K : PySem.W.Frag} {X : Cxt} {σ : St} {Z H Z1 H1 Z2 H2 : Hp} {A : AS} {ρ ρ1 ρ2 : Env} {F F1 F2 : Nat → List Addr} {r : R} {m : M} {v : V} {G : List Addr}
theorem OpdOk.carry (o : OpdOk K Z H A σ Z1 H1 F1 r v G) (y : Go K X σ Z1 H1 ρ1 F1 Z2 H2 ρ2 F2) : OpdOk K Z H A σ Z2 H2 F2 r v G := by
  cases r with
  | pl i => exact o
  | vl m => exact Res.carry o y
theorem OpdOk.rd (o : OpdOk K Z H A σ Z1 H1 F1 r v G) (R : Rel K Z1 H1 σ ρ1 F1) (e : rd ρ1 r = some m) : ∃ G', Own K Z1 H1 m v G' := by
  cases r with
  | pl i =>
    obtain ⟨h1, h2⟩ := o
    obtain ⟨w, h3, h4⟩ := R.own i m e
    rw [h1] at h3; cases h3
    exact ⟨_, h4⟩
  | vl m2 => cases e; exact ⟨G, Res.own o⟩
end
theorem PE.mono {X : Cx} {e : Expr} {t t' : TE} (h : PE X e t) (i : ∀ σ H Q, t' σ H Q → t σ H Q) : PE X e t' := ⟨fun pins s σ H Q J q => h.run pins s σ H Q J (i σ H Q q)⟩
theorem PT.mono {X : Cx} {e : Expr} {t t' : TT} (h : PT X e t) (i : ∀ σ H Q, t' σ H Q → t σ H Q) : PT X e t' := ⟨fun pins s σ H Q J q => h.run pins s σ H Q J (i σ H Q q)⟩
theorem PS.mono {X : Cx} {e : Stmt} {t t' : TS} (h : PS X e t) (i : ∀ D σ H, t' D σ H → t D σ H) : PS X e t' := ⟨fun pins s σ H D J q => h.run pins s σ H D J (i D σ H q)⟩
theorem PSs.mono {X : Cx} {e : List Stmt} {t t' : TS} (h : PSs X e t) (i : ∀ D σ H, t' D σ H → t D σ H) : PSs X e t' := ⟨fun pins s σ H D J q => h.run pins s σ H D J (i D σ H q)⟩
theorem PA.mono {X : Cx} {e : List Expr} {t t' : TA} (h : PA X e t) (i : ∀ σ H Q, t' σ H Q → t σ H Q) : PA X e t' := ⟨fun pos pins s σ H Q J q => h.run pos pins s σ H Q J (i σ H Q q)⟩
/-- an answer of an operation behind a walk -/
theorem ask_done {K : PySem.W.Frag} {X : Cxt} {σ : St} {Z H Z1 H1 : Hp} {ρ ρ1 : Env} {F F1 : Nat → List Addr} {m : M} {Q : VK} (g : Go K X σ Z H ρ F Z1 H1 ρ1 F1)
    (q : ∀ Z' H' F' v G, Go K X σ Z H ρ F Z' H' ρ1 F' → Res K Z H (U F) Z' H' F' m v G → Q v H') : Ask K Z1 H1 m Q := fun Z' H' v G al o =>
  q Z' H' F1 v G (g.alloc al) ⟨o, g.rel.apart al.gn, fun a ha => new_back g.st (al.gn a ha)⟩
end Mn
end
section
set_option maxHeartbeats 200000
namespace Mn
open PySem L2 PySem.Spec
variable [WW]

/-- a def's promise: whatever C answers -/
inductive ArgO (K : PySem.W.Frag) (Z H : Hp) : List M → List V → List (List Addr) → Prop
  | nil : ArgO K Z H [] [] []
  | cons {m : M} {v : V} {G : List Addr} {ms : List M} {vs : List V} {Gs : List (List Addr)} : Own K Z H m v G → ArgO K Z H ms vs Gs → (∀ a ∈ G, ∀ G2 ∈ Gs, a ∉ G2) → ArgO K Z H (m :: ms) (v :: vs) (G :: Gs)
/-- the same number, locked things the same -/
def LkA (ds ds' : List M) : Prop := ds'.length = ds.length ∧ ∀ (j : Nat) (m : M), ds[j]? = some (.k m) → ds'[j]? = some (.k m)
def inL (Gs : List (List Addr)) : AS := fun a => ∃ G ∈ Gs, a ∈ G
abbrev FnS := Nat → List M → Option (M × List M)
def spF (K : PySem.W.Frag) (C : FnS) (f : Nat) : Sp := fun vs H Q _ => ∃ Z ds d ds' Gs, C f ds = some (d, ds') ∧ Sub Z H ∧ ArgO K Z H ds vs Gs ∧
  ∀ Z' H' v G Gs', Sub Z' H' → Step Z H Z' H' (inL Gs) (inL (G :: Gs')) → Own K Z' H' d v G → ArgO K Z' H' ds' vs Gs' → (∀ a ∈ G, ¬ inL Gs' a) → LkA ds ds' → Q v H'
def bnames : List Str := ["len", "tuple", "list", "dict", "int", "sorted", "all", "any", "sum", "abs", "max", "min", "isinstance", "range", "enumerate", "zip", "set", "str", "bool"]
structure Good (T : Tab) (k : Nat) (cx : Cxt) (X : Cx) : Prop where
  calm : X.calm = true
  nd : X.N.Nodup
  room : Room k X.A
  fns : ∀ f F, T.fs[f]? = some F → ∃ a fd, X.mg F.name = some (.ref a) ∧ PySem.W.keepIn X.K (.ref a) = true ∧ Binds X.K fd (F.N.take F.np) [] ∧ FnOk X.prog X.w X.K X.mg X.base CX0 k a fd (F.N.take F.np) (spF X.K cx.C f)
  free : ∀ x ∈ bnames, X.mg x = none
  gs : ∀ c p, cx.gs c = some p → ∃ x u v, (T.gs[c]?).map (·.1) = some x ∧ X.mg x = some u ∧ RelV v u ∧ Rep X.K (fun _ => none) v p
  xe : X.xe = fun _ _ => False
  at_ : AtW X
def visB (sc : Scope) (x : Str) : Bool := match sc.names.lookup x with
  | some .local => true | some .cell => true | some .free => true
  | _ => false
theorem vis_of {sc : Scope} {x : Str} (h : visB sc x = true) : Vis sc x := by
  unfold visB at h
  split at h
  · exact .inl (by assumption)
  · exact .inr (.inl (by assumption))
  · exact .inr (.inr (by assumption))
  · cases h
def plainB (x : Str) : Bool := !(x == ("__debug__" : Str)) && (!(x == ("__classdict__" : Str)) && !(x == ("__name__" : Str)))
def nmB (N : List Str) (sc : Scope) (i : Nat) (x : Str) : Bool := decide (N[i]? = some x) && (visB sc x && plainB x)
def glB (sc : Scope) (x : Str) : Bool := (match sc.names.lookup x with
  | some .globalImplicit => true
  | _ => false) && plainB x
theorem plain_of {x : Str} (h : plainB x = true) : (x == ("__debug__" : Str)) = false ∧ (x == ("__classdict__" : Str)) = false ∧ x ≠ ("__name__" : Str) := by
  unfold plainB at h
  simp only [Bool.and_eq_true, Bool.not_eq_true'] at h
  exact ⟨h.1, h.2.1, fun e => by rw [e] at h; simp at h⟩
theorem gl_of {X : Cx} {x : Str} (h : glB X.env.scope x = true) : Gl X x ∧ plainB x = true := by
  unfold glB at h
  rw [Bool.and_eq_true] at h
  refine ⟨?_, h.2⟩
  have h1 := h.1
  split at h1
  · assumption
  · cases h1
section
variable {T : Tab} {k : Nat} {cx : Cxt} {X : Cx} {x y z : Expr} {pos p2 : Pos}
theorem nm_pe {i : Nat} {n : Str} (h : nmB X.N X.env.scope i n = true) : PE X (.Name n pos) (tVar i) := by
  unfold nmB at h
  simp only [Bool.and_eq_true, decide_eq_true_eq] at h
  obtain ⟨h1, h2, h3⟩ := plain_of h.2.2 |> fun q => (⟨h.1, h.2.1, q⟩ : _ ∧ _ ∧ _)
  exact pe_var h1 (vis_of h2) h3.1 h3.2.1

theorem top_pl {i : Nat} {g : Ev1} (h : PE X x (tVar i)) : PE X x (TOp X.K cx (opE (.pl i) g)) := PE.mono h fun σ H Q ⟨Z, ρ, F, r, ρ', R, e, q⟩ => by
  simp only [opE] at e
  split at e
  · rename_i m em
    cases e
    obtain ⟨v, h1, h2⟩ := R.own i m em
    exact ⟨v, h1, q Z H F v [] (.refl R) ⟨h1, rfl⟩⟩
  · cases e
def isPl : E → Bool
  | .pl _ => true
  | _ => false
theorem opE_ex {e : E} (h : isPl e = false) (g : Ev1) (ρ : Env) : opE e g ρ = match g ρ with
    | some (m, ρ) => some (.vl m, ρ)
    | none => none := by
  cases e <;> first | rfl | cases h
theorem top_ex {e : E} {g : Ev1} (hp : isPl e = false) (h : PE X x (TEx X.K cx g)) : PE X x (TOp X.K cx (opE e g)) := PE.mono h fun σ H Q ⟨Z, ρ, F, r, ρ', R, e, q⟩ => by
  rw [opE_ex hp] at e
  split at e
  · rename_i m ρ2 em
    cases e
    exact ⟨Z, ρ, F, m, _, R, em, fun Z' H' F' v G g1 r1 => q Z' H' F' v G g1 r1⟩
  · cases e
def TPx (K : PySem.W.Frag) (X : Cxt) (g : Env → Option (P × Env)) : TE := fun σ H Q => ∃ Z ρ F p ρ', Rel K Z H σ ρ F ∧ g ρ = some (p, ρ') ∧
  ∀ Z' H' F' v, Go K X σ Z H ρ F Z' H' ρ' F' → Rep K Z' v p → Q v H'
/-- a thing of one's own becomes immutable: Z grows at a, the heap at a becomes o (the same thing, or locked) -/
theorem freeze {K : PySem.W.Frag} {σ : St} {Z H Z1 H1 : Hp} {ρ ρ1 : Env} {F F1 : Nat → List Addr} {a : Addr} {u o : HO} (g : Go K cx σ Z H ρ F Z1 H1 ρ1 F1) (hu : H1 a = some u) (hz : Z1 a = none) (ap : ¬ U F1 a) (nw : U F a ∨ H a = none) (nt : notTup u) (nf : ∀ o' u', u ≠ .frz o' u')
    (ou : o = u ∨ ∃ ob, o = .frz ob u) : Go K cx σ Z H ρ F (upd Z1 a o) (upd H1 a o) ρ1 F1 ∧ Sub Z1 (upd Z1 a o) := by
  have zz : Sub Z1 (upd Z1 a o) := sub_upd hz
  have hs : Sub (upd Z1 a o) (upd H1 a o) := fun b w e => by
    by_cases q : b = a
    · subst q; rw [upd_same] at e; rw [upd_same]; exact e
    · rw [upd_ne q] at e; rw [upd_ne q]; exact g.rel.sub b w e
  have st : Step Z1 H1 (upd Z1 a o) (upd H1 a o) (· = a) (fun _ => False) := ⟨fun b w e n => by rw [upd_ne n]; exact e, zz, fun b w e => by
    by_cases q : b = a
    · exact .inr (.inl q)
    · rw [upd_ne q] at e; exact .inl e, fun _ h => h.elim, fun b o' u' e => by
    by_cases q : b = a
    · subst q; rw [hu] at e; cases e; exact (nf _ _ rfl).elim
    · rw [upd_ne q]; exact e⟩
  refine ⟨⟨g.rel.frame st hs fun b hb q => ap (q ▸ hb), ⟨fun b w e n => ?_, g.st.zz.trans zz, fun b w e => ?_, g.st.an, fun b o' u' e => st.fz b o' u' (g.st.fz b o' u' e)⟩, g.lk⟩, zz⟩
  · have h1 := g.st.fr b w e n
    by_cases q : b = a
    · subst q
      rcases nw with h | h
      · exact (n h).elim
      · rw [h] at e; cases e
    · rw [upd_ne q]; exact h1
  · by_cases q : b = a
    · subst q
      rcases nw with h | h
      · exact .inr (.inl h)
      · exact .inr (.inr (.inl h))
    · rw [upd_ne q] at e; exact g.st.zn b w e
theorem upd_eq {H : Hp} {a : Addr} {o : HO} (h : H a = some o) : upd H a o = H := by
  funext b
  by_cases q : b = a
  · subst q; rw [upd_same, h]
  · exact upd_ne q
theorem frzK_rep {K : PySem.W.Frag} {Z : Hp} : ∀ {vs : List (Key × V)} {ps : List (Key × P)}, DRel K Z vs ps → RepK K Z vs (ps.map fun kv => (ofKey kv.1, kv.2))
  | _, _, .nil => .nil
  | _, _, @Paired.cons _ _ _ x y xs ys h t => by
    obtain ⟨h1, h2, h3⟩ := h
    obtain ⟨k, v⟩ := x
    obtain ⟨k2, p⟩ := y
    cases h1
    exact .cons h2 h3 (frzK_rep t)
theorem frzT_rep {K : PySem.W.Frag} {Z : Hp} : ∀ {vs : List (List Key × V)} {ps : List (List Key × P)}, TRel K Z vs ps → RepT K Z vs (ps.map fun kv => (ofKeys kv.1, kv.2))
  | _, _, .nil => .nil
  | _, _, @Paired.cons _ _ _ x y xs ys h t => by
    obtain ⟨h1, h2, h3⟩ := h
    obtain ⟨k, v⟩ := x
    obtain ⟨k2, p⟩ := y
    cases h1
    exact .cons h2 h3 (frzT_rep t)
/-- .. at the state itself: its rule for a locked heap -/
theorem fz_run {pins : List (Addr × Obj)} {s s0 : Shared} {σ : St} {Z H Z1 H1 : Hp} {ρ ρ1 : Env} {F F1 : Nat → List Addr} {m : M} {v : V} {G : List Addr} {p : P} (J : Inv X pins σ H1 s) (g : Go X.K cx σ Z H ρ F Z1 H1 ρ1 F1) (r : Res X.K Z H (U F) Z1 H1 F1 m v G) (e : toP m = some p) :
    ∃ Z2 H2, Inv X pins σ H2 s ∧ Go X.K cx σ Z H ρ F Z2 H2 ρ1 F1 ∧ Rep X.K Z2 v p := by
  obtain ⟨o, ap, nw⟩ := r
  cases o with
  | v h => cases e; exact ⟨Z1, H1, J, g, h⟩
  | @l a vs ps h hz r1 =>
    cases e
    obtain ⟨g2, zz⟩ := freeze (o := .lst vs) g h hz (ap a (by simp)) (nw a (by simp)) trivial (fun _ _ z => by cases z) (.inl rfl)
    rw [upd_eq h] at g2
    exact ⟨_, H1, J, g2, .lst upd_same (r1.sub zz)⟩
  | @d a vs ps h hz r1 =>
    cases e
    obtain ⟨od, J2⟩ := J.lock h trivial
    obtain ⟨g2, zz⟩ := freeze (o := .frz od (.dK vs)) g h hz (ap a (by simp)) (nw a (by simp)) trivial (fun _ _ z => by cases z) (.inr ⟨od, rfl⟩)
    exact ⟨_, _, J2, g2, .dk upd_same ((frzK_rep r1).sub zz)⟩
  | @t a vs ps h hz r1 =>
    cases e
    obtain ⟨od, J2⟩ := J.lock h trivial
    obtain ⟨g2, zz⟩ := freeze (o := .frz od (.dT vs)) g h hz (ap a (by simp)) (nw a (by simp)) trivial (fun _ _ z => by cases z) (.inr ⟨od, rfl⟩)
    exact ⟨_, _, J2, g2, .dt upd_same ((frzT_rep r1).sub zz)⟩
  | n _ _ _ _ => cases e
  | s _ _ => cases e
  | rn _ _ _ => cases e
  | rt _ _ _ => cases e
  | kl _ _ _ => cases e
  | kd _ _ _ => cases e
  | kt _ _ _ => cases e
theorem px_of {g : Ev1} (h : PE X x (TEx X.K cx g)) : PE X x (TPx X.K cx (toPg g)) := ⟨fun pins s σ H Q J ⟨Z, ρ, F, p, ρ', R, e, q⟩ => by
  unfold toPg at e
  split at e
  · rename_i m ρ1 em
    split at e
    · rename_i p2 ep
      cases e
      exact thn (h.run pins s σ H (fun v H1 => ∃ Z1 F1 G, Go X.K cx σ Z H ρ F Z1 H1 ρ' F1 ∧ Res X.K Z H (U F) Z1 H1 F1 m v G) J ⟨Z, ρ, F, m, ρ', R, em, fun Z' H' F' v G g1 r1 => ⟨Z', F', G, g1, r1⟩⟩)
        fun u s1 ⟨v, H1, J1, rv, Z1, F1, G, g1, r1⟩ => by
          obtain ⟨Z2, H2, J2, g2, rp⟩ := fz_run (s0 := s) J1 g1 r1 ep
          exact ⟨v, H2, J2, rv, q Z2 H2 F1 v g2 rp⟩
    · cases e
  · cases e⟩
end
end Mn
end
section
set_option maxHeartbeats 200000
namespace Mn
open PySem L2 PySem.Spec
variable [WW]
section
variable {T : Tab} {k : Nat} {cx : Cxt} {X : Cx} {x y z : Expr} {pos p2 : Pos}
theorem no0 {Pp : Addr → Prop} : ∀ a ∈ ([] : List Addr), Pp a := fun _ h => by cases h
theorem lk_set {ρ : Env} {i : Nat} {m m' : M} (h : slot ρ i = some m) (nk : isLk (some m) = false) : Lk cx ρ (ρ.set i (some m')) := by
  refine ⟨fun j n e => ?_, fun j _ hn => ?_, List.length_set⟩
  · by_cases q : i = j
    · subst q; rw [h] at e; cases e; cases nk
    · rw [slot_other _ q]; exact e
  · by_cases q : i = j
    · subst q; rw [slot_self _ (slot_lt h)]; exact fun z => nomatch z
    · rw [slot_other _ q]; exact hn
theorem freeze_slot {K : PySem.W.Frag} {σ : St} {Z H : Hp} {ρ : Env} {F : Nat → List Addr} {i : Nat} {m : M} {a : Addr} {u o : HO} {p : P} (R : Rel K Z H σ ρ F) (e : slot ρ i = some m) (nk : isLk (some m) = false) (ef : F i = [a]) (hs : σ[i]? = some (some (.ref a)))
    (hu : H a = some u) (hz : Z a = none) (nt : notTup u) (nf : ∀ o' u', u ≠ .frz o' u') (rp : Rep K (upd Z a o) (.ref a) p) : Go K cx σ Z H ρ F (upd Z a o) (upd H a o) (ρ.set i (some (.v p))) (fset F i []) := by
  have hs2 : Sub (upd Z a o) (upd H a o) := fun b w e => by
    by_cases q : b = a
    · subst q; rw [upd_same] at e; rw [upd_same]; exact e
    · rw [upd_ne q] at e; rw [upd_ne q]; exact R.sub b w e
  have st : Step Z H (upd Z a o) (upd H a o) (· ∈ F i) (fun _ => False) := ⟨fun b w e n => by rw [upd_ne (fun q => n (by rw [ef, q]; simp))]; exact e, sub_upd hz, fun b w e => by
    by_cases q : b = a
    · exact .inr (.inl (by rw [ef, q]; simp))
    · rw [upd_ne q] at e; exact .inl e, fun _ h => h.elim, fun b o' u' e => by
    by_cases q : b = a
    · subst q; rw [hu] at e; cases e; exact (nf _ _ rfl).elim
    · rw [upd_ne q]; exact e⟩
  obtain ⟨h1, h2⟩ := R.upd (m := .v p) (G := []) e st hs2 hs (.v rp) (no0)
  exact ⟨h1, h2, lk_set e nk⟩
theorem slot_fz {pins : List (Addr × Obj)} {s : Shared} {σ : St} {Z H : Hp} {ρ : Env} {F : Nat → List Addr} {i : Nat} {m : M} {p : P} {v : V} (J : Inv X pins σ H s) (R : Rel X.K Z H σ ρ F) (e : slot ρ i = some m) (ep : toP m = some p) (hs : σ[i]? = some (some v)) :
    (∃ q, m = .v q) ∨ ∃ Z' H', Inv X pins σ H' s ∧ Go X.K cx σ Z H ρ F Z' H' (ρ.set i (some (.v p))) (fset F i []) ∧ Rep X.K Z' v p := by
  obtain ⟨w, h1, h2⟩ := R.own i m e
  rw [hs] at h1; cases h1
  have ef : ∃ G, F i = G := ⟨_, rfl⟩
  obtain ⟨G, ef⟩ := ef
  rw [ef] at h2
  cases h2 with
  | v h => exact .inl ⟨_, rfl⟩
  | @l a vs ps h hz r1 =>
    cases ep
    refine .inr ⟨upd Z a (.lst vs), H, J, ?_, .lst upd_same (r1.sub (sub_upd hz))⟩
    have g := freeze_slot (cx := cx) (o := .lst vs) (p := .list ps) R e rfl ef hs h hz trivial (fun _ _ z => by cases z) (.lst upd_same (r1.sub (sub_upd hz)))
    rw [upd_eq h] at g
    exact g
  | @d a vs ps h hz r1 =>
    cases ep
    obtain ⟨od, J2⟩ := J.lock h trivial
    have rp : Rep X.K (upd Z a (.frz od (.dK vs))) (.ref a) (frzD ps) := .dk upd_same ((frzK_rep r1).sub (sub_upd hz))
    exact .inr ⟨_, _, J2, freeze_slot R e rfl ef hs h hz trivial (fun _ _ z => by cases z) rp, rp⟩
  | @t a vs ps h hz r1 =>
    cases ep
    obtain ⟨od, J2⟩ := J.lock h trivial
    have rp : Rep X.K (upd Z a (.frz od (.dT vs))) (.ref a) (frzT ps) := .dt upd_same ((frzT_rep r1).sub (sub_upd hz))
    exact .inr ⟨_, _, J2, freeze_slot R e rfl ef hs h hz trivial (fun _ _ z => by cases z) rp, rp⟩
  | n _ _ _ _ => cases ep
  | s _ _ => cases ep
  | kl _ _ _ => cases ep
  | kd _ _ _ => cases ep
  | kt _ _ _ => cases ep
  | rn _ _ _ => cases ep
  | rt _ _ _ => cases ep
theorem take_cases {ρ ρ' : Env} {i : Nat} {m : M} (e : take ρ i = some (m, ρ')) : ∃ m0 p, slot ρ i = some m0 ∧ toP m0 = some p ∧ m = .v p ∧ ((∃ q, m0 = .v q) → ρ' = ρ) ∧ ((¬ ∃ q, m0 = .v q) → ρ' = ρ.set i (some (.v p))) := by
  unfold take at e
  split at e <;> rename_i h
  · cases e; exact ⟨_, _, h, rfl, rfl, fun _ => rfl, fun q => (q ⟨_, rfl⟩).elim⟩
  · cases e; exact ⟨_, _, h, rfl, rfl, (fun ⟨_, q⟩ => by cases q), fun _ => rfl⟩
  · cases e; exact ⟨_, _, h, rfl, rfl, (fun ⟨_, q⟩ => by cases q), fun _ => rfl⟩
  · cases e; exact ⟨_, _, h, rfl, rfl, (fun ⟨_, q⟩ => by cases q), fun _ => rfl⟩
  · cases e
theorem snd_tk {i : Nat} (h : PE X x (tVar i)) : PE X x (TEx X.K cx (ev cx (.tk i))) := ⟨fun pins s σ H Q J ⟨Z, ρ, F, m, ρ', R, e, q⟩ => by
  simp only [ev] at e
  obtain ⟨m0, p, h1, h2, rfl, h3, h4⟩ := take_cases e
  obtain ⟨v, h5, h6⟩ := R.own i m0 h1
  refine thn (h.run pins s σ H (fun v' H' => v' = v ∧ H' = H) J ⟨v, h5, rfl, rfl⟩) fun u s1 ⟨v', H', J1, rv, e1, e2⟩ => ?_
  subst e1 e2
  rcases slot_fz (cx := cx) J1 R h1 h2 h5 with ⟨q0, hq⟩ | ⟨Z', H2, J2, g, rp⟩
  · have := h3 ⟨q0, hq⟩
    subst this hq
    cases h2
    generalize hG : F i = G at h6
    cases h6 with
    | v h6 => exact ⟨_, H', J1, rv, q Z H' F _ [] (.refl R) ⟨.v h6, no0, no0⟩⟩
  · by_cases hq : ∃ q, m0 = .v q
    · obtain ⟨q0, hq⟩ := hq
      have := h3 ⟨q0, hq⟩
      subst this hq
      cases h2
      generalize hG : F i = G at h6
      cases h6 with
      | v h6 => exact ⟨_, H', J1, rv, q Z H' F _ [] (.refl R) ⟨.v h6, no0, no0⟩⟩
    · have := h4 hq
      subst this
      exact ⟨_, H2, J2, rv, q Z' H2 _ _ [] g ⟨.v rp, no0, no0⟩⟩⟩
theorem snd_mv {i : Nat} (h : PE X x (tVar i)) : PE X x (TEx X.K cx (ev cx (.mv i))) := PE.mono h fun σ H Q ⟨Z, ρ, F, m, ρ', R, e, q⟩ => by
  simp only [ev] at e
  split at e
  · cases e
  · rename_i c
    split at e
    · rename_i m1 h1
      cases e
      obtain ⟨v, h2, h3, h4⟩ := R.del_own h1
      have hl := slot_lt h1
      refine ⟨v, h2, q Z H (fset F i []) v (F i) ⟨R.del i, ⟨fun _ _ h _ => h, Sub.rfl' _, fun _ _ h => .inl h, fun a h => .inl (U_del h), fun _ _ _ h => h⟩, ⟨fun j n ej => ?_, fun j pj nj => ?_, List.length_set⟩⟩ ⟨h3, h4, fun a ha => .inl ⟨i, ha⟩⟩⟩
      · by_cases qj : i = j
        · subst qj; rw [ej] at c; exact (c (.inr rfl)).elim
        · rw [slot_other _ qj]; exact ej
      · by_cases qj : i = j
        · subst qj; exact (c (.inl pj)).elim
        · rw [slot_other _ qj]; exact nj
    · cases e
theorem tex_c {K : PySem.W.Frag} {v : V} {m : M} {g : Ev1} {σ : St} {H : Hp} {Q : VK} (hg : ∀ ρ, g ρ = some (m, ρ)) (ho : ∀ Z H, Own K Z H m v []) : TEx K cx g σ H Q → tC v σ H Q := fun ⟨Z, ρ, F, m1, ρ', R, e, q⟩ => by
  rw [hg] at e
  cases e
  exact q Z H F v [] (.refl R) ⟨ho Z H, no0, no0⟩
theorem snd_ki {i : Int} {j : Nat} : PE X (.Constant (.int i) j pos) (TEx X.K cx (ev cx (.ki i))) := PE.mono pe_int fun _ _ _ => tex_c (fun _ => by simp only [ev]) fun _ _ => .v (.int i)
theorem snd_kb {i : Bool} {j : Nat} : PE X (.Constant (.bool i) j pos) (TEx X.K cx (ev cx (.kb i))) := PE.mono pe_bl fun _ _ _ => tex_c (fun _ => by simp only [ev]) fun _ _ => .v (.bl i)
theorem snd_kn {j : Nat} : PE X (.Constant .none j pos) (TEx X.K cx (ev cx .kn)) := PE.mono pe_non fun _ _ _ => tex_c (fun _ => by simp only [ev]) fun _ _ => .v .non
theorem snd_ks {z : Str} {j : Nat} (h : PyData.strOk z = true) (h2 : z.length ≤ sizeLine) : PE X (.Constant (.str z) j pos) (TEx X.K cx (ev cx (.ks z))) := PE.mono pe_str fun _ _ _ => tex_c (fun _ => by simp only [ev]) fun _ _ => .v (.str z h h2)
theorem snd_g {c : Nat} {n : Str} (g : Good T k cx X) (h : glB X.env.scope n = true) (hn : (T.gs[c]?).map (·.1) = some n) : PE X (.Name n pos) (TEx X.K cx (ev cx (.g c))) := ⟨fun pins s σ H Q J ⟨Z, ρ, F, m, ρ', R, e, q⟩ => by
  simp only [ev] at e
  split at e
  · rename_i p ep
    cases e
    obtain ⟨x, u, v, h1, h2, h3, h4⟩ := g.gs c p ep
    rw [hn] at h1; cases h1
    exact (pe_glob (gl_of h).1 h2 h3 (plain_of (gl_of h).2).1).run pins s σ H Q J (q Z H F v [] (.refl R) ⟨.v (h4.sub (fun _ _ z => by cases z)), no0, no0⟩)
  · cases e⟩

def TPs (K : PySem.W.Frag) (X : Cxt) (g : Env → Option (List P × Env)) : TA := fun σ H Q => ∃ Z ρ F ps ρ', Rel K Z H σ ρ F ∧ g ρ = some (ps, ρ') ∧
  ∀ Z' H' F' vs, Go K X σ Z H ρ F Z' H' ρ' F' → RepL K Z' vs ps → Q vs H'
theorem ps_nil : PA X [] (TPs X.K cx (evp cx .nil)) := PA.mono pa_nil fun σ H Q ⟨Z, ρ, F, ps, ρ', R, e, q⟩ => by
  simp only [evp] at e
  cases e
  exact q Z H F [] (.refl R) .nil
theorem ps_cons {e : E} {es : EL} {xs : List Expr} (h : PE X x (TEx X.K cx (ev cx e))) (hr : PA X xs (TPs X.K cx (evp cx es))) (hs : starEach (x :: xs) X.env = (false, eval x X.env) :: starEach xs X.env) : PA X (x :: xs) (TPs X.K cx (evp cx (.cons e es))) :=
  PA.mono (pa_cons (px_of h) hr hs) fun σ H Q ⟨Z, ρ, F, ps, ρ', R, e, q⟩ => by
    simp only [evp] at e
    split at e
    · rename_i m ρ1 e1
      split at e
      · rename_i p e2
        split at e
        · rename_i ps2 ρ2 e3
          cases e
          refine ⟨Z, ρ, F, p, ρ1, R, by unfold toPg; rw [e1]; simp only [e2], fun Z1 H1 F1 v g1 r1 => ⟨Z1, ρ1, F1, ps2, _, g1.rel, e3, fun Z2 H2 F2 vs g2 r2 => q Z2 H2 F2 (v :: vs) (g1.trans g2) (.cons (r1.sub g2.st.zz) r2)⟩⟩
        · cases e
      · cases e
    · cases e
def elLen : EL → Nat
  | .nil => 0
  | .cons _ r => elLen r + 1
theorem evp_len : ∀ {es : EL} {ρ ρ' : Env} {ps : List P}, evp cx es ρ = some (ps, ρ') → ps.length = elLen es
  | .nil, ρ, ρ', ps, e => by simp only [evp] at e; cases e; rfl
  | .cons e0 r, ρ, ρ', ps, e => by
    simp only [evp] at e
    split at e
    · split at e
      · split at e
        · rename_i e3
          cases e
          rw [List.length_cons, evp_len e3]; rfl
        · cases e
      · cases e
    · cases e
theorem snd_tup {es : EL} {xs : List Expr} {j : Nat} (h : PA X xs (TPs X.K cx (evp cx es))) (hl : elLen es ≤ 1000) : PE X (.Tuple xs j pos) (TEx X.K cx (ev cx (.tup es))) := PE.mono (pe_tup h) fun σ H Q ⟨Z, ρ, F, m, ρ', R, e, q⟩ => by
  simp only [ev] at e
  split at e
  · rename_i ps ρ1 e1
    cases e
    refine ⟨Z, ρ, F, ps, _, R, e1, fun Z1 H1 F1 vs g1 r1 => ⟨?_, Ask.tup (ask_done g1 q) g1.rel.sub r1⟩⟩
    rw [r1.length, evp_len e1]
    exact lim_le (Nat.le_trans hl (by decide))
  · cases e
theorem snd_lst {es : EL} {xs : List Expr} (h : PA X xs (TPs X.K cx (evp cx es))) (hl : elLen es ≤ 1000) : PE X (.List xs pos) (TEx X.K cx (ev cx (.lst es))) := PE.mono (pe_lst h) fun σ H Q ⟨Z, ρ, F, m, ρ', R, e, q⟩ => by
  simp only [ev] at e
  split at e
  · rename_i ps ρ1 e1
    cases e
    refine ⟨Z, ρ, F, ps, _, R, e1, fun Z1 H1 F1 vs g1 r1 => ⟨?_, Ask.lst (ask_done g1 q) g1.rel.sub r1⟩⟩
    rw [r1.length, evp_len e1]
    exact lim_le (Nat.le_trans hl (by decide))
  · cases e
theorem z_none {Z H : Hp} (s : Sub Z H) {p : Addr} (h : H p = none) : Z p = none := by
  cases e : Z p with
  | none => rfl
  | some u => rw [s _ _ e] at h; cases h
theorem snd_dnw0 : PE X (.Dict [] [] pos) (TEx X.K cx (ev cx (.dnw 0))) := PE.mono pe_dnewK fun σ H Q ⟨Z, ρ, F, m, ρ', R, e, q⟩ => by
  simp only [ev] at e
  cases e
  exact Ask.dic (ask_done (.refl R) q) R.sub .nil
theorem snd_dnw1 : PE X (.Dict [] [] pos) (TEx X.K cx (ev cx (.dnw 1))) := PE.mono pe_dnewT fun σ H Q ⟨Z, ρ, F, m, ρ', R, e, q⟩ => by
  simp only [ev] at e
  cases e
  exact fun p hp => (ask_done (.refl R) q) Z _ (.ref p) [p] (.own R.sub hp) (.t upd_same (z_none R.sub hp) .nil)
theorem snd_dnw2 {n : Nat} : PE X (.Dict [] [] pos) (TEx X.K cx (ev cx (.dnw (n + 2)))) := PE.mono pe_dnewK fun σ H Q ⟨Z, ρ, F, m, ρ', R, e, q⟩ => by
  simp only [ev] at e
  cases e
  exact fun p hp => (ask_done (.refl R) q) Z _ (.ref p) [p] (.own R.sub hp) (.n upd_same (z_none R.sub hp) .nil (fun h => by cases h))
theorem snd_dnw {t : Nat} : PE X (.Dict [] [] pos) (TEx X.K cx (ev cx (.dnw t))) := match t with
  | 0 => snd_dnw0
  | 1 => snd_dnw1
  | _ + 2 => snd_dnw2

theorem snd_bin {op : BOp} {a b : E} (ha : PE X x (TOp X.K cx (opE a (ev cx a)))) (hb : PE X y (TOp X.K cx (opE b (ev cx b)))) : PE X (.BinOp x (bOp op) y pos) (TEx X.K cx (ev cx (.bin op a b))) := PE.mono (pe_op (bin_R op) ha hb) fun σ H Q ⟨Z, ρ, F, m, ρ', R, e, q⟩ => by
  simp only [ev] at e
  split at e
  · rename_i r1 ρ1 e1
    split at e
    · rename_i r2 ρ2 e2
      split at e
      · rename_i m1 m2 e3 e4
        split at e
        · rename_i m3 e5
          cases e
          refine ⟨Z, ρ, F, r1, ρ1, R, e1, fun Z1 H1 F1 v1 G1 g1 o1 => ⟨Z1, ρ1, F1, r2, _, g1.rel, e2, fun Z2 H2 F2 v2 G2 g2 o2 => ?_⟩⟩
          obtain ⟨_, w1⟩ := (o1.carry g2).rd g2.rel e3
          obtain ⟨_, w2⟩ := o2.rd g2.rel e4
          exact bin_ok op g2.rel.sub w1.view w2.view e5 (ask_done (g1.trans g2) q)
        · cases e
      · cases e
    · cases e
  · cases e
theorem snd_neg {a : E} (ha : PE X x (TEx X.K cx (ev cx a))) : PE X (.UnaryOp .USub x pos) (TEx X.K cx (ev cx (.neg a))) := PE.mono (pe_un un_neg ha) fun σ H Q ⟨Z, ρ, F, m, ρ', R, e, q⟩ => by
  simp only [ev] at e
  split at e
  · rename_i i ρ1 e1
    cases e
    refine ⟨Z, ρ, F, _, _, R, e1, fun Z1 H1 F1 v1 G1 g1 r1 => ?_⟩
    have := (Own.view r1.own).int
    subst this
    exact ⟨_, rfl, q Z1 H1 F1 _ [] g1 ⟨.v (.int _), no0, no0⟩⟩
  · cases e
theorem cmp_chain {op : COp} {a b : E} {σ : St} {H : Hp} {Q : VK} (hn : op = .isN ∨ op = .notN → ∃ x2, b = x2 ∧ x2 = .kn) : TEx X.K cx (ev cx (.cmp op a b)) σ H Q → tOp (rCmp X.K op) (TOp X.K cx (opE a (ev cx a))) (TOp X.K cx (opE b (ev cx b))) σ H Q := fun ⟨Z, ρ, F, m, ρ', R, e, q⟩ => by
  simp only [ev] at e
  split at e
  · rename_i r1 ρ1 e1
    split at e
    · rename_i r2 ρ2 e2
      split at e
      · rename_i m1 m2 e3 e4
        split at e
        · rename_i m3 e5
          cases e
          refine ⟨Z, ρ, F, r1, ρ1, R, e1, fun Z1 H1 F1 v1 G1 g1 o1 => ⟨Z1, ρ1, F1, r2, _, g1.rel, e2, fun Z2 H2 F2 v2 G2 g2 o2 => ?_⟩⟩
          obtain ⟨_, w1⟩ := (o1.carry g2).rd g2.rel e3
          obtain ⟨_, w2⟩ := o2.rd g2.rel e4
          refine cmp_ok op g2.rel.sub w1 w2 (fun hq => ?_) e5 (ask_done (g1.trans g2) q)
          obtain ⟨_, rfl, rfl⟩ := hn hq
          simp only [opE, ev] at e2
          cases e2
          cases e4
          rfl
        · cases e
      · cases e
    · cases e
  · cases e
theorem snd_cmp {op : COp} {a b : E} (g : Good T k cx X) (ha : PE X x (TOp X.K cx (opE a (ev cx a)))) (hb : PE X y (TOp X.K cx (opE b (ev cx b)))) (hn : op = .isN ∨ op = .notN → b = .kn) (hm : behindInMarks (cOp op) y = false) :
    PE X (.Compare x [cOp op] [y] pos) (TEx X.K cx (ev cx (.cmp op a b))) ∧ PT X (.Compare x [cOp op] [y] pos) (TTs X.K cx (ev cx (.cmp op a b))) := by
  have hR := cmp_R (X := X) g.room.units op
  refine ⟨PE.mono (pe_cmpR hR ha hb hm) fun σ H Q h => cmp_chain (fun q => ⟨b, rfl, hn q⟩) h, PT.mono (pt_cmpR hR ha hb hm) fun σ H Q ⟨Z, ρ, F, c, ρ', R, e, q⟩ => ?_⟩
  refine cmp_chain (cx := cx) (fun q => ⟨b, rfl, hn q⟩) ⟨Z, ρ, F, _, ρ', R, e, fun Z' H' F' v G g1 r1 => ?_⟩
  have := (Own.view r1.own).bl
  subst this
  exact ⟨c, rfl, q Z' H' F' g1⟩
/-- a value's truth -/
theorem pt_of {g : Ev1} (h : PE X x (TEx X.K cx g)) (he : ∀ whole, isTrue x X.env whole = (do let v ← whole; standAt x.pos; holding [v] (truthy v))) : PT X x (TTs X.K cx g) := PT.mono (pt_val h he) fun σ H Q ⟨Z, ρ, F, c, ρ', R, e, q⟩ =>
  ⟨Z, ρ, F, _, ρ', R, e, fun Z' H' F' v G g1 r1 => by
    have := (Own.view r1.own).bl
    subst this
    exact ⟨c, rfl, q Z' H' F' g1⟩⟩
theorem tex_bool {a : E} {σ : St} {H : Hp} {Q : VK} {Z : Hp} {ρ ρ1 : Env} {F : Nat → List Addr} {c : Bool} (R : Rel X.K Z H σ ρ F) (e : ev cx a ρ = some (.v (.bool c), ρ1)) (q : ∀ Z' H' F', Go X.K cx σ Z H ρ F Z' H' ρ1 F' → Q (.bl c) H') : TEx X.K cx (ev cx a) σ H Q :=
  ⟨Z, ρ, F, _, ρ1, R, e, fun Z' H' F' v G g1 r1 => by
    have := (Own.view r1.own).bl
    subst this
    exact q Z' H' F' g1⟩
theorem res_bl {K : PySem.W.Frag} {Z H Z' H' : Hp} {A : AS} {F' : Nat → List Addr} {c : Bool} : Res K Z H A Z' H' F' (.v (.bool c)) (.bl c) [] := ⟨.v (.bl c), no0, no0⟩
theorem res_go {K : PySem.W.Frag} {σ : St} {Z H Z1 H1 Z2 H2 : Hp} {ρ ρ1 : Env} {F F1 F2 : Nat → List Addr} {m : M} {v : V} {G : List Addr} (g1 : Go K cx σ Z H ρ F Z1 H1 ρ1 F1) (r : Res K Z1 H1 (U F1) Z2 H2 F2 m v G) : Res K Z H (U F) Z2 H2 F2 m v G :=
  ⟨r.own, r.ap, fun a ha => by
    rcases r.nw a ha with h | h
    · exact g1.st.an a h
    · exact new_back g1.st h⟩
theorem snd_ban {a b : E} {rest : List Expr} (ha : PE X x (TEx X.K cx (ev cx a))) (hta : PT X x (TTs X.K cx (ev cx a))) (hb : PE X (.BoolOp .And (y :: rest) pos) (TEx X.K cx (ev cx b))) (htb : PW X (.BoolOp .And (y :: rest) pos) (TTs X.K cx (ev cx b))) :
    PE X (.BoolOp .And (x :: y :: rest) pos) (TEx X.K cx (ev cx (.ban a b))) ∧ PW X (.BoolOp .And (x :: y :: rest) pos) (TTs X.K cx (ev cx (.ban a b))) := by
  refine ⟨PE.mono (pe_and ha hb) fun σ H Q ⟨Z, ρ, F, m, ρ', R, e, q⟩ => ?_, ⟨fun whole pins s σ H Q J ⟨Z, ρ, F, c, ρ', R, e, q⟩ => (pw_and hta htb).run whole pins s σ H Q J ?_⟩⟩
  · simp only [ev] at e
    split at e
    · rename_i c ρ1 e1
      refine tex_bool R e1 fun Z1 H1 F1 g1 => ⟨c, rfl, ?_⟩
      cases c with
      | true =>
        rw [if_pos rfl] at e ⊢
        exact ⟨Z1, ρ1, F1, m, ρ', g1.rel, e, fun Z2 H2 F2 v G g2 r2 => q Z2 H2 F2 v G (g1.trans g2) (res_go g1 r2)⟩
      | false =>
        rw [if_neg Bool.false_ne_true] at e ⊢
        cases e
        exact q Z1 H1 F1 _ [] g1 res_bl
    · cases e
  · simp only [ev] at e
    split at e
    · rename_i c1 ρ1 e1
      refine ⟨Z, ρ, F, c1, ρ1, R, e1, fun Z1 H1 F1 g1 => ?_⟩
      cases c1 with
      | true =>
        rw [if_pos rfl] at e ⊢
        exact ⟨Z1, ρ1, F1, c, ρ', g1.rel, e, fun Z2 H2 F2 g2 => q Z2 H2 F2 (g1.trans g2)⟩
      | false =>
        rw [if_neg Bool.false_ne_true] at e ⊢
        cases e
        exact q Z1 H1 F1 g1
    · cases e
theorem snd_bor {a b : E} {rest : List Expr} (ha : PE X x (TEx X.K cx (ev cx a))) (hta : PT X x (TTs X.K cx (ev cx a))) (hb : PE X (.BoolOp .Or (y :: rest) pos) (TEx X.K cx (ev cx b))) (htb : PW X (.BoolOp .Or (y :: rest) pos) (TTs X.K cx (ev cx b))) :
    PE X (.BoolOp .Or (x :: y :: rest) pos) (TEx X.K cx (ev cx (.bor a b))) ∧ PW X (.BoolOp .Or (x :: y :: rest) pos) (TTs X.K cx (ev cx (.bor a b))) := by
  refine ⟨PE.mono (pe_or ha hb) fun σ H Q ⟨Z, ρ, F, m, ρ', R, e, q⟩ => ?_, ⟨fun whole pins s σ H Q J ⟨Z, ρ, F, c, ρ', R, e, q⟩ => (pw_or hta htb).run whole pins s σ H Q J ?_⟩⟩
  · simp only [ev] at e
    split at e
    · rename_i c ρ1 e1
      refine tex_bool R e1 fun Z1 H1 F1 g1 => ⟨c, rfl, ?_⟩
      cases c with
      | false =>
        rw [if_neg Bool.false_ne_true] at e ⊢
        exact ⟨Z1, ρ1, F1, m, ρ', g1.rel, e, fun Z2 H2 F2 v G g2 r2 => q Z2 H2 F2 v G (g1.trans g2) (res_go g1 r2)⟩
      | true =>
        rw [if_pos rfl] at e ⊢
        cases e
        exact q Z1 H1 F1 _ [] g1 res_bl
    · cases e
  · simp only [ev] at e
    split at e
    · rename_i c1 ρ1 e1
      refine ⟨Z, ρ, F, c1, ρ1, R, e1, fun Z1 H1 F1 g1 => ?_⟩
      cases c1 with
      | false =>
        rw [if_neg Bool.false_ne_true] at e ⊢
        exact ⟨Z1, ρ1, F1, c, ρ', g1.rel, e, fun Z2 H2 F2 g2 => q Z2 H2 F2 (g1.trans g2)⟩
      | true =>
        rw [if_pos rfl] at e ⊢
        cases e
        exact q Z1 H1 F1 g1
    · cases e
theorem snd_nt {a : E} (ha : PE X x (TEx X.K cx (ev cx a))) (hta : PT X x (TTs X.K cx (ev cx a))) : PE X (.UnaryOp .Not x pos) (TEx X.K cx (ev cx (.nt a))) ∧ PT X (.UnaryOp .Not x pos) (TTs X.K cx (ev cx (.nt a))) := by
  refine ⟨PE.mono (pe_not ha) fun σ H Q ⟨Z, ρ, F, m, ρ', R, e, q⟩ => ?_, PT.mono (pt_not hta) fun σ H Q ⟨Z, ρ, F, c, ρ', R, e, q⟩ => ?_⟩
  · simp only [ev] at e
    split at e
    · rename_i c ρ1 e1
      cases e
      exact tex_bool R e1 fun Z1 H1 F1 g1 => ⟨c, rfl, q Z1 H1 F1 _ [] g1 res_bl⟩
    · cases e
  · simp only [ev] at e
    split at e
    · rename_i c1 ρ1 e1
      cases e
      exact ⟨Z, ρ, F, c1, _, R, e1, fun Z1 H1 F1 g1 => q Z1 H1 F1 g1⟩
    · cases e
theorem snd_ifx {c a b : E} (hc : PT X z (TTs X.K cx (ev cx c))) (ha : PE X x (TEx X.K cx (ev cx a))) (hb : PE X y (TEx X.K cx (ev cx b))) : PE X (.IfExp z x y pos) (TEx X.K cx (ev cx (.ifx c a b))) := PE.mono (pe_ifExp hc ha hb) fun σ H Q ⟨Z, ρ, F, m, ρ', R, e, q⟩ => by
  simp only [ev] at e
  split at e
  · rename_i c1 ρ1 e1
    refine ⟨Z, ρ, F, c1, ρ1, R, e1, fun Z1 H1 F1 g1 => ?_⟩
    cases c1 with
    | true =>
      rw [if_pos rfl] at e ⊢
      exact ⟨Z1, ρ1, F1, m, ρ', g1.rel, e, fun Z2 H2 F2 v G g2 r2 => q Z2 H2 F2 v G (g1.trans g2) (res_go g1 r2)⟩
    | false =>
      rw [if_neg Bool.false_ne_true] at e ⊢
      exact ⟨Z1, ρ1, F1, m, ρ', g1.rel, e, fun Z2 H2 F2 v G g2 r2 => q Z2 H2 F2 v G (g1.trans g2) (res_go g1 r2)⟩
  · cases e
end
end Mn
end
section
set_option maxHeartbeats 200000
namespace Mn
open PySem L2 PySem.Spec
variable [WW]
def notStar : Expr → Bool
  | .Starred _ _ => false
  | _ => true
def notSlice : Expr → Bool
  | .Slice _ _ _ _ => false
  | _ => true
def notCall0 : Expr → Bool
  | .Call _ [] _ _ => false
  | _ => true
theorem star_of {x : Expr} {xs : List Expr} {env : PySem.Env} (h : notStar x = true) : starEach (x :: xs) env = (false, eval x env) :: starEach xs env := by
  cases x <;> first | rfl | cases h
theorem plain_ix {x : Expr} (h : notSlice x = true) : PlainIx x := fun o i => by
  cases x <;> first | rfl | cases h
theorem stars_of {pos : Pos} {env : PySem.Env} : ∀ {xs : List Expr}, xs.all notStar = true → (backTo pos (starEach xs env)).any (·.1) = false
  | [], _ => rfl
  | x :: xs, h => by
    rw [List.all_cons, Bool.and_eq_true] at h
    rw [star_of h.1]
    exact stars_of h.2
theorem base_of {x : Expr} {f : Str} {env : PySem.Env} {w : Sem Value} (h : notCall0 x = true) : attributeBase x f env w = w := by
  unfold attributeBase
  split
  · cases h
  · rfl
theorem m1_of {X : Cx} {o e : Expr} {m : Str} {apos cpos : Pos} (h : notCall0 o = true) (hs : notStar e = true) (hl : (apos.endLine == cpos.line) = true) : M1 X o m apos e cpos := by
  refine ⟨base_of h, ?_, hl, ?_⟩
  · rw [star_of hs]; rfl
  · rw [star_of hs]; rfl
theorem m2_of {X : Cx} {o e f : Expr} {m : Str} {apos cpos : Pos} (h : notCall0 o = true) (hs : notStar e = true) (hs2 : notStar f = true) (hl : (apos.endLine == cpos.line) = true) : M2 X o m apos e f cpos := by
  refine ⟨base_of h, ?_, hl, ?_⟩
  · rw [star_of hs, star_of hs2]; rfl
  · rw [star_of hs, star_of hs2]; rfl
section
variable {T : Tab} {k : Nat} {cx : Cxt} {X : Cx} {x y z : Expr} {pos p2 p3 : Pos}
theorem snd_sub {a b : E} (g : Good T k cx X) (ha : PE X x (TOp X.K cx (opE a (ev cx a)))) (hb : PE X y (TEx X.K cx (ev cx b))) (hs : notSlice y = true) : PE X (.Subscript x y pos) (TEx X.K cx (ev cx (.sub a b))) := PE.mono (pe_ix (sub_R g.room.units g.at_) ha hb (plain_ix hs)) fun σ H Q ⟨Z, ρ, F, m, ρ', R, e, q⟩ => by
  simp only [ev] at e
  split at e
  · rename_i r1 ρ1 e1
    split at e
    · rename_i m2 ρ2 e2
      split at e
      · rename_i m1 e3
        split at e
        · rename_i m3 e5
          cases e
          refine ⟨Z, ρ, F, r1, ρ1, R, e1, fun Z1 H1 F1 v1 G1 g1 o1 => ⟨Z1, ρ1, F1, m2, _, g1.rel, e2, fun Z2 H2 F2 v2 G2 g2 r2 => ?_⟩⟩
          obtain ⟨_, w1⟩ := (o1.carry g2).rd g2.rel e3
          exact sub_ok g2.rel.sub w1 r2.own e5 (ask_done (g1.trans g2) q)
        · cases e
      · cases e
    · cases e
  · cases e
/-- a slice's part -/
def TPo (K : PySem.W.Frag) (X : Cxt) (g : Env → Option (Option Int × Env)) : TO := fun σ H Q => ∃ Z ρ F o ρ', Rel K Z H σ ρ F ∧ g ρ = some (o, ρ') ∧ ∀ Z' H' F', Go K X σ Z H ρ F Z' H' ρ' F' → Q o H'
def poG (X : Cxt) (lo : E) (ρ : Env) : Option (Option Int × Env) := if elNo lo = true then some (none, ρ) else match ev X lo ρ with
  | some (.v (.int i), ρ2) => some (some i, ρ2)
  | _ => none
theorem PO.mono {X : Cx} {e : Option Expr} {t t' : TO} (h : PO X e t) (i : ∀ σ H Q, t' σ H Q → t σ H Q) : PO X e t' := ⟨fun pins s σ H Q J q => h.run pins s σ H Q J (i σ H Q q)⟩
theorem snd_no {lo : E} (h : elNo lo = true) : PO X none (TPo X.K cx (poG cx lo)) := PO.mono po_none fun σ H Q ⟨Z, ρ, F, o, ρ', R, e, q⟩ => by
  unfold poG at e
  rw [if_pos h] at e
  cases e
  exact q Z H F (.refl R)
theorem snd_part {lo : E} (h : elNo lo = false) (hx : PE X x (TEx X.K cx (ev cx lo))) : PO X (some x) (TPo X.K cx (poG cx lo)) := PO.mono (po_some hx) fun σ H Q ⟨Z, ρ, F, o, ρ', R, e, q⟩ => by
  unfold poG at e
  rw [if_neg (by rw [h]; exact Bool.false_ne_true)] at e
  split at e
  · rename_i i ρ2 e2
    cases e
    refine ⟨Z, ρ, F, _, _, R, e2, fun Z' H' F' v G g1 r1 => ?_⟩
    have := (Own.view r1.own).int
    subst this
    exact ⟨i, rfl, q Z' H' F' g1⟩
  · cases e
theorem snd_slc {a lo hi : E} {l u : Option Expr} (ha : PE X x (TOp X.K cx (opE a (ev cx a)))) (hl : PO X l (TPo X.K cx (poG cx lo))) (hu : PO X u (TPo X.K cx (poG cx hi))) : PE X (.Subscript x (.Slice l u none p2) pos) (TEx X.K cx (ev cx (.slc a lo hi))) := PE.mono (pe_slice slc_R ha hl hu) fun σ H Q ⟨Z, ρ, F, m, ρ', R, e, q⟩ => by
  have e' : (match opE a (ev cx a) ρ with
    | some (r1, ρ1) => match poG cx lo ρ1 with
      | some (x, ρ2) => match poG cx hi ρ2 with
        | some (y, ρ3) => match rd ρ3 r1 with
          | some m1 => match slcM m1 x y with
            | some m => some (m, ρ3)
            | none => none
          | none => none
        | none => none
      | none => none
    | none => none) = some (m, ρ') := by
    rw [← e]
    simp only [ev]
    rfl
  clear e
  split at e'
  · rename_i r1 ρ1 e1
    split at e'
    · rename_i o1 ρ2 e2
      split at e'
      · rename_i o2 ρ3 e3
        split at e'
        · rename_i m1 e4
          split at e'
          · rename_i m3 e5
            cases e'
            refine ⟨Z, ρ, F, r1, ρ1, R, e1, fun Z1 H1 F1 v1 G1 g1 w1 => ⟨Z1, ρ1, F1, o1, ρ2, g1.rel, e2, fun Z2 H2 F2 g2 => ⟨Z2, ρ2, F2, o2, _, g2.rel, e3, fun Z3 H3 F3 g3 => ?_⟩⟩⟩
            obtain ⟨_, w2⟩ := (w1.carry (g2.trans g3)).rd g3.rel e4
            exact slc_ok g3.rel.sub w2 e5 (ask_done ((g1.trans g2).trans g3) q)
          · cases e'
        · cases e'
      · cases e'
    · cases e'
  · cases e'
theorem snd_rev {a : E} {j : Nat} {q1 q2 q3 : Pos} (ha : PE X x (TOp X.K cx (opE a (ev cx a)))) : PE X (.Subscript x (.Slice none none (some (.UnaryOp .USub (.Constant (.int 1) j q1) q2)) q3) pos) (TEx X.K cx (ev cx (.rev a))) := PE.mono (pe_revL ha) fun σ H Q ⟨Z, ρ, F, m, ρ', R, e, q⟩ => by
  simp only [ev] at e
  split at e
  · rename_i r1 ρ1 e1
    split at e
    · rename_i m1 e3
      split at e
      · rename_i m3 e5
        cases e
        refine ⟨Z, ρ, F, r1, _, R, e1, fun Z1 H1 F1 v1 G1 g1 o1 => ?_⟩
        obtain ⟨_, w1⟩ := o1.rd g1.rel e3
        obtain ⟨ps, h1, h2⟩ := Option.map_eq_some_iff.mp e5
        subst h2
        obtain ⟨c, vs, rfl, h3, r⟩ := lst_any g1.rel.sub w1 h1
        exact ⟨c, vs, rfl, SqL.of h3, Ask.lst (ask_done g1 q) g1.rel.sub r.rev⟩
      · cases e
    · cases e
  · cases e

inductive OpsOk (K : PySem.W.Frag) (Z H : Hp) (A : AS) (σ : St) (Z' H' : Hp) (F' : Nat → List Addr) : List R → List V → List (List Addr) → Prop
  | nil : OpsOk K Z H A σ Z' H' F' [] [] []
  | cons {r : R} {v : V} {G : List Addr} {rs : List R} {vs : List V} {Gs : List (List Addr)} : OpdOk K Z H A σ Z' H' F' r v G → OpsOk K Z H A σ Z' H' F' rs vs Gs → (∀ a ∈ G, ∀ G2 ∈ Gs, a ∉ G2) → OpsOk K Z H A σ Z' H' F' (r :: rs) (v :: vs) (G :: Gs)
def TAr (K : PySem.W.Frag) (X : Cxt) (g : Env → Option (List R × Env)) : TA := fun σ H Q => ∃ Z ρ F rs ρ', Rel K Z H σ ρ F ∧ g ρ = some (rs, ρ') ∧
  ∀ Z' H' F' vs Gs, Go K X σ Z H ρ F Z' H' ρ' F' → OpsOk K Z H (U F) σ Z' H' F' rs vs Gs → Q vs H'
section
variable {K : PySem.W.Frag} {σ : St} {Z H Z1 H1 Z2 H2 : Hp} {A : AS} {ρ ρ1 ρ2 : Env} {F F1 F2 : Nat → List Addr}
theorem OpsOk.base {rs : List R} {vs : List V} {Gs : List (List Addr)} (g1 : Go K cx σ Z H ρ F Z1 H1 ρ1 F1) (o : OpsOk K Z1 H1 (U F1) σ Z2 H2 F2 rs vs Gs) : OpsOk K Z H (U F) σ Z2 H2 F2 rs vs Gs := by
  induction o with
  | nil => exact .nil
  | @cons r v G rs vs Gs h _ d ih =>
    refine .cons ?_ ih d
    cases r with
    | pl i => exact h
    | vl m => exact res_go g1 h
theorem OpsOk.temps {rs : List R} {vs : List V} {Gs : List (List Addr)} (o : OpsOk K Z1 H1 A σ Z2 H2 F2 rs vs Gs) : ∀ G ∈ Gs, ∀ a ∈ G, A a ∨ H1 a = none := by
  induction o with
  | nil => exact fun _ h => by cases h
  | @cons r v G rs vs Gs h _ d ih =>
    intro G2 hg a ha
    rcases List.mem_cons.mp hg with e | hg
    · subst e
      cases r with
      | pl i => obtain ⟨_, h2⟩ := h; subst h2; cases ha
      | vl m => exact Res.nw h a ha
    · exact ih G2 hg a ha
theorem OpsOk.own {rs : List R} {vs : List V} {Gs : List (List Addr)} (o : OpsOk K Z H A σ Z1 H1 F1 rs vs Gs) (R : Rel K Z1 H1 σ ρ1 F1) : ∀ {ms : List M}, rds ρ1 rs = some ms → OwnL K Z1 H1 ms vs := by
  induction o with
  | nil => intro ms e; cases e; exact .nil
  | @cons r v G rs vs Gs h _ d ih =>
    intro ms e
    unfold rds at e
    split at e
    · rename_i m ms2 e1 e2
      cases e
      obtain ⟨_, w⟩ := h.rd R e1
      exact .cons w (ih e2)
    · cases e
end
theorem ar_nil : PA X [] (TAr X.K cx (evl cx .nil)) := PA.mono pa_nil fun σ H Q ⟨Z, ρ, F, ps, ρ', R, e, q⟩ => by
  simp only [evl] at e
  cases e
  exact q Z H F [] [] (.refl R) .nil
theorem ar_cons {e : E} {es : EL} {xs : List Expr} (h : PE X x (TOp X.K cx (opE e (ev cx e)))) (hr : PA X xs (TAr X.K cx (evl cx es))) (hs : notStar x = true) : PA X (x :: xs) (TAr X.K cx (evl cx (.cons e es))) :=
  PA.mono (pa_cons h hr (star_of hs)) fun σ H Q ⟨Z, ρ, F, rs, ρ', R, e, q⟩ => by
    simp only [evl] at e
    split at e
    · rename_i r1 ρ1 e1
      split at e
      · rename_i rs2 ρ2 e3
        cases e
        refine ⟨Z, ρ, F, r1, ρ1, R, e1, fun Z1 H1 F1 v G g1 o1 => ⟨Z1, ρ1, F1, rs2, _, g1.rel, e3, fun Z2 H2 F2 vs Gs g2 o2 => q Z2 H2 F2 (v :: vs) (G :: Gs) (g1.trans g2) (.cons (o1.carry g2) (o2.base g1) fun a ha G2 hG ha2 => ?_)⟩⟩
        cases r1 with
        | pl i => obtain ⟨_, h2⟩ := o1; subst h2; cases ha
        | vl m =>
          rcases o2.temps G2 hG a ha2 with h | h
          · exact Res.ap o1 a ha h
          · obtain ⟨_, u, hu, _⟩ := (Res.own o1).at_ a ha
            rw [hu] at h; cases h
      · cases e
    · cases e

def biName : BI → Str
  | .tup => "tuple" | .list => "list" | .dict => "dict" | .int => "int" | .len => "len" | .sorted => "sorted" | .all => "all" | .any => "any" | .sum => "sum" | .abs => "abs" | .max2 => "max" | .min2 => "min"
  | _ => "__none__"
theorem bi_boot : ∀ b : BI, biArity b ≠ 0 → bootBuiltins (biName b) = some (biV b) := by
  intro b h
  cases b <;> first | exact (h rfl).elim | decide +kernel
theorem bi_free (g : Good T k cx X) : ∀ b : BI, biArity b ≠ 0 → X.mg (biName b) = none := by
  intro b h
  cases b <;> first | exact (h rfl).elim | exact g.free _ (by decide +kernel)
theorem evl_len : ∀ {es : EL} {ρ ρ' : Env} {rs : List R}, evl cx es ρ = some (rs, ρ') → rs.length = elLen es
  | .nil, ρ, ρ', ps, e => by simp only [evl] at e; cases e; rfl
  | .cons e0 r, ρ, ρ', ps, e => by
    simp only [evl] at e
    split at e
    · split at e
      · rename_i e3
        cases e
        rw [List.length_cons, evl_len e3]; rfl
      · cases e
    · cases e
theorem rds_len : ∀ {rs : List R} {ρ : Env} {ms : List M}, rds ρ rs = some ms → ms.length = rs.length
  | [], _, _, e => by cases e; rfl
  | r :: rs, ρ, ms, e => by
    unfold rds at e
    split at e
    · rename_i e1 e2
      cases e
      rw [List.length_cons, List.length_cons, rds_len e2]
    · cases e
theorem bi_tcb {b : BI} {es : EL} (h0 : biArity b ≠ 0) (hl : elLen es = biArity b) {σ : St} {H : Hp} {Q : VK} : TEx X.K cx (ev cx (.bi b es)) σ H Q → tCB (rBi X.K b) (TAr X.K cx (evl cx es)) σ H Q := fun ⟨Z, ρ, F, m, ρ', R, e, q⟩ => by
  simp only [ev] at e
  split at e
  · rename_i rs ρ1 e1
    split at e
    · rename_i ms e2
      split at e
      · rename_i m3 e3
        cases e
        refine ⟨Z, ρ, F, rs, _, R, e1, fun Z1 H1 F1 vs Gs g1 o1 => ?_⟩
        exact bi_ok b g1.rel.sub h0 (by rw [rds_len e2, evl_len e1, hl]) (o1.own g1.rel e2) e3 (ask_done g1 q)
      · cases e
    · cases e
  · cases e
theorem snd_bi {b : BI} {es : EL} {xs : List Expr} {n : Str} (g : Good T k cx X) (h0 : biArity b ≠ 0) (hl : elLen es = biArity b) (hn : n = biName b) (hg : glB X.env.scope n = true) (ha : PA X (x :: xs) (TAr X.K cx (evl cx es))) (hs : notStar x = true) (hss : xs.all notStar = true) :
    PE X (.Call (.Name n p2) (x :: xs) [] pos) (TEx X.K cx (ev cx (.bi b es))) := by
  have hm : X.mg n = none := by rw [hn]; exact bi_free g b h0
  have hv : bootBuiltins n = some (biV b) := by rw [hn]; exact bi_boot b h0
  obtain ⟨hgl, hp⟩ := gl_of hg
  have hc := bi_R g.calm b
  refine PE.mono ?_ fun σ H Q h => bi_tcb h0 hl h
  have hk : (∃ id, biV b = .builtin id) ∨ ∃ t, biV b = .type t := by
    cases b <;> first | exact (h0 rfl).elim | exact .inl ⟨_, rfl⟩ | exact .inr ⟨_, rfl⟩
  rcases hk with ⟨id, hk⟩ | ⟨t, hk⟩
  · rw [hk] at hc hv
    exact pe_callB hc hgl hm hv ha (plain_of hp).2.2 (plain_of hp).1 (star_of hs) (stars_of hss)
  · rw [hk] at hc hv
    exact pe_callTy hc hgl hm hv ha (plain_of hp).2.2 (plain_of hp).1 (star_of hs) (stars_of hss)
end
end Mn
end
section
set_option maxHeartbeats 200000
namespace Mn
open PySem L2 PySem.Spec
variable [WW]
def tyN : Ty → String
  | .non => "NoneType" | .bl => "bool" | .int => "int" | .str => "str" | .tup => "tuple" | .lst => "list" | .dct => "dict"
def tyBI : Ty → BI
  | .tup => .isTup | .lst => .isList | .str => .isStr | .bl => .isBool | .int => .isInt | _ => .len
def tyAsk : Ty → Bool
  | .tup => true | .lst => true | .str => true | .bl => true | .int => true | _ => false
theorem ty_kit {K : PySem.W.Frag} : ∀ a b : Ty, tyAsk b = true → PySem.W.kitOne K (.type (tyN a)) (.type (tyN b)) = some (tyLe a b) := by
  intro a b h
  cases b <;> first | (cases h; done) | (cases a <;> exact kit_ty (by decide +kernel))
theorem ty_boot : ∀ b : Ty, tyAsk b = true → bootBuiltins (Str.ofString (tyN b)) = some (.type (tyN b)) := by
  intro b h
  cases b <;> first | (cases h; done) | decide +kernel
section
variable {K : PySem.W.Frag} {Z H : Hp} {m : M} {x : V} {G : List Addr}
theorem sqT_ty {a : Addr} {vs : List V} (h : SqT K H a vs) : TyX K H (.ref a) (.type "tuple") := by
  rcases h with (h | ⟨o, h⟩) | ⟨o, its, n, h, c, _⟩
  · exact .base (.tup h)
  · exact .fTuple h
  · exact .kTuple h c
theorem ty_of (s : Sub Z H) {t : Ty} (o : View K Z H (vw m) x) (e : tyM m = some t) : TyX K H x (.type (tyN t)) := by
  unfold tyM at e
  split at e <;> rename_i e1
  · rw [e1] at o; cases e; cases o.imm; exact .base .non
  · rw [e1] at o; cases e; cases o.bl; exact .base (.bl _)
  · rw [e1] at o; cases e; cases o.int; exact .base (.int _)
  · rw [e1] at o; cases e; obtain ⟨rfl, _, _⟩ := o.str; exact .base (.str _)
  · rw [e1] at o; cases e; obtain ⟨c, vs, rfl, h, _⟩ := o.tup; exact sqT_ty (sqT_sub s h)
  · rw [e1] at o; cases e; obtain ⟨c, vs, rfl, h, _⟩ := o.lstv s; exact .base (.lst h)
  · rw [e1] at o; cases e; obtain ⟨c, vs, rfl, h, _⟩ := o.lstl; exact .base (.lst h)
  · rw [e1] at o; cases e
    cases o with
    | d h _ =>
      rcases h with h | ⟨ob, h⟩
      · exact .base (.dK h)
      · exact .fDict h
  · rw [e1] at o; cases e
    cases o with
    | n h _ => exact .base (.dK h)
  · cases e
end
section
variable {T : Tab} {k : Nat} {cx : Cxt} {X : Cx} {x y z : Expr} {pos p2 p3 : Pos}
theorem snd_is {t : Ty} {a : E} {n : Str} (g : Good T k cx X) (ht : tyAsk t = true) (ha : PE X x (TOp X.K cx (opE a (ev cx a)))) (hg : glB X.env.scope "isinstance" = true) (hn : n = Str.ofString (tyN t)) (hg2 : glB X.env.scope n = true) (hm2 : X.mg n = none) (hs : notStar x = true) :
    PE X (.Call (.Name "isinstance" p2) [x, .Name n p3] [] pos) (TEx X.K cx (ev cx (.bi (tyBI t) (.cons a .nil)))) := by
  obtain ⟨h1, h2⟩ := gl_of hg
  obtain ⟨h3, h4⟩ := gl_of hg2
  have hb : bootBuiltins n = some (.type (tyN t)) := by rw [hn]; exact ty_boot t ht
  have e2 : PE X (.Name n p3) (tC (.ty (tyN t))) := pe_bltn (v := .ty (tyN t)) h3 hm2 hb rfl (plain_of h4).2.2 (plain_of h4).1
  refine PE.mono (pe_callB call_isi h1 (g.free _ (by decide +kernel)) (by decide +kernel) (pa_cons ha (pa_cons e2 pa_nil) (star_of hs)) (plain_of h2).2.2 (plain_of h2).1 (star_of hs)) fun σ H Q ⟨Z, ρ, F, m, ρ', R, e, q⟩ => ?_
  simp only [ev] at e
  split at e
  · rename_i rs ρ1 e1
    simp only [evl] at e1
    split at e1
    · rename_i r1 ρ2 e3
      cases e1
      split at e
      · rename_i ms e4
        simp only [rds] at e4
        split at e4
        · rename_i m1 ms2 e5 e6
          cases e6
          cases e4
          split at e
          · rename_i m3 e7
            cases e
            have e8 : (tyM m1).map (fun s => M.v (.bool (tyLe s t))) = some m := by
              cases t <;> first | (cases ht; done) | exact e7
            obtain ⟨ty, h5, h6⟩ := Option.map_eq_some_iff.mp e8
            subst h6
            refine ⟨Z, ρ, F, r1, _, R, e3, fun Z1 H1 F1 v G g1 o1 => ?_⟩
            obtain ⟨_, w⟩ := o1.rd g1.rel e5
            exact ⟨v, .ty (tyN t), .type (tyN ty), .type (tyN t), _, rfl, .ty _, ty_of g1.rel.sub w.view h5, ty_kit ty t ht, q Z1 H1 F1 _ [] g1 res_bl⟩
          · cases e
        · cases e4
      · cases e
    · cases e1
  · cases e

/-- the places taken out -/
inductive Outs (σ : St) (ρ : Env) : List R → List V → Prop
  | nil : Outs σ ρ [] []
  | pl {i : Nat} {v : V} {rs : List R} {vs : List V} : σ[i]? = some (some v) → i < ρ.length → slot ρ i = none → (∀ r ∈ rs, r ≠ .pl i) → Outs σ ρ rs vs → Outs σ ρ (.pl i :: rs) (v :: vs)
  | vl {m : M} {v : V} {rs : List R} {vs : List V} : Outs σ ρ rs vs → Outs σ ρ (.vl m :: rs) (v :: vs)
section
variable {K : PySem.W.Frag} {σ : St} {Z H Z1 H1 : Hp} {A : AS} {ρ ρ1 : Env} {F F1 : Nat → List Addr}
theorem pull_len : ∀ {rs : List R} {ρ ρ1 : Env} {ms : List M}, pull rs ρ = some (ms, ρ1) → ρ1.length = ρ.length ∧ ∀ j, slot ρ j = none → slot ρ1 j = none
  | [], ρ, ρ1, ms, e => by cases e; exact ⟨rfl, fun _ h => h⟩
  | .pl i :: rs, ρ, ρ1, ms, e => by
    unfold pull at e
    split at e
    · split at e
      · rename_i e2
        cases e
        obtain ⟨h1, h2⟩ := pull_len e2
        refine ⟨by rw [h1, List.length_set], fun j hj => h2 j ?_⟩
        by_cases q : i = j
        · subst q
          rw [slot_set]
          split
          · rfl
          · exact hj
        · rw [slot_other _ q]; exact hj
      · cases e
    · cases e
  | .vl m :: rs, ρ, ρ1, ms, e => by
    unfold pull at e
    split at e
    · rename_i e2
      cases e
      exact pull_len e2
    · cases e
theorem pull_no : ∀ {rs : List R} {ρ ρ1 : Env} {ms : List M} {i : Nat}, pull rs ρ = some (ms, ρ1) → slot ρ i = none → ∀ r ∈ rs, r ≠ .pl i
  | [], _, _, _, _, _, _ => fun _ h => by cases h
  | .pl j :: rs, ρ, ρ1, ms, i, e, hi => by
    unfold pull at e
    split at e
    · rename_i m em
      split at e
      · rename_i e2
        intro r hr
        rcases List.mem_cons.mp hr with h | h
        · subst h
          intro q
          cases q
          rw [hi] at em; cases em
        · exact pull_no e2 (by
            by_cases q : j = i
            · subst q; rw [hi] at em; cases em
            · rw [slot_other _ q]; exact hi) r h
      · cases e
    · cases e
  | .vl m :: rs, ρ, ρ1, ms, i, e, hi => by
    unfold pull at e
    split at e
    · rename_i e2
      intro r hr
      rcases List.mem_cons.mp hr with h | h
      · subst h; exact fun q => by cases q
      · exact pull_no e2 hi r h
    · cases e
theorem pull_ok {Zb Hb : Hp} {Ab : AS} : ∀ {rs : List R} {ρ ρ1 : Env} {F : Nat → List Addr} {ms : List M} {vs : List V} {Gs : List (List Addr)} {F0 : Nat → List Addr}, Rel K Z H σ ρ F → (∀ a, U F a → U F0 a) → OpsOk K Zb Hb Ab σ Z H F0 rs vs Gs → pull rs ρ = some (ms, ρ1) →
    ∃ F1 Gs', Rel K Z H σ ρ1 F1 ∧ ArgO K Z H ms vs Gs' ∧ Outs σ ρ1 rs vs ∧ (∀ a, U F1 a → U F a) ∧ (∀ a, U F1 a → ¬ inL Gs' a) ∧ ∀ a, inL Gs' a → U F a ∨ inL Gs a
  | [], ρ, ρ1, F, ms, _, _, F0, R, hF, .nil, e => by
    cases e
    exact ⟨F, [], R, .nil, .nil, fun _ h => h, (fun _ _ ⟨_, h, _⟩ => by cases h), (fun _ ⟨_, h, _⟩ => by cases h)⟩
  | .pl i :: rs, ρ, ρ1, F, ms, _, _, F0, R, hF, .cons (v := v) (G := G) (Gs := Gs) o os d, e => by
    unfold pull at e
    split at e
    · rename_i m em
      split at e
      · rename_i ms2 ρ2 e2
        cases e
        obtain ⟨hv, hG⟩ := o
        subst hG
        obtain ⟨w, h1, h2, h3⟩ := R.del_own em
        rw [hv] at h1; cases h1
        obtain ⟨F1, Gs', R1, a1, o1, k1, k2, k3⟩ := pull_ok (R.del i) (fun a h => hF a (U_del h)) os e2
        have dis : ∀ a ∈ F i, ¬ inL Gs' a := fun a ha hi => by
          rcases k3 a hi with h | ⟨G2, hg, h⟩
          · exact h3 a ha h
          · exact temps_ap os G2 hg a h (hF a ⟨i, ha⟩)
        obtain ⟨l1, l2⟩ := pull_len e2
        refine ⟨F1, F i :: Gs', R1, .cons h2 a1 fun a ha G2 hg hq => dis a ha ⟨G2, hg, hq⟩, .pl hv (by rw [l1, List.length_set]; exact slot_lt em) (l2 i (slot_self _ (slot_lt em))) (pull_no e2 (slot_self _ (slot_lt em))) o1,
          fun a h => U_del (k1 a h), fun a h ⟨G2, hg, hq⟩ => ?_, fun a ⟨G2, hg, hq⟩ => ?_⟩
        · rcases List.mem_cons.mp hg with q | q
          · subst q; exact h3 a hq (k1 a h)
          · exact k2 a h ⟨G2, q, hq⟩
        · rcases List.mem_cons.mp hg with q | q
          · subst q; exact .inl ⟨i, hq⟩
          · rcases k3 a ⟨G2, q, hq⟩ with h | ⟨G3, hg3, h⟩
            · exact .inl (U_del h)
            · exact .inr ⟨G3, List.mem_cons_of_mem _ hg3, h⟩
      · cases e
    · cases e
  | .vl m :: rs, ρ, ρ1, F, ms, _, _, F0, R, hF, .cons (v := v) (G := G) (Gs := Gs) o os d, e => by
    unfold pull at e
    split at e
    · rename_i ms2 ρ2 e2
      cases e
      obtain ⟨F1, Gs', R1, a1, o1, k1, k2, k3⟩ := pull_ok R hF os e2
      have o' : Res K Zb Hb Ab Z H F0 m v G := o
      have dis : ∀ a ∈ G, ¬ inL Gs' a := fun a ha hi => by
        rcases k3 a hi with h | ⟨G2, hg, h⟩
        · exact o'.ap a ha (hF a h)
        · exact d a ha G2 hg h
      refine ⟨F1, G :: Gs', R1, .cons o'.own a1 fun a ha G2 hg hq => dis a ha ⟨G2, hg, hq⟩, .vl o1, k1, fun a h ⟨G2, hg, hq⟩ => ?_, fun a ⟨G2, hg, hq⟩ => ?_⟩
      · rcases List.mem_cons.mp hg with q | q
        · subst q; exact o'.ap a hq (hF a (k1 a h))
        · exact k2 a h ⟨G2, q, hq⟩
      · rcases List.mem_cons.mp hg with q | q
        · subst q; exact .inr ⟨_, List.mem_cons_self, hq⟩
        · rcases k3 a ⟨G2, q, hq⟩ with h | ⟨G3, hg3, h⟩
          · exact .inl h
          · exact .inr ⟨G3, List.mem_cons_of_mem _ hg3, h⟩
    · cases e
where
  temps_ap {Zb Hb : Hp} {Ab : AS} {F0 : Nat → List Addr} {rs : List R} {vs : List V} {Gs : List (List Addr)} (o : OpsOk K Zb Hb Ab σ Z H F0 rs vs Gs) : ∀ G ∈ Gs, ∀ a ∈ G, ¬ U F0 a := by
    induction o with
    | nil => exact fun _ h => by cases h
    | @cons r v G rs vs Gs h _ d ih =>
      intro G2 hg a ha
      rcases List.mem_cons.mp hg with e | hg
      · subst e
        cases r with
        | pl i => obtain ⟨_, h2⟩ := h; subst h2; cases ha
        | vl m => exact Res.ap h a ha
      · exact ih G2 hg a ha
theorem outs_set {ρ : Env} {i : Nat} {o : Option M} {rs : List R} {vs : List V} (os : Outs σ ρ rs vs) : (∀ r ∈ rs, r ≠ .pl i) → Outs σ (ρ.set i o) rs vs := by
  induction os with
  | nil => exact fun _ => .nil
  | @pl j v rs vs h1 h2 h3 h4 os ih =>
    intro h
    have hj : i ≠ j := fun q => h _ List.mem_cons_self (by rw [q])
    exact .pl h1 (by rw [List.length_set]; exact h2) (by rw [slot_other _ hj]; exact h3) h4 (ih fun r hr => h r (List.mem_cons_of_mem _ hr))
  | vl os ih => exact fun h => .vl (ih fun r hr => h r (List.mem_cons_of_mem _ hr))
theorem put_ok : ∀ {rs : List R} {ρ : Env} {F : Nat → List Addr} {ms : List M} {vs : List V} {Gs : List (List Addr)}, Rel K Z H σ ρ F → ArgO K Z H ms vs Gs → Outs σ ρ rs vs → (∀ a, inL Gs a → ¬ U F a) → ∃ F2, Rel K Z H σ (putBack rs ms ρ) F2 ∧ ∀ a, U F2 a → U F a ∨ inL Gs a
  | [], ρ, F, _, _, _, R, .nil, .nil, _ => ⟨F, R, fun _ h => .inl h⟩
  | .pl i :: rs, ρ, F, _, _, _, R, .cons (m := m) (v := v) (G := G) (ms := ms) (vs := vs) (Gs := Gs) o as d, .pl h1 h2 h3 h4 os, ap => by
    have R1 := R.put h3 h2 h1 o fun a ha => ap a ⟨G, List.mem_cons_self, ha⟩
    have os2 : Outs σ (ρ.set i (some m)) rs vs := outs_set os h4
    obtain ⟨F2, R2, k⟩ := put_ok R1 as os2 fun a ⟨G2, hg, ha⟩ hu => by
      rcases U_fset hu with h | ⟨j, _, h⟩
      · exact d a h G2 hg ha
      · exact ap a ⟨G2, List.mem_cons_of_mem _ hg, ha⟩ ⟨j, h⟩
    refine ⟨F2, R2, fun a h => ?_⟩
    rcases k a h with q | ⟨G2, hg, q⟩
    · rcases U_fset q with h | ⟨j, _, h⟩
      · exact .inr ⟨G, List.mem_cons_self, h⟩
      · exact .inl ⟨j, h⟩
    · exact .inr ⟨G2, List.mem_cons_of_mem _ hg, q⟩
  | .vl m0 :: rs, ρ, F, _, _, _, R, .cons (m := m) (v := v) (G := G) (ms := ms) (vs := vs) (Gs := Gs) o as d, .vl os, ap => by
    obtain ⟨F2, R2, k⟩ := put_ok R as os fun a ⟨G2, hg, ha⟩ => ap a ⟨G2, List.mem_cons_of_mem _ hg, ha⟩
    refine ⟨F2, R2, fun a h => ?_⟩
    rcases k a h with q | ⟨G2, hg, q⟩
    · exact .inl q
    · exact .inr ⟨G2, List.mem_cons_of_mem _ hg, q⟩
end
end
end Mn
end
section
set_option maxHeartbeats 200000
namespace Mn
open PySem L2 PySem.Spec
variable [WW]
section
variable {K : PySem.W.Frag} {σ : St} {Z H Z1 H1 : Hp} {A : AS} {ρ ρ1 : Env} {F F1 : Nat → List Addr}
theorem pull_slot : ∀ {rs : List R} {ρ ρ1 : Env} {ms : List M}, pull rs ρ = some (ms, ρ1) → ms.length = rs.length ∧ ∀ j m, slot ρ j = some m → slot ρ1 j = some m ∨ ∃ p : Nat, rs[p]? = some (.pl j) ∧ ms[p]? = some m
  | [], ρ, ρ1, ms, e => by cases e; exact ⟨rfl, fun _ _ h => .inl h⟩
  | .pl i :: rs, ρ, ρ1, ms, e => by
    unfold pull at e
    split at e
    · rename_i m0 em
      split at e
      · rename_i e2
        cases e
        obtain ⟨h1, h2⟩ := pull_slot e2
        refine ⟨by rw [List.length_cons, List.length_cons, h1], fun j m hj => ?_⟩
        by_cases q : i = j
        · subst q; rw [em] at hj; cases hj; exact .inr ⟨0, rfl, rfl⟩
        · rcases h2 j m (by rw [slot_other _ q]; exact hj) with h | ⟨p, h3, h4⟩
          · exact .inl h
          · exact .inr ⟨p + 1, h3, h4⟩
      · cases e
    · cases e
  | .vl m0 :: rs, ρ, ρ1, ms, e => by
    unfold pull at e
    split at e
    · rename_i e2
      cases e
      obtain ⟨h1, h2⟩ := pull_slot e2
      refine ⟨by rw [List.length_cons, List.length_cons, h1], fun j m hj => ?_⟩
      rcases h2 j m hj with h | ⟨p, h3, h4⟩
      · exact .inl h
      · exact .inr ⟨p + 1, h3, h4⟩
    · cases e
theorem put_keep {rs : List R} {vs : List V} {ρ : Env} (os : Outs σ ρ rs vs) : ∀ {ms : List M} {j : Nat} {m : M}, slot ρ j = some m → slot (putBack rs ms ρ) j = some m := by
  have aux : ∀ {rs : List R} {ρ : Env} {ms : List M} {j : Nat} {m : M}, (∀ r ∈ rs, r ≠ .pl j) → slot ρ j = some m → slot (putBack rs ms ρ) j = some m := by
    intro rs
    induction rs with
    | nil => intro ρ ms j m _ h; unfold putBack; exact h
    | cons r rs ih =>
      intro ρ ms j m hn h
      cases ms with
      | nil => cases r <;> (unfold putBack; exact h)
      | cons m0 ms =>
        cases r with
        | pl i =>
          have hij : i ≠ j := fun q => hn _ List.mem_cons_self (by rw [q])
          exact ih (fun r hr => hn r (List.mem_cons_of_mem _ hr)) (by rw [slot_other _ hij]; exact h)
        | vl _ => exact ih (fun r hr => hn r (List.mem_cons_of_mem _ hr)) h
  intro ms j m h
  refine aux (fun r hr q => ?_) h
  subst q
  have : ∀ {rs : List R} {vs : List V}, Outs σ ρ rs vs → R.pl j ∈ rs → slot ρ j = none := by
    intro rs vs o
    induction o with
    | nil => exact fun h => by cases h
    | pl h1 h2 h3 h4 _ ih =>
      intro hm
      rcases List.mem_cons.mp hm with q | q
      · cases q; exact h3
      · exact ih q
    | vl _ ih =>
      intro hm
      rcases List.mem_cons.mp hm with q | q
      · cases q
      · exact ih q
  rw [this os hr] at h; cases h
theorem put_at : ∀ {rs : List R} {vs : List V} {ρ : Env} {ms : List M} {p j : Nat} {m : M}, Outs σ ρ rs vs → rs[p]? = some (.pl j) → ms[p]? = some m → slot (putBack rs ms ρ) j = some m
  | [], _, _, _, _, _, _, _, h, _ => by simp at h
  | .pl i :: rs, _, ρ, ms, p, j, m, .pl h1 h2 h3 h4 os, hr, hm => by
    cases ms with
    | nil => simp at hm
    | cons m0 ms =>
      cases p with
      | zero =>
        simp at hr hm
        subst hr hm
        exact put_keep (outs_set (o := some m0) os h4) (slot_self _ h2)
      | succ p =>
        show slot (putBack rs ms (ρ.set i (some m0))) j = some m
        exact put_at (rs := rs) (p := p) (outs_set os h4) (by simpa using hr) (by simpa using hm)
  | .vl _ :: rs, _, ρ, ms, p, j, m, .vl os, hr, hm => by
    cases ms with
    | nil => simp at hm
    | cons m0 ms =>
      cases p with
      | zero => simp at hr
      | succ p =>
        show slot (putBack rs ms ρ) j = some m
        exact put_at (rs := rs) (p := p) os (by simpa using hr) (by simpa using hm)
theorem put_length : ∀ {rs : List R} {ms : List M} {ρ : Env}, (putBack rs ms ρ).length = ρ.length
  | [], _, _ => by unfold putBack; rfl
  | .pl i :: rs, [], _ => by unfold putBack; rfl
  | .vl m :: rs, [], _ => by unfold putBack; rfl
  | .pl i :: rs, m :: ms, ρ => by
    show (putBack rs ms (ρ.set i (some m))).length = _
    rw [put_length, List.length_set]
  | .vl _ :: rs, m :: ms, ρ => by
    show (putBack rs ms ρ).length = _
    rw [put_length]
theorem call_lk {cx : Cxt} {rs : List R} {vs : List V} {ms ms1 : List M} (e : pull rs ρ = some (ms, ρ1)) (os : Outs σ ρ1 rs vs) (l : LkA ms ms1) : Lk cx ρ (putBack rs ms1 ρ1) := by
  obtain ⟨h1, h2⟩ := pull_slot e
  refine ⟨fun j m hj => ?_, fun j _ hn => ?_, by rw [put_length, (pull_len e).1]⟩
  · rcases h2 j _ hj with h | ⟨p, h3, h4⟩
    · exact put_keep os h
    · exact put_at os h3 (l.2 p m h4)
  · cases hs : slot ρ j with
    | none => exact (hn hs).elim
    | some m =>
      rcases h2 j _ hs with h | ⟨p, h3, h4⟩
      · rw [put_keep os h]; exact fun z => by cases z
      · have hp : p < ms1.length := by
          rw [l.1]
          exact (List.getElem?_eq_some_iff.mp h4).1
        rw [put_at os h3 (List.getElem?_eq_getElem hp)]
        exact fun z => by cases z
end
section
variable {T : Tab} {k : Nat} {cx : Cxt} {X : Cx} {x y z : Expr} {pos p2 p3 apos : Pos}
theorem call_chain {f : Nat} {es : EL} {σ : St} {H : Hp} {Q : VK} : TEx X.K cx (ev cx (.call f es)) σ H Q → tCall (spF X.K cx.C f) [] E0 (TAr X.K cx (evl cx es)) σ H Q := fun ⟨Z, ρ, F, m, ρ', R, e, q⟩ => by
  simp only [ev] at e
  split at e
  · rename_i rs ρ1 e1
    split at e
    · rename_i ms ρ2 e2
      split at e
      · rename_i m3 ms1 e3
        cases e
        refine ⟨Z, ρ, F, rs, ρ1, R, e1, fun Z1 H1 F1 vs Gs g1 o1 => ?_⟩
        show spF X.K cx.C f (vs ++ []) H1 Q E0
        rw [List.append_nil]
        obtain ⟨F2, Gs', R2, a1, os, k1, k2, k3⟩ := pull_ok g1.rel (fun _ h => h) o1 e2
        refine ⟨Z1, ms, m, ms1, Gs', e3, g1.rel.sub, a1, fun Z3 H3 v G Gs2 s3 st ow a2 dj lk => ?_⟩
        have R3 := R2.frame st s3 k2
        -- what the call owns is apart from the other variables
        have fresh : ∀ a, inL (G :: Gs2) a → ¬ U F2 a := fun a h hu => by
          rcases st.an a h with h | h
          · exact k2 a hu h
          · obtain ⟨_, u, hu2, _⟩ := R2.mem hu
            rw [h] at hu2; cases hu2
        obtain ⟨F4, R4, k4⟩ := put_ok R3 a2 os fun a ⟨G2, hg, ha⟩ => fresh a ⟨G2, List.mem_cons_of_mem _ hg, ha⟩
        have back : ∀ a, inL Gs' a → U F a ∨ H a = none ∨ U F1 a := fun a h => by
          rcases k3 a h with h | ⟨G2, hg, h⟩
          · exact .inr (.inr h)
          · rcases o1.temps G2 hg a h with h | h
            · exact .inl h
            · exact .inr (.inl h)
        have st2 : Step Z H Z3 H3 (U F) (U F4) := by
          refine ⟨fun a o h n => ?_, g1.st.zz.trans st.zz, fun a o h => ?_, fun a h => ?_, fun a o u h => st.fz a o u (g1.st.fz a o u h)⟩
          · have h1 := g1.st.fr a o h n
            refine st.fr a o h1 fun hi => ?_
            rcases back a hi with q | q | q
            · exact n q
            · rw [q] at h; cases h
            · rcases g1.st.an a q with q | q
              · exact n q
              · rw [q] at h; cases h
          · rcases st.zn a o h with h | h | h | h
            · exact g1.st.zn a o h
            · rcases back a h with q | q | q
              · exact .inr (.inl q)
              · exact .inr (.inr (.inl q))
              · rcases g1.st.an a q with q | q
                · exact .inr (.inl q)
                · exact .inr (.inr (.inl q))
            · rcases new_back g1.st h with q | q
              · exact .inr (.inl q)
              · exact .inr (.inr (.inl q))
            · exact .inr (.inr (.inr h))
          · have key : inL (G :: Gs2) a → U F a ∨ H a = none := fun h => by
              rcases st.an a h with h | h
              · rcases back a h with q | q | q
                · exact .inl q
                · exact .inr q
                · exact g1.st.an a q
              · exact new_back g1.st h
            rcases k4 a h with h | ⟨G2, hg, h⟩
            · exact g1.st.an a (k1 a h)
            · exact key ⟨G2, List.mem_cons_of_mem _ hg, h⟩
        refine q Z3 H3 F4 v G ⟨R4, st2, g1.lk.trans (call_lk e2 os lk)⟩ ⟨ow, fun a ha hu => ?_, fun a ha => ?_⟩
        · rcases k4 a hu with h | h
          · exact fresh a ⟨G, List.mem_cons_self, ha⟩ h
          · exact dj a ha h
        · rcases st.an a ⟨G, List.mem_cons_self, ha⟩ with h | h
          · rcases back a h with q | q | q
            · exact .inl q
            · exact .inr q
            · exact g1.st.an a q
          · exact new_back g1.st h
      · cases e
    · cases e
  · cases e
theorem snd_call {f : Nat} {Fn0 : Fn} {es : EL} {xs : List Expr} {n : Str} (g : Good T k cx X) (hf : T.fs[f]? = some Fn0) (hn : n = Fn0.name) (hg : glB X.env.scope n = true) (ha : PA X (x :: xs) (TAr X.K cx (evl cx es))) (hs : notStar x = true) (hss : xs.all notStar = true) :
    PE X (.Call (.Name n p2) (x :: xs) [] pos) (TEx X.K cx (ev cx (.call f es))) := by
  obtain ⟨hgl, hp⟩ := gl_of hg
  obtain ⟨a, fd, h1, h2, h3, h4⟩ := g.fns f Fn0 hf
  rw [← hn] at h1
  exact PE.mono (pe_call h4 g.room hgl h1 h2 h3 .nil pass0 ha (plain_of hp).1 (star_of hs) (stars_of hss)) fun σ H Q h => call_chain h

def tG1 (K : PySem.W.Frag) (td ty : TE) : TE := fun σ H Q => td σ H fun x H1 => ∃ a, x = .ref a ∧ IsD H1 a ∧ ty σ H1 fun y H2 => ∃ o, DG K H2 a y o ∧ Q (o.getD .non) H2
def tG2 (K : PySem.W.Frag) (td ty tx : TE) : TE := fun σ H Q => td σ H fun x H1 => ∃ a, x = .ref a ∧ IsD H1 a ∧ ty σ H1 fun y H2 => tx σ H2 fun z H3 => ∃ o, DG K H3 a y o ∧ Q (o.getD z) H3
theorem pe_g1 {td ty : TE} (hu : X.A.units + 1 < cLine) (ho : PE X x td) (he : PE X y ty) (m : M1 X x "get" apos y pos) : PE X (.Call (.Attribute x "get" apos) [y] [] pos) (tG1 X.K td ty) := ⟨fun pins s σ H Q J h => by
  refine wpAny_Call_method m.base m.few m.line PySem.F.plainAttrs_dict PySem.F.slot_dict_get PySem.F.type_dict_get (thn (ho.run pins s σ H _ J h) fun u s1 ⟨w, H1, J1, rx, a, ex, d, q1⟩ => ?_)
  subst ex
  cases rx
  obtain ⟨t1, t2, _⟩ := isD_at J1 d
  refine ⟨t1, t2, ?_⟩
  rw [m.trees]
  exact Calls.callWith_builtin rfl (Calls.evalArgs_plain (Calls.spliced_cons (thn (he.run pins s1 σ H1 _ J1 q1) fun iv s2 ⟨y2, H2, J2, ry, ov, g, q2⟩ => Calls.spliced_nil (dg_get1 hu J2 g ry fun w' s3 J3 rw' => ⟨_, H2, J3, rw', q2⟩))))⟩
theorem pe_g2 {td ty tx : TE} (hu : X.A.units + 1 < cLine) (ho : PE X x td) (he : PE X y ty) (hf : PE X z tx) (m : M2 X x "get" apos y z pos) : PE X (.Call (.Attribute x "get" apos) [y, z] [] pos) (tG2 X.K td ty tx) := ⟨fun pins s σ H Q J h => by
  refine wpAny_Call_method m.base m.few m.line PySem.F.plainAttrs_dict PySem.F.slot_dict_get PySem.F.type_dict_get (thn (ho.run pins s σ H _ J h) fun u s1 ⟨w, H1, J1, rx, a, ex, d, q1⟩ => ?_)
  subst ex
  cases rx
  obtain ⟨t1, t2, _⟩ := isD_at J1 d
  refine ⟨t1, t2, ?_⟩
  rw [m.trees]
  exact Calls.callWith_builtin rfl (Calls.evalArgs_plain (Calls.spliced_cons (thn (he.run pins s1 σ H1 _ J1 q1) fun iv s2 ⟨y2, H2, J2, ry, q2⟩ => Calls.spliced_cons (thn (hf.run pins s2 σ H2 _ J2 q2) fun fv s3 ⟨z2, H3, J3, rz, ov, g, q3⟩ =>
    Calls.spliced_nil (dg_get2 hu J3 g ry rz fun w' s4 J4 rw' => ⟨_, H3, J4, rw', q3⟩)))))⟩
end
end Mn
end
section
set_option maxHeartbeats 200000
namespace Mn
open PySem L2 PySem.Spec
variable [WW]
section
variable {K : PySem.W.Frag} {Z H Z' H' : Hp} {m : M} {x : V} {G : List Addr}
omit [WW] in
theorem getA_put {κ α : Type} [DecidableEq κ] (k j : κ) (y : α) : ∀ kvs : List (κ × α), getA (putA kvs k y) j = if j = k then some y else getA kvs j := by
  have hm : ∀ kvs : List (κ × α), getA (kvs.map fun kv => if kv.1 = k then (kv.1, y) else kv) j = if j = k then (getA kvs k).map fun _ => y else getA kvs j := by
    intro kvs
    induction kvs with
    | nil => by_cases e : j = k <;> simp [getA, e]
    | cons p r ih =>
      by_cases e : j = k
      · subst e
        rw [if_pos rfl] at ih ⊢
        by_cases q : p.1 = j
        · simp [getA, List.find?_cons, q]
        · have : getA ((p :: r).map fun kv => if kv.1 = j then (kv.1, y) else kv) j = getA (r.map fun kv => if kv.1 = j then (kv.1, y) else kv) j := by
            simp [getA, List.find?_cons, q]
          rw [this, ih]
          simp [getA, List.find?_cons, q]
      · rw [if_neg e] at ih ⊢
        by_cases q : p.1 = k
        · have q2 : ¬ p.1 = j := fun z => e (z.symm.trans q)
          have : getA ((p :: r).map fun kv => if kv.1 = k then (kv.1, y) else kv) j = getA (r.map fun kv => if kv.1 = k then (kv.1, y) else kv) j := by
            simp [getA, List.find?_cons, q, q2, Ne.symm e]
          rw [this, ih]
          simp [getA, List.find?_cons, q2]
        · by_cases q2 : p.1 = j
          · simp [getA, List.find?_cons, q, q2, e]
          · have : getA ((p :: r).map fun kv => if kv.1 = k then (kv.1, y) else kv) j = getA (r.map fun kv => if kv.1 = k then (kv.1, y) else kv) j := by
              simp [getA, List.find?_cons, q, q2]
            rw [this, ih]
            simp [getA, List.find?_cons, q2]
  intro kvs
  have ha : (kvs.any fun kv => decide (kv.1 = k)) = (getA kvs k).isSome := by
    induction kvs with
    | nil => rfl
    | cons p r ih =>
      by_cases q : p.1 = k
      · simp [getA, List.find?_cons, q]
      · rw [List.any_cons, ih, decide_eq_false q, Bool.false_or]
        simp [getA, List.find?_cons, q]
  unfold putA
  rw [ha]
  cases e : getA kvs k with
  | some w =>
    rw [if_pos (show (some w).isSome = true from rfl), hm]
    by_cases q : j = k
    · rw [if_pos q, if_pos q, e]; rfl
    · rw [if_neg q, if_neg q]
  | none =>
    rw [if_neg (by simp)]
    have : getA (kvs ++ [(k, y)]) j = (getA kvs j).or (if j = k then some y else none) := by
      unfold getA
      rw [List.find?_append]
      cases kvs.find? fun kv => decide (kv.1 = j) with
      | some w => rfl
      | none =>
        by_cases q : j = k
        · subst q; simp
        · have : ¬ k = j := fun z => q z.symm
          simp [q, this]
    rw [this]
    by_cases q : j = k
    · subst q; rw [e]; simp
    · rw [if_neg q, if_neg q]; simp
/-- one entry's content is exchanged; the others stand apart of what is touched -/
theorem ownN_upd {A' : AS} (k : Key) : ∀ {ms : List (Key × M)} {vs : List (Key × V)} {G : List Addr} {m : M}, OwnN K Z H ms vs G → getA ms k = some m →
    ∃ v Gk, valV vs k = some v ∧ Own K Z H m v Gk ∧ (∀ a ∈ Gk, a ∈ G) ∧ ∀ {Z' H' : Hp} {m' : M} {v' : V} {G' : List Addr}, Step Z H Z' H' (· ∈ Gk) A' → Sub Z' H' → Own K Z' H' m' v' G' → (∀ a ∈ G', a ∈ Gk ∨ H a = none) →
      ∃ G2, OwnN K Z' H' (putA ms k m') (putK vs k v') G2 ∧ ∀ a ∈ G2, a ∈ G ∨ a ∈ G'
  | _, _, _, m, .nil, e => by cases e
  | _, _, _, m, @OwnN.cons _ _ _ _ k0 m0 v0 ms vs G G2 ko kn h t d, e => by
    by_cases q : k0 = k
    · subst q
      have e1 : m0 = m := by simpa [getA, List.find?_cons] using e
      subst e1
      refine ⟨v0, G, valV_pos rfl, h, fun a ha => List.mem_append_left _ ha, fun {Z' H' m' v' G'} st s o nw => ?_⟩
      have p1 : putA ((k0, m0) :: ms) k0 m' = (k0, m') :: ms := by
        have hm : (ms.map fun kv => if kv.1 = k0 then (kv.1, m') else kv) = ms := by
          have : ∀ {l : List (Key × M)}, getA l k0 = none → (l.map fun kv => if kv.1 = k0 then (kv.1, m') else kv) = l := by
            intro l
            induction l with
            | nil => intro _; rfl
            | cons p r ih =>
              intro hn
              by_cases q : p.1 = k0
              · simp [getA, List.find?_cons, q] at hn
              · rw [List.map_cons, if_neg q, ih (by simpa [getA, List.find?_cons, q] using hn)]
          exact this kn
        unfold putA
        rw [List.any_cons, decide_eq_true rfl, Bool.true_or, if_pos rfl, List.map_cons, if_pos rfl, hm]
      have p2 : putK ((k0, v0) :: vs) k0 v' = (k0, v') :: vs := by
        have kv : valV vs k0 = none := by
          have := ownN_get k0 t
          rw [kn] at this; exact this
        have hm : ∀ {l : List (Key × V)}, valV l k0 = none → (l.map fun kv => if kv.1 = k0 then (kv.1, v') else kv) = l := by
          intro l
          induction l with
          | nil => intro _; rfl
          | cons p r ih =>
            intro hn
            by_cases q : p.1 = k0
            · rw [valV_pos q] at hn; cases hn
            · rw [valV_neg q] at hn
              rw [List.map_cons, if_neg q, ih hn]
        unfold putK
        rw [List.any_cons, decide_eq_true rfl, Bool.true_or, if_pos rfl, List.map_cons, if_pos rfl, hm kv]
      rw [p1, p2]
      obtain ⟨t2, _⟩ := t.step (fun a ha hg => d a hg ha) st s
      refine ⟨G' ++ G2, .cons ko kn o t2 fun a ha hb => ?_, fun a ha => ?_⟩
      · rcases nw a ha with z | z
        · exact d a z hb
        · obtain ⟨_, u, hu, _⟩ := t.at_ a hb
          rw [z] at hu; cases hu
      · rcases List.mem_append.mp ha with z | z
        · exact .inr z
        · exact .inl (List.mem_append_right _ z)
    · have e1 : getA ms k = some m := by simpa [getA, List.find?_cons, q] using e
      obtain ⟨v, Gk, h1, h2, h3, h4⟩ := ownN_upd (A' := A') k t e1
      refine ⟨v, Gk, by rw [valV_neg (by exact q)]; exact h1, h2, fun a ha => List.mem_append_right _ (h3 a ha), fun {Z' H' m' v' G'} st s o nw => ?_⟩
      obtain ⟨G3, t3, k3⟩ := h4 st s o nw
      have p1 : putA ((k0, m0) :: ms) k m' = (k0, m0) :: putA ms k m' := by
        have hs : (ms.any fun kv => decide (kv.1 = k)) = true := by
          cases hx : ms.any fun kv => decide (kv.1 = k) with
          | true => rfl
          | false =>
            have : getA ms k = none := by
              unfold getA
              rw [List.find?_eq_none.mpr (fun x hx2 => by
                rw [List.any_eq_false] at hx
                exact hx x hx2)]
              rfl
            rw [this] at e1; cases e1
        unfold putA
        rw [List.any_cons, hs, Bool.or_true, if_pos rfl, if_pos rfl, List.map_cons, if_neg (by exact q)]
      have p2 : putK ((k0, v0) :: vs) k v' = (k0, v0) :: putK vs k v' := by
        have hs : (vs.any fun kv => decide (kv.1 = k)) = true := by rw [valV_any, h1]; rfl
        unfold putK
        rw [List.any_cons, hs, Bool.or_true, if_pos rfl, if_pos rfl, List.map_cons, if_neg (by exact q)]
      rw [p1, p2]
      have dG : ∀ a ∈ G, ¬ a ∈ Gk := fun a ha hb => d a ha (h3 a hb)
      obtain ⟨o2, _⟩ := h.step dG st s
      refine ⟨G ++ G3, .cons ko ?_ o2 t3 fun a ha hb => ?_, fun a ha => ?_⟩
      · rw [getA_put, if_neg (by exact q)]; exact kn
      · rcases k3 a hb with z | z
        · exact d a ha z
        · rcases nw a z with z2 | z2
          · exact dG a ha z2
          · obtain ⟨_, u, hu, _⟩ := h.at_ a ha
            rw [z2] at hu; cases hu
      · rcases List.mem_append.mp ha with z | z
        · exact .inl (List.mem_append_left _ z)
        · rcases k3 a z with z2 | z2
          · exact .inl (List.mem_append_right _ z2)
          · exact .inr z2
/-- a new entry -/
theorem ownN_new {k : Key} {m : M} {v : V} {G G' : List Addr} : ∀ {ms : List (Key × M)} {vs : List (Key × V)} {G : List Addr}, OwnN K Z H ms vs G → KeyOk k → getA ms k = none → Own K Z H m v G' → (∀ a ∈ G', a ∉ G) →
    ∃ G2, OwnN K Z H (ms ++ [(k, m)]) (vs ++ [(k, v)]) G2 ∧ ∀ a ∈ G2, a ∈ G ∨ a ∈ G'
  | _, _, _, .nil, ko, _, o, _ => ⟨G' ++ [], .cons ko rfl o .nil (fun _ _ h => by cases h), fun a h => .inr (by simpa using h)⟩
  | _, _, _, @OwnN.cons _ _ _ _ k0 m0 v0 ms vs G1 G2 ko0 kn h t d, ko, e, o, dj => by
    have q : ¬ k0 = k := fun q => by subst q; simp [getA, List.find?_cons] at e
    obtain ⟨G3, t3, k3⟩ := ownN_new (G := G) t ko (by simpa [getA, List.find?_cons, q] using e) o fun a ha hb => dj a ha (List.mem_append_right _ hb)
    refine ⟨G1 ++ G3, .cons ko0 ?_ h t3 fun a ha hb => ?_, fun a ha => ?_⟩
    · have : getA (ms ++ [(k, m)]) k0 = none := by
        unfold getA at kn ⊢
        rw [List.find?_append]
        cases hx : ms.find? fun kv => decide (kv.1 = k0) with
        | some w => rw [hx] at kn; cases kn
        | none =>
          have : ¬ k = k0 := fun z => q z.symm
          simp [this]
      exact this
    · rcases k3 a hb with z | z
      · exact d a ha z
      · exact dj a z (List.mem_append_left _ ha)
    · rcases List.mem_append.mp ha with z | z
      · exact .inl (List.mem_append_left _ z)
      · rcases k3 a z with z2 | z2
        · exact .inl (List.mem_append_right _ z2)
        · exact .inr z2
theorem isD_of (s : Sub Z H) (h : View K Z H (vw m) x) (e : mtBase .get (some m) = true) : ∃ a, x = .ref a ∧ IsD H a := by
  unfold mtBase at e
  dsimp only at e
  split at e <;> rename_i e1
  · rw [e1] at h
    cases h with
    | d h _ => exact ⟨_, rfl, .inl ⟨_, h⟩⟩
  · rw [e1] at h
    cases h with
    | t h _ => exact ⟨_, rfl, .inr ⟨_, h⟩⟩
  · rw [e1] at h
    cases h with
    | v h =>
      cases h with
      | dk h _ => exact ⟨_, rfl, .inl ⟨_, .inr ⟨_, s _ _ h⟩⟩⟩
      | dt h _ => exact ⟨_, rfl, .inr ⟨_, .inr ⟨_, s _ _ h⟩⟩⟩
  · cases e
/-- what get finds -/
theorem get_find (s : Sub Z H) {p : P} {y : V} (h : View K Z H (vw m) x) (hp : Rep K Z y p) {ms : List M} {r : M} (e : mtM .get m (.v p :: ms) = some r) : ∃ a o, x = .ref a ∧ DG K H a y o ∧
    ((∃ q v, o = some v ∧ Rep K Z v q ∧ r = .v q) ∨ (o = none ∧ ((ms = [] ∧ r = .v .none) ∨ ∃ d, ms = [d] ∧ r = d))) := by
  have hit : ∀ {a : Addr} {q : Option P} {o : Option V}, x = .ref a → DG K H a y o → Hit K Z q o → (ms = [] ∧ r = .v (q.getD .none) ∨ ∃ d, ms = [d] ∧ r = (match q with | some q => .v q | none => d)) → ∃ a o, x = .ref a ∧ DG K H a y o ∧
      ((∃ q v, o = some v ∧ Rep K Z v q ∧ r = .v q) ∨ (o = none ∧ ((ms = [] ∧ r = .v .none) ∨ ∃ d, ms = [d] ∧ r = d))) := by
    intro a q o ex g hq hr
    refine ⟨a, o, ex, g, ?_⟩
    cases q with
    | some q =>
      obtain ⟨v, h1, h2⟩ := (show ∃ v, o = some v ∧ Rep K Z v q from hq)
      refine .inl ⟨q, v, h1, h2, ?_⟩
      rcases hr with ⟨_, h⟩ | ⟨d, _, h⟩ <;> exact h
    | none =>
      refine .inr ⟨hq, ?_⟩
      rcases hr with ⟨h0, h⟩ | ⟨d, h0, h⟩
      · exact .inl ⟨h0, h⟩
      · exact .inr ⟨d, h0, h⟩
  unfold mtM at e
  split at e
  · rename_i kvs e1 e2
    rw [e1] at h
    injection e2 with e3 e4
    cases e3
    subst e4
    cases hp
    cases e
    cases h with
    | d h r1 => exact ⟨_, none, rfl, .inr (.inr ⟨_, h, rfl, rfl⟩), .inr ⟨rfl, .inl ⟨rfl, rfl⟩⟩⟩
  · rename_i kvs d e1 e2
    rw [e1] at h
    injection e2 with e3 e4
    cases e3
    subst e4
    cases hp
    cases e
    cases h with
    | d h r1 => exact ⟨_, none, rfl, .inr (.inr ⟨_, h, rfl, rfl⟩), .inr ⟨rfl, .inr ⟨_, rfl, rfl⟩⟩⟩
  · rename_i kvs p2 _ e1 e2
    rw [e1] at h
    injection e2 with e3 e4
    cases e3
    subst e4
    split at e
    · rename_i k ek
      cases e
      obtain ⟨ey, _, _⟩ := keyOf_v ek hp
      cases h with
      | d h r1 => exact hit rfl (.inl ⟨_, k, h, ey, rfl⟩) (dRel_hit r1 k) (.inl ⟨rfl, rfl⟩)
    · cases e
  · rename_i kvs p2 d _ e1 e2
    rw [e1] at h
    injection e2 with e3 e4
    cases e3
    subst e4
    split at e
    · rename_i k ek
      obtain ⟨ey, _, _⟩ := keyOf_v ek hp
      cases h with
      | d h r1 =>
        refine hit rfl (.inl ⟨_, k, h, ey, rfl⟩) (dRel_hit r1 k) (.inr ⟨_, rfl, ?_⟩)
        split at e <;> rename_i eq <;> first | (rw [eq]; exact (Option.some.inj e).symm) | exact (Option.some.inj e).symm
    · cases e
  · rename_i kvs p2 e1 e2
    rw [e1] at h
    injection e2 with e3 e4
    cases e3
    subst e4
    split at e
    · rename_i k ek
      cases e
      obtain ⟨b, ey, hb, _, _⟩ := keysOf_v ek hp
      cases h with
      | t h r1 => exact hit rfl (.inr (.inl ⟨_, k, b, h, ey, sqT_sub s hb, rfl⟩)) (tRel_hit r1 k) (.inl ⟨rfl, rfl⟩)
    · cases e
  · rename_i kvs p2 d e1 e2
    rw [e1] at h
    injection e2 with e3 e4
    cases e3
    subst e4
    split at e
    · rename_i k ek
      obtain ⟨b, ey, hb, _, _⟩ := keysOf_v ek hp
      cases h with
      | t h r1 =>
        refine hit rfl (.inr (.inl ⟨_, k, b, h, ey, sqT_sub s hb, rfl⟩)) (tRel_hit r1 k) (.inr ⟨_, rfl, ?_⟩)
        split at e <;> rename_i eq <;> first | (rw [eq]; exact (Option.some.inj e).symm) | exact (Option.some.inj e).symm
    · cases e
  · rename_i kvs p2 e1 e2
    rw [e1] at h
    injection e2 with e3 e4
    cases e3
    subst e4
    split at e
    · rename_i q eq
      cases e
      obtain ⟨c, o, ex, g, ht⟩ := getF_ok s h.imm hp eq
      exact hit ex g ht (.inl ⟨rfl, rfl⟩)
    · cases e
  · rename_i kvs p2 d e1 e2
    rw [e1] at h
    injection e2 with e3 e4
    cases e3
    subst e4
    split at e
    · rename_i q eq
      obtain ⟨c, o, ex, g, ht⟩ := getF_ok s h.imm hp eq
      exact hit ex g ht (.inr ⟨_, rfl, (Option.some.inj e).symm⟩)
    · rename_i eq
      obtain ⟨c, o, ex, g, ht⟩ := getF_ok s h.imm hp eq
      exact hit ex g ht (.inr ⟨_, rfl, (Option.some.inj e).symm⟩)
    · cases e
  · rename_i e0 _ _; cases e0
  · cases e
end
section
variable {T : Tab} {k : Nat} {cx : Cxt} {X : Cx} {x y z : Expr} {pos p2 p3 apos : Pos}
theorem snd_get1 {a b : E} (g : Good T k cx X) (ha : PE X x (TOp X.K cx (opE a (ev cx a)))) (hb : PE X y (TEx X.K cx (ev cx b))) (nb : isPl b = false) (h0 : notCall0 x = true) (hs : notStar y = true) (hl : (apos.endLine == pos.line) = true) :
    PE X (.Call (.Attribute x "get" apos) [y] [] pos) (TEx X.K cx (ev cx (.mt .get a (.cons b .nil)))) := PE.mono (pe_g1 (by have := g.room.units; omega) ha hb (m1_of h0 hs hl)) fun σ H Q ⟨Z, ρ, F, m, ρ', R, e, q⟩ => by
  simp only [ev, evl, opE_ex nb] at e
  split at e
  · rename_i r1 ρ1 e1
    split at e
    · rename_i hb1
      cases e2 : ev cx b ρ1 with
      | none => rw [e2] at e; cases e
      | some w =>
        obtain ⟨m2, ρ2⟩ := w
        rw [e2] at e
        have hrd : ∀ ρ, rd ρ (.vl m2) = some m2 := fun _ => rfl
        simp only [rds, hrd] at e
        split at e
        · rename_i m1 ms e3 e4
          cases e4
          split at e
          · rename_i m3 e5
            cases e
            refine ⟨Z, ρ, F, r1, ρ1, R, e1, fun Z1 H1 F1 v1 G1 g1 o1 => ?_⟩
            cases e6 : rd ρ1 r1 with
            | none => rw [e6] at hb1; cases hb1
            | some m0 =>
              rw [e6] at hb1
              obtain ⟨_, w0⟩ := o1.rd g1.rel e6
              obtain ⟨c, ec, hd⟩ := isD_of g1.rel.sub w0.view hb1
              refine ⟨c, ec, hd, Z1, ρ1, F1, m2, _, g1.rel, e2, fun Z2 H2 F2 v2 G2 g2 r2 => ?_⟩
              obtain ⟨_, w1⟩ := (o1.carry g2).rd g2.rel e3
              obtain ⟨ow, ap, nw⟩ := r2
              have e7 : ∃ p, m2 = .v p := by
                unfold mtM at e5
                split at e5 <;> first | (rename_i e8; injection e8 with e9 _; exact ⟨_, e9⟩) | (rename_i e0 _ _; cases e0) | cases e5
              obtain ⟨p, rfl⟩ := e7
              cases ow with
              | v hp =>
                obtain ⟨c2, o, ec2, hg, hr⟩ := get_find g2.rel.sub w1.view hp e5
                have : c2 = c := by rw [ec] at ec2; cases ec2; rfl
                subst this
                refine ⟨o, hg, ?_⟩
                rcases hr with ⟨q2, v, rfl, hv, rfl⟩ | ⟨rfl, ⟨_, rfl⟩ | ⟨d, h9, _⟩⟩
                · exact q Z2 H2 F2 v [] (g1.trans g2) ⟨.v hv, no0, no0⟩
                · exact q Z2 H2 F2 _ [] (g1.trans g2) ⟨.v .non, no0, no0⟩
                · cases h9
          · cases e
        · cases e
    · cases e
  · cases e
theorem snd_get2 {a b d : E} (g : Good T k cx X) (ha : PE X x (TOp X.K cx (opE a (ev cx a)))) (hb : PE X y (TEx X.K cx (ev cx b))) (hd : PE X z (TEx X.K cx (ev cx d))) (nb : isPl b = false) (nd : isPl d = false) (h0 : notCall0 x = true) (hs : notStar y = true) (hs2 : notStar z = true) (hl : (apos.endLine == pos.line) = true) :
    PE X (.Call (.Attribute x "get" apos) [y, z] [] pos) (TEx X.K cx (ev cx (.mt .get a (.cons b (.cons d .nil))))) := PE.mono (pe_g2 (by have := g.room.units; omega) ha hb hd (m2_of h0 hs hs2 hl)) fun σ H Q ⟨Z, ρ, F, m, ρ', R, e, q⟩ => by
  simp only [ev, evl, opE_ex nb, opE_ex nd] at e
  split at e
  · rename_i r1 ρ1 e1
    split at e
    · rename_i hb1
      cases e2 : ev cx b ρ1 with
      | none => rw [e2] at e; cases e
      | some w =>
        obtain ⟨m2, ρ2⟩ := w
        rw [e2] at e
        dsimp only at e
        cases e9 : ev cx d ρ2 with
        | none => rw [e9] at e; cases e
        | some w =>
          obtain ⟨m9, ρ3⟩ := w
          rw [e9] at e
          have hrd : ∀ ρ m, rd ρ (.vl m) = some m := fun _ _ => rfl
          simp only [rds, hrd] at e
          split at e
          · rename_i m1 ms e3 e4
            cases e4
            split at e
            · rename_i m3 e5
              cases e
              refine ⟨Z, ρ, F, r1, ρ1, R, e1, fun Z1 H1 F1 v1 G1 g1 o1 => ?_⟩
              cases e6 : rd ρ1 r1 with
              | none => rw [e6] at hb1; cases hb1
              | some m0 =>
                rw [e6] at hb1
                obtain ⟨_, w0⟩ := o1.rd g1.rel e6
                obtain ⟨c, ec, hd⟩ := isD_of g1.rel.sub w0.view hb1
                refine ⟨c, ec, hd, Z1, ρ1, F1, m2, ρ2, g1.rel, e2, fun Z2 H2 F2 v2 G2 g2 r2 => ⟨Z2, ρ2, F2, m9, _, g2.rel, e9, fun Z3 H3 F3 v3 G3 g3 r3 => ?_⟩⟩
                obtain ⟨_, w1⟩ := (o1.carry (g2.trans g3)).rd g3.rel e3
                have r2' := r2.carry g3
                obtain ⟨ow, ap, nw⟩ := r2'
                have e7 : ∃ p, m2 = .v p := by
                  unfold mtM at e5
                  split at e5 <;> first | (rename_i e8; injection e8 with e9 _; exact ⟨_, e9⟩) | (rename_i e0 _ _; cases e0) | cases e5
                obtain ⟨p, rfl⟩ := e7
                cases ow with
                | v hp =>
                  obtain ⟨c2, o, ec2, hg, hr⟩ := get_find g3.rel.sub w1.view hp e5
                  have : c2 = c := by rw [ec] at ec2; cases ec2; rfl
                  subst this
                  refine ⟨o, hg, ?_⟩
                  rcases hr with ⟨q2, v, rfl, hv, rfl⟩ | ⟨rfl, ⟨h9, _⟩ | ⟨d2, h9, rfl⟩⟩
                  · exact q Z3 H3 F3 v [] ((g1.trans g2).trans g3) ⟨.v hv, no0, no0⟩
                  · cases h9
                  · cases h9
                    exact q Z3 H3 F3 v3 G3 ((g1.trans g2).trans g3) (res_go (g1.trans g2) r3)
            · cases e
          · cases e
    · cases e
  · cases e
end
end Mn
end
section
set_option maxHeartbeats 200000
namespace Mn
open PySem L2 PySem.Spec
variable [WW]

/-- a walk over ps while G holds of Z and the heap -/
structure Wk (K : PySem.W.Frag) (J : L2.It) (ps : List P) (G : Hp → Hp → Prop) : Prop where
  goes : ∀ i Z H, i < ps.length → G Z H → J.go i H
  stops : ∀ Z H, G Z H → J.stop ps.length H
  yields : ∀ i Z H x H', i < ps.length → G Z H → Sub Z H → J.yld i H x H' → ∃ Z' p, Alloc Z H Z' H' [] ∧ ps[i]? = some p ∧ Rep K Z' x p
section
variable {K : PySem.W.Frag} {a b d : Addr} {o : Obj}
theorem wk_list (ps : List P) : Wk K (Itl K a) ps (fun Z H => ∃ vs, SqL K H a vs ∧ RepL K Z vs ps) where
  goes := fun i Z H hi ⟨vs, q, r⟩ => ⟨vs, vs[i]'(by rw [r.length]; exact hi), q, List.getElem?_eq_getElem _⟩
  stops := fun Z H ⟨vs, q, r⟩ => ⟨vs, q, by rw [r.length]; exact Nat.le_refl _⟩
  yields := fun i Z H x H' hi ⟨vs, q, r⟩ s y => by
    obtain ⟨rfl, y⟩ := y
    obtain ⟨p, h1, h2⟩ := r.getV (y vs q)
    exact ⟨Z, p, .refl s, h1, h2⟩
theorem wk_tup (ps : List P) : Wk K (Itt K a) ps (fun Z H => ∃ vs, SqT K H a vs ∧ RepL K Z vs ps) where
  goes := fun i Z H hi ⟨vs, q, r⟩ => ⟨vs, vs[i]'(by rw [r.length]; exact hi), q, List.getElem?_eq_getElem _⟩
  stops := fun Z H ⟨vs, q, r⟩ => ⟨vs, q, by rw [r.length]; exact Nat.le_refl _⟩
  yields := fun i Z H x H' hi ⟨vs, q, r⟩ s y => by
    obtain ⟨rfl, y⟩ := y
    obtain ⟨p, h1, h2⟩ := r.getV (y vs q)
    exact ⟨Z, p, .refl s, h1, h2⟩
theorem wk_str {z : Str} (hz : PyData.strOk z = true) : Wk K (Its z) (z.cps.toList.map sgn) (fun _ _ => True) where
  goes := fun i Z H hi _ => by
    show i < z.cps.size
    simpa using hi
  stops := fun Z H _ => by
    show z.cps.size ≤ _
    simp
  yields := fun i Z H x H' hi _ s y => by
    obtain ⟨rfl, c, hc, rfl⟩ := y
    have h1 : z.cps.toList[i]? = some c := by rw [Array.getElem?_toList]; exact hc
    refine ⟨Z, sgn c, .refl s, by rw [List.getElem?_map, h1]; rfl, .str _ ?_ ?_⟩
    · rw [strOk_iff] at hz ⊢
      intro w hw
      have : w = c := by simpa using hw
      subst this
      exact hz _ (List.mem_of_getElem? h1)
    · show 1 ≤ sizeLine
      exact lim_le (by decide)
theorem rep_key {Z : Hp} : ∀ {k : Key}, KeyOk k → Rep K Z (kV k) (ofKey k)
  | .inl i, _ => .int i
  | .inr x, h => .str x h.1 h.2
theorem rep_keysL {Z : Hp} : ∀ {k : List Key}, (∀ x ∈ k, KeyOk x) → RepL K Z (k.map kV) (k.map ofKey)
  | [], _ => .nil
  | x :: r, h => .cons (rep_key (h x (by simp))) (rep_keysL fun y hy => h y (by simp [hy]))
theorem wk_keys {kvs : List (Key × V)} (hk : ∀ kv ∈ kvs, KeyOk kv.1) : Wk K (Itk d o kvs) (kvs.map fun kv => ofKey kv.1) (fun _ H => H d = some (.frz o (.dK kvs))) where
  goes := fun i Z H hi q => ⟨q, by simpa using hi⟩
  stops := fun Z H q => ⟨q, by simp⟩
  yields := fun i Z H x H' hi q s y => by
    obtain ⟨rfl, k, v, h1, rfl⟩ := y
    exact ⟨Z, ofKey k, .refl s, by rw [List.getElem?_map, h1]; rfl, rep_key (hk _ (List.mem_of_getElem? h1))⟩
theorem wk_keysT {kvs : List (List Key × V)} (hk : ∀ kv ∈ kvs, ∀ k ∈ kv.1, KeyOk k) : Wk K (Itkt d o kvs) (kvs.map fun kv => ofKeys kv.1) (fun _ H => H d = some (.frz o (.dT kvs))) where
  goes := fun i Z H hi q => ⟨q, by simpa using hi⟩
  stops := fun Z H q => ⟨q, by simp⟩
  yields := fun i Z H x H' hi q s y => by
    obtain ⟨rfl, k, v, t, h1, rfl, ht⟩ := y
    have e : (kvs.map fun kv => ofKeys kv.1)[i]? = some (ofKeys k) := by rw [List.getElem?_map, h1]; rfl
    have hr := hk _ (List.mem_of_getElem? h1)
    cases hz : Z t with
    | some u =>
      have hu := s _ _ hz
      rw [ht] at hu
      cases hu
      exact ⟨Z, ofKeys k, .refl s, e, .tup (.inl (.inl hz)) (rep_keysL hr)⟩
    | none =>
      refine ⟨L2.upd Z t (.tup (k.map kV)), ofKeys k, ⟨Sub.rfl' _, sub_upd hz, fun a u ha => ?_, fun a u ha => ?_, fun _ h => nomatch h⟩, e, .tup (.inl (.inl upd_same)) (rep_keysL hr)⟩
      · by_cases q2 : a = t
        · subst q2; rw [upd_same] at ha; cases ha; exact ht
        · rw [upd_ne q2] at ha; exact s _ _ ha
      · by_cases q2 : a = t
        · subst q2; rw [upd_same] at ha; cases ha; exact .inr (.inr ⟨_, rfl⟩)
        · rw [upd_ne q2] at ha; exact .inl ha
theorem wk_vals {kvs : List (Key × V)} (ps : List P) : Wk K (Itd d o kvs) ps (fun Z H => H d = some (.frz o (.dK kvs)) ∧ RepL K Z (kvs.map (·.2)) ps) where
  goes := fun i Z H hi q => ⟨q.1, by have := q.2.length; simp at this; omega⟩
  stops := fun Z H q => ⟨q.1, by have := q.2.length; simp at this; omega⟩
  yields := fun i Z H x H' hi q s y => by
    obtain ⟨rfl, k, h1⟩ := y
    obtain ⟨p, h2, h3⟩ := q.2.getV (i := i) (v := x) (by rw [List.getElem?_map, h1]; rfl)
    exact ⟨Z, p, .refl s, h2, h3⟩
theorem pair_yield {Z H : Hp} {T : Addr} {x y : V} {p q : P} (s : Sub Z H) (hT : H T = none) (h1 : Rep K Z x p) (h2 : Rep K Z y q) :
    Alloc Z H (L2.upd Z T (.tup [x, y])) (L2.upd H T (.tup [x, y])) [] ∧ Rep K (L2.upd Z T (.tup [x, y])) (.ref T) (.tuple [p, q]) := by
  have zz := sub_upd (o := .tup [x, y]) (z_none s hT)
  exact ⟨.imm s hT, .tup (.inl (.inl upd_same)) (.cons (h1.sub zz) (.cons (h2.sub zz) .nil))⟩
omit [WW] in
theorem enumP_len (ps : List P) : (enumP ps).length = ps.length := by unfold enumP; simp
omit [WW] in
theorem enumP_get {ps : List P} {i : Nat} {p : P} (h : ps[i]? = some p) : (enumP ps)[i]? = some (.tuple [.int i, p]) := by
  have hi := (List.getElem?_eq_some_iff.mp h).1
  unfold enumP
  rw [List.getElem?_map, List.zip, List.getElem?_zipWith, h, List.getElem?_range hi]
  rfl
theorem wk_enum (ps : List P) : Wk K (Ite K a) (enumP ps) (fun Z H => ∃ vs, SqL K H a vs ∧ RepL K Z vs ps) where
  goes := fun i Z H hi ⟨vs, q, r⟩ => ⟨vs, vs[i]'(by rw [r.length]; rw [enumP_len] at hi; exact hi), q, List.getElem?_eq_getElem _⟩
  stops := fun Z H ⟨vs, q, r⟩ => ⟨vs, q, by rw [r.length, enumP_len]; exact Nat.le_refl _⟩
  yields := fun i Z H x H' hi ⟨vs, q, r⟩ s y => by
    obtain ⟨T, w, rfl, hT, rfl, h4⟩ := y
    obtain ⟨p, h1, h2⟩ := r.getV (h4 vs q)
    obtain ⟨al, rp⟩ := pair_yield s hT (.int (i : Int)) h2
    exact ⟨_, _, al, enumP_get h1, rp⟩
omit [WW] in
theorem zipP_len (ps qs : List P) : (zipP ps qs).length = min ps.length qs.length := by unfold zipP; simp
omit [WW] in
theorem zipP_get {ps qs : List P} {i : Nat} {p q : P} (h : ps[i]? = some p) (h2 : qs[i]? = some q) : (zipP ps qs)[i]? = some (.tuple [p, q]) := by
  unfold zipP
  rw [List.getElem?_map, List.zip, List.getElem?_zipWith, h, h2]
  rfl
theorem wk_zip (ps qs : List P) : Wk K (Itz K a b) (zipP ps qs) (fun Z H => ∃ vs ws, SqL K H a vs ∧ SqL K H b ws ∧ RepL K Z vs ps ∧ RepL K Z ws qs) where
  goes := fun i Z H hi ⟨vs, ws, q1, q2, r1, r2⟩ => by
    rw [zipP_len] at hi
    have h1 : i < vs.length := by rw [r1.length]; omega
    have h2 : i < ws.length := by rw [r2.length]; omega
    exact ⟨vs, ws, vs[i], ws[i], q1, q2, List.getElem?_eq_getElem _, List.getElem?_eq_getElem _⟩
  stops := fun Z H ⟨vs, ws, q1, q2, r1, r2⟩ => ⟨vs, ws, q1, q2, by rw [zipP_len, r1.length, r2.length]; omega⟩
  yields := fun i Z H x H' hi ⟨vs, ws, q1, q2, r1, r2⟩ s y => by
    obtain ⟨T, w, w2, rfl, hT, rfl, h4, h5⟩ := y
    obtain ⟨p, h1, h2⟩ := r1.getV (h4 vs q1)
    obtain ⟨p2, h3, h6⟩ := r2.getV (h5 ws q2)
    obtain ⟨al, rp⟩ := pair_yield s hT h2 h6
    exact ⟨_, _, al, zipP_get h1 h3, rp⟩
theorem wk_zipT (ps qs : List P) : Wk K (RZ.ItzT K a b) (zipP ps qs) (fun Z H => ∃ vs ws, SqT K H a vs ∧ SqT K H b ws ∧ RepL K Z vs ps ∧ RepL K Z ws qs) where
  goes := fun i Z H hi ⟨vs, ws, q1, q2, r1, r2⟩ => by
    rw [zipP_len] at hi
    have h1 : i < vs.length := by rw [r1.length]; omega
    have h2 : i < ws.length := by rw [r2.length]; omega
    exact ⟨vs, ws, vs[i], ws[i], q1, q2, List.getElem?_eq_getElem _, List.getElem?_eq_getElem _⟩
  stops := fun Z H ⟨vs, ws, q1, q2, r1, r2⟩ => ⟨vs, ws, q1, q2, by rw [zipP_len, r1.length, r2.length]; omega⟩
  yields := fun i Z H x H' hi ⟨vs, ws, q1, q2, r1, r2⟩ s y => by
    obtain ⟨T, w, w2, rfl, hT, rfl, h4, h5⟩ := y
    obtain ⟨p, h1, h2⟩ := r1.getV (h4 vs q1)
    obtain ⟨p2, h3, h6⟩ := r2.getV (h5 ws q2)
    obtain ⟨al, rp⟩ := pair_yield s hT h2 h6
    exact ⟨_, _, al, zipP_get h1 h3, rp⟩
theorem wk_rng (lo : Int) (n : Nat) : Wk K (Itr lo n) ((List.range n).map fun (i : Nat) => .int (lo + (i : Int))) (fun _ _ => True) where
  goes := fun i Z H hi _ => by
    show i < n
    simpa using hi
  stops := fun Z H _ => by
    show n ≤ _
    simp
  yields := fun i Z H x H' hi _ s y => by
    obtain ⟨rfl, rfl⟩ := y
    have hi : i < n := by simpa using hi
    exact ⟨Z, .int (lo + i), .refl s, by rw [List.getElem?_map, List.getElem?_range hi]; rfl, .int _⟩
theorem wk_rngC (lo c : Int) (n : Nat) : Wk K (Itc lo c n) ((List.range n).map fun (i : Nat) => .int (lo + (i : Nat) * c)) (fun _ _ => True) where
  goes := fun i Z H hi _ => by
    show i < n
    simpa using hi
  stops := fun Z H _ => by
    show n ≤ _
    simp
  yields := fun i Z H x H' hi _ s y => by
    obtain ⟨rfl, rfl⟩ := y
    have hi : i < n := by simpa using hi
    exact ⟨Z, .int (lo + (i : Nat) * c), .refl s, by rw [List.getElem?_map, List.getElem?_range hi]; rfl, .int _⟩
end

structure Gs (K : PySem.W.Frag) (X : Cxt) (σ : St) (Z H : Hp) (ρ : Env) (F : Nat → List Addr) (σ' : St) (Z' H' : Hp) (ρ' : Env) (F' : Nat → List Addr) : Prop where
  rel : Rel K Z' H' σ' ρ' F'
  st : Step Z H Z' H' (U F) (U F')
  lk : Lk X ρ ρ'
  sg : ∀ (i : Nat) (m : M), slot ρ i = some (.k m) → σ'[i]? = σ[i]?
  pg : ∀ i, pmAt X i = true → σ'[i]? = σ[i]?
section
variable {K : PySem.W.Frag} {X : Cxt} {σ σ1 σ2 : St} {Z H Z1 H1 Z2 H2 : Hp} {ρ ρ1 ρ2 : Env} {F F1 F2 : Nat → List Addr}
theorem Gs.refl (R : Rel K Z H σ ρ F) : Gs K X σ Z H ρ F σ Z H ρ F := ⟨R, Step.refl _, Lk.refl _, fun _ _ _ => rfl, fun _ _ => rfl⟩
theorem Gs.trans (x : Gs K X σ Z H ρ F σ1 Z1 H1 ρ1 F1) (y : Gs K X σ1 Z1 H1 ρ1 F1 σ2 Z2 H2 ρ2 F2) : Gs K X σ Z H ρ F σ2 Z2 H2 ρ2 F2 :=
  ⟨y.rel, x.st.trans y.st, x.lk.trans y.lk, fun i m h => (y.sg i m (x.lk.lk i m h)).trans (x.sg i m h), fun i h => (y.pg i h).trans (x.pg i h)⟩
theorem Go.gs (x : Go K X σ Z H ρ F Z1 H1 ρ1 F1) : Gs K X σ Z H ρ F σ Z1 H1 ρ1 F1 := ⟨x.rel, x.st, x.lk, fun _ _ _ => rfl, fun _ _ => rfl⟩
theorem Gs.res {m : M} {v : V} {G : List Addr} (x : Gs K X σ Z H ρ F σ1 Z1 H1 ρ1 F1) (r : Res K Z1 H1 (U F1) Z2 H2 F2 m v G) : Res K Z H (U F) Z2 H2 F2 m v G :=
  ⟨r.own, r.ap, fun a ha => by
    rcases r.nw a ha with h | h
    · exact x.st.an a h
    · exact new_back x.st h⟩
/-- G stands from here on -/
def Hold (K : PySem.W.Frag) (X : Cxt) (G : Hp → Hp → Prop) (σ : St) (Z H : Hp) (ρ : Env) (F : Nat → List Addr) : Prop := ∀ σ' Z' H' ρ' F', Gs K X σ Z H ρ F σ' Z' H' ρ' F' → G Z' H'
theorem Hold.next {G : Hp → Hp → Prop} (h : Hold K X G σ Z H ρ F) (x : Gs K X σ Z H ρ F σ1 Z1 H1 ρ1 F1) : Hold K X G σ1 Z1 H1 ρ1 F1 := fun _ _ _ _ _ y => h _ _ _ _ _ (x.trans y)
theorem Hold.zz {G : Hp → Hp → Prop} (h : ∀ Z' H', Sub Z Z' → Sub Z' H' → G Z' H') : Hold K X G σ Z H ρ F := fun _ _ _ _ _ x => h _ _ x.st.zz x.rel.sub

/-- a variable is stored -/
theorem sto_ok {i : Nat} {m : M} {v : V} {G : List Addr} (R : Rel K Z H σ ρ F) (o : Own K Z H m v G) (ap : ∀ a ∈ G, ¬ U F a) (e : sto X i m ρ = some ρ1) (hl : σ.length = ρ.length) :
    Rel K Z H (σ.set i (some v)) ρ1 (fset F i G) ∧ Lk X ρ ρ1 ∧ (∀ (j : Nat) (m : M), slot ρ j = some (.k m) → (σ.set i (some v))[j]? = σ[j]?) ∧ ρ1 = ρ.set i (some m) ∧ i < ρ.length ∧ (∀ j, pmAt X j = true → (σ.set i (some v))[j]? = σ[j]?) := by
  unfold sto at e
  split at e
  · cases e
  · rename_i c
    cases e
    have c1 : ¬ isLk (slot ρ i) = true := fun h => c (.inl h)
    have c2 : ¬ pmAt X i = true := fun h => c (.inr (.inl h))
    have c3 : i < ρ.length := Nat.lt_of_not_le fun h => c (.inr (.inr h))
    have R1 := (R.del i).slotSet (slot_self none c3) v
    have e2 : ρ.set i (some m) = (ρ.set i none).set i (some m) := by rw [List.set_set]
    have ef : fset F i G = fset (fset F i []) i G := by
      funext j
      by_cases hj : j = i
      · subst hj; rw [fset_self, fset_self]
      · rw [fset_ne F G hj, fset_ne _ G hj, fset_ne F [] hj]
    refine ⟨?_, ⟨fun j n hj => ?_, fun j hp hn => ?_, List.length_set⟩, fun j n hj => ?_, rfl, c3, fun j hp => List.getElem?_set_ne fun q => by subst q; exact c2 hp⟩
    · rw [e2, ef]
      exact R1.put (slot_self none c3) (by rw [List.length_set]; exact c3) (by rw [List.getElem?_set_self (by rw [hl]; exact c3)]) o fun a ha hu => ap a ha (U_del hu)
    · have : i ≠ j := fun q => by subst q; rw [hj] at c1; exact c1 rfl
      rw [slot_other _ this]; exact hj
    · have : i ≠ j := fun q => by subst q; exact c2 hp
      rw [slot_other _ this]; exact hn
    · have : i ≠ j := fun q => by subst q; rw [hj] at c1; exact c1 rfl
      rw [List.getElem?_set_ne this]
theorem U_fset_sub {i : Nat} {G : List Addr} {a : Addr} (h : U (fset F i G) a) : a ∈ G ∨ U F a := by
  rcases U_fset h with h | ⟨j, _, h⟩
  · exact .inl h
  · exact .inr ⟨j, h⟩
/-- .. behind a walk that gave m -/
theorem sto_gs {i : Nat} {m : M} {v : V} {G : List Addr} (g : Gs K X σ Z H ρ F σ1 Z1 H1 ρ1 F1) (r : Res K Z H (U F) Z1 H1 F1 m v G) (e : sto X i m ρ1 = some ρ2) : Gs K X σ Z H ρ F (σ1.set i (some v)) Z1 H1 ρ2 (fset F1 i G) := by
  obtain ⟨h1, h2, h3, h4, h5, h6⟩ := sto_ok (X := X) g.rel r.own r.ap e g.rel.len
  refine ⟨h1, ⟨g.st.fr, g.st.zz, g.st.zn, fun a ha => ?_, g.st.fz⟩, g.lk.trans h2, fun j n hj => (h3 j n (g.lk.lk j n hj)).trans (g.sg j n hj), fun j hp => (h6 j hp).trans (g.pg j hp)⟩
  rcases U_fset_sub ha with h | h
  · exact r.nw a h
  · exact g.st.an a h
end

mutual
def tgVs : Tg → List Nat
  | .nm i => [i]
  | .tp ts => tgVss ts
def tgVss : List Tg → List Nat
  | [] => []
  | t :: ts => tgVs t ++ tgVss ts
end
def TGt (K : PySem.W.Frag) (X : Cxt) (tg : Tg) : TG := fun v σ H Q => ∃ Z ρ F p ρ', Rel K Z H σ ρ F ∧ Rep K Z v p ∧ bindT X tg p ρ = some ρ' ∧ ∀ σ' F', Gs K X σ Z H ρ F σ' Z H ρ' F' → (∀ j, j ∉ tgVs tg → σ'[j]? = σ[j]?) → Q σ' H
def TGts (K : PySem.W.Frag) (X : Cxt) (ts : List Tg) : TGs := fun vs σ H Q => ∃ Z ρ F ps ρ', Rel K Z H σ ρ F ∧ RepL K Z vs ps ∧ bindTs X ts ps ρ = some ρ' ∧ ∀ σ' F', Gs K X σ Z H ρ F σ' Z H ρ' F' → (∀ j, j ∉ tgVss ts → σ'[j]? = σ[j]?) → Q σ' H
def locB (N : List Str) (sc : Scope) (i : Nat) (x : Str) : Bool := decide (N[i]? = some x) && decide (sc.names.lookup x = some .local)
theorem PG.mono {X : Cx} {e : Expr} {t t' : TG} (h : PG X e t) (i : ∀ v σ H Q, t' v σ H Q → t v σ H Q) : PG X e t' := ⟨fun pins s σ H v u Q J r q => h.run pins s σ H v u Q J r (i v σ H Q q)⟩
theorem PGs.mono {X : Cx} {e : List Expr} {t t' : TGs} (h : PGs X e t) (i : ∀ v σ H Q, t' v σ H Q → t v σ H Q) : PGs X e t' := ⟨fun pins s σ H v u Q J r q => h.run pins s σ H v u Q J r (i v σ H Q q)⟩
section
variable {T : Tab} {k : Nat} {cx : Cxt} {X : Cx} {x y z : Expr} {pos p2 p3 apos : Pos}
/-- a name that may be stored -/
structure LocG (X : Cx) (i : Nat) (n : Str) : Prop where
  ix : X.N[i]? = some n
  lc : Loc X.env.scope n
  fn : X.fn n = true ∨ X.env.scope.names.lookup n = some .local
theorem LocG.of {i : Nat} {n : Str} (h : locB X.N X.env.scope i n = true) : LocG X i n := by
  unfold locB at h
  rw [Bool.and_eq_true, decide_eq_true_eq, decide_eq_true_eq] at h
  exact ⟨h.1, .inl h.2, .inr h.2⟩
def locC (N : List Str) (sc : Scope) (i : Nat) (x : Str) : Bool := decide (N[i]? = some x) && (decide (sc.names.lookup x = some .local) || decide (sc.names.lookup x = some .cell))
theorem LocG.ofC {i : Nat} {n : Str} (hf : ∀ x, X.env.scope.names.lookup x = some .cell → X.fn x = true) (h : locC X.N X.env.scope i n = true) : LocG X i n := by
  unfold locC at h
  rw [Bool.and_eq_true, decide_eq_true_eq, Bool.or_eq_true, decide_eq_true_eq, decide_eq_true_eq] at h
  rcases h.2 with k | k
  · exact ⟨h.1, .inl k, .inr k⟩
  · exact ⟨h.1, .inr k, .inl (hf n k)⟩
theorem pg_nm {i : Nat} {n : Str} (hN : X.N.Nodup) (h : LocG X i n) : PG X (.Name n pos) (TGt X.K cx (.nm i)) := by
  refine PG.mono (pg_name hN h.ix h.lc h.fn) fun v σ H Q ⟨Z, ρ, F, p, ρ', R, rp, e, q⟩ => ?_
  unfold bindT at e
  exact q _ _ (sto_gs (.refl R) ⟨.v rp, no0, no0⟩ e) fun j hj => List.getElem?_set_ne fun z => hj (by rw [z]; simp [tgVs])
theorem pgs_nilM : PGs X [] (TGts X.K cx []) := PGs.mono pgs_nil fun vs σ H Q ⟨Z, ρ, F, ps, ρ', R, rp, e, q⟩ => by
  cases rp with
  | nil =>
    unfold bindTs at e
    cases e
    exact ⟨rfl, q σ F (.refl R) fun _ _ => rfl⟩
  | cons _ _ => unfold bindTs at e; cases e
theorem assignEach_cons {e : Expr} {es : List Expr} {env : PySem.Env} (h : notStar e = true) : assignEach (e :: es) env = (false, assign e env) :: assignEach es env := by
  cases e <;> first | rfl | cases h
theorem pgs_consM {t : Tg} {ts : List Tg} {xs : List Expr} (h : PG X x (TGt X.K cx t)) (hs : PGs X xs (TGts X.K cx ts)) (hn : notStar x = true) : PGs X (x :: xs) (TGts X.K cx (t :: ts)) :=
  PGs.mono (pgs_cons h hs (by rw [assignEach_cons hn]; rfl)) fun vs σ H Q ⟨Z, ρ, F, ps, ρ', R, rp, e, q⟩ => by
    cases rp with
    | nil => unfold bindTs at e; cases e
    | cons r1 r2 =>
      unfold bindTs at e
      split at e
      · rename_i ρ1 e1
        exact ⟨_, _, rfl, Z, ρ, F, _, ρ1, R, r1, e1, fun σ1 F1 g1 k1 => ⟨Z, ρ1, F1, _, ρ', g1.rel, r2, e, fun σ2 F2 g2 k2 => q σ2 F2 (g1.trans g2) fun j hj => by
        rw [tgVss, List.mem_append, not_or] at hj
        exact (k2 j hj.2).trans (k1 j hj.1)⟩⟩
      · cases e
theorem assign_stars {env : PySem.Env} : ∀ {xs : List Expr}, xs.all notStar = true → (assignEach xs env).length = xs.length ∧ (assignEach xs env).findIdx? (·.1) = none
  | [], _ => ⟨by simp [assignEach], by simp [assignEach]⟩
  | x :: xs, h => by
    rw [List.all_cons, Bool.and_eq_true] at h
    obtain ⟨h1, h2⟩ := assign_stars (env := env) h.2
    rw [assignEach_cons h.1]
    refine ⟨by rw [List.length_cons, List.length_cons, h1], ?_⟩
    rw [List.findIdx?_cons, h2]
    rfl
theorem bindTs_len : ∀ {ts : List Tg} {ps : List P} {ρ ρ' : Env}, bindTs cx ts ps ρ = some ρ' → ps.length = ts.length
  | [], [], _, _, _ => rfl
  | [], _ :: _, _, _, e => by unfold bindTs at e; cases e
  | _ :: _, [], _, _, e => by unfold bindTs at e; cases e
  | t :: ts, p :: ps, ρ, ρ', e => by
    unfold bindTs at e
    split at e
    · rw [List.length_cons, List.length_cons, bindTs_len e]
    · cases e
theorem pg_tp {ts : List Tg} {xs : List Expr} {j : Nat} (hc : X.calm = true) (h : PGs X xs (TGts X.K cx ts)) (hs : xs.all notStar = true) (hl : ts.length = xs.length) : PG X (.Tuple xs j pos) (TGt X.K cx (.tp ts)) := ⟨fun pins s σ H v u Q J r ⟨Z, ρ, F, p, ρ', R, rp, e, q⟩ => by
  obtain ⟨h1, h2⟩ := assign_stars (env := X.env) hs
  cases p with
  | tuple ps =>
    have e : bindTs cx ts ps ρ = some ρ' := by unfold bindT at e; exact e
    cases rp with
    | tup hq rl =>
      refine (pg_tup hc h h1 h2).run pins s σ H _ u Q J r ⟨_, _, rfl, sqT_sub R.sub hq, ?_, Z, ρ, F, ps, ρ', R, rl, e, fun σ2 F2 g2 k2 => q σ2 F2 g2 (by rw [tgVs]; exact k2)⟩
      rw [rl.length, bindTs_len e, hl]
  | list ps =>
    have e : bindTs cx ts ps ρ = some ρ' := by unfold bindT at e; exact e
    cases rp with
    | lst hq rl =>
      refine (pg_unl hc h h1 h2).run pins s σ H _ u Q J r ⟨_, _, rfl, .of (R.sub _ _ hq), ?_, Z, ρ, F, ps, ρ', R, rl, e, fun σ2 F2 g2 k2 => q σ2 F2 g2 (by rw [tgVs]; exact k2)⟩
      rw [rl.length, bindTs_len e, hl]
  | _ => unfold bindT at e; cases e⟩
end
end Mn
end
section
set_option maxHeartbeats 200000
namespace Mn
open PySem L2 PySem.Spec
variable [WW]
def TIt (K : PySem.W.Frag) (X : Cxt) (g : Env → Option (List P × Env)) : TI := fun σ H R => ∃ Z ρ F ps ρ', Rel K Z H σ ρ F ∧ g ρ = some (ps, ρ') ∧
  ∀ Z' H' F' J G, Go K X σ Z H ρ F Z' H' ρ' F' → Wk K J ps G → Hold K X G σ Z' H' ρ' F' → R J H'
theorem PI.mono {X : Cx} {tg e : Expr} {t t' : TI} (h : PI X tg e t) (i : ∀ σ H R, t' σ H R → t σ H R) : PI X tg e t' := ⟨fun pins s σ H R J q => h.run pins s σ H R J (i σ H R q)⟩
def iAny (K : PySem.W.Frag) (te : TE) : TI := fun σ H R => iList K te σ H R ∨ iTup K te σ H R ∨ iStr te σ H R ∨ iKeys te σ H R
section
variable {K : PySem.W.Frag} {X : Cxt} {σ : St} {Z H : Hp} {ρ ρ' : Env} {F : Nat → List Addr}
theorem repK_ok : ∀ {kvs : List (Key × V)} {ps : List (P × P)}, RepK K Z kvs ps → (ps.map (·.1) = kvs.map fun kv => ofKey kv.1) ∧ ∀ kv ∈ kvs, KeyOk kv.1
  | _, _, .nil => ⟨rfl, fun _ h => by cases h⟩
  | _, _, .cons hk _ r => by
    obtain ⟨h1, h2⟩ := repK_ok r
    refine ⟨by rw [List.map_cons, List.map_cons, h1], fun kv hm => ?_⟩
    rcases List.mem_cons.mp hm with h | h
    · subst h; exact hk
    · exact h2 kv h
theorem repT_ok : ∀ {kvs : List (List Key × V)} {ps : List (P × P)}, RepT K Z kvs ps → (ps.map (·.1) = kvs.map fun kv => ofKeys kv.1) ∧ ∀ kv ∈ kvs, ∀ k ∈ kv.1, KeyOk k
  | _, _, .nil => ⟨rfl, fun _ h => by cases h⟩
  | _, _, .cons hk _ r => by
    obtain ⟨h1, h2⟩ := repT_ok r
    refine ⟨by rw [List.map_cons, List.map_cons, h1], fun kv hm => ?_⟩
    rcases List.mem_cons.mp hm with h | h
    · subst h; exact hk
    · exact h2 kv h
theorem itemsP_dict {ps : List (P × P)} (h : ∀ q r, ps ≠ (PyData.none, q) :: r) : itemsP (.dict ps) = some (ps.map (·.1)) := by
  unfold itemsP
  split
  · cases ‹PyData.dict ps = _›
  · cases ‹PyData.dict ps = _›
  · rename_i q r e
    cases e
    exact (h _ _ rfl).elim
  · rename_i e
    cases e
    rfl
  · cases ‹PyData.dict ps = _›
  · rename_i h1 _
    exact (h1 _ rfl).elim
/-- an immutable value, walked -/
theorem it_any {te : TE} {p : P} {ps : List P} {R : L2.It → Hp → Prop} (hi : itemsP p = some ps)
    (ht : ∀ Qv : VK, (∀ Z' H' F' v, Go K X σ Z H ρ F Z' H' ρ' F' → Rep K Z' v p → Qv v H') → te σ H Qv)
    (q : ∀ Z' H' F' J G, Go K X σ Z H ρ F Z' H' ρ' F' → Wk K J ps G → Hold K X G σ Z' H' ρ' F' → R J H') : iAny K te σ H R := by
  cases p with
  | tuple qs =>
    cases hi
    refine .inr (.inl (ht _ fun Z' H' F' v g rp => ?_))
    cases rp with
    | tup hq rl => exact ⟨_, rfl, ⟨_, sqT_sub g.rel.sub hq⟩, q Z' H' F' _ _ g (wk_tup _) (Hold.zz fun Z2 H2 z s => ⟨_, sqT_sub s (sqT_sub z hq), rl.sub z⟩)⟩
  | list qs =>
    cases hi
    refine .inl (ht _ fun Z' H' F' v g rp => ?_)
    cases rp with
    | lst hq rl => exact ⟨_, rfl, ⟨_, .of (g.rel.sub _ _ hq)⟩, q Z' H' F' _ _ g (wk_list _) (Hold.zz fun Z2 H2 z s => ⟨_, .of (s _ _ (z _ _ hq)), rl.sub z⟩)⟩
  | str z =>
    cases hi
    refine .inr (.inr (.inl (ht _ fun Z' H' F' v g rp => ?_)))
    cases rp with
    | str _ h1 h2 => exact ⟨_, rfl, q Z' H' F' _ _ g (wk_str h1) (fun _ _ _ _ _ _ => trivial)⟩
  | dict qs =>
    refine .inr (.inr (.inr (ht _ fun Z' H' F' v g rp => ?_)))
    cases rp with
    | dk hq rk =>
      rw [itemsP_dict (repK_head rk)] at hi
      cases hi
      obtain ⟨h1, h2⟩ := repK_ok rk
      exact ⟨_, _, rfl, .inl ⟨_, g.rel.sub _ _ hq, q Z' H' F' _ _ g (by rw [h1]; exact wk_keys h2) (Hold.zz fun Z2 H2 z s => s _ _ (z _ _ hq))⟩⟩
    | dt hq rk =>
      cases hi
      obtain ⟨h1, h2⟩ := repT_ok rk
      exact ⟨_, _, rfl, .inr ⟨_, g.rel.sub _ _ hq, q Z' H' F' _ _ g (by rw [h1]; exact wk_keysT h2) (Hold.zz fun Z2 H2 z s => s _ _ (z _ _ hq))⟩⟩
  | none => cases hi
  | bool _ => cases hi
  | int _ => cases hi
theorem dRel_vals : ∀ {vs : List (Key × V)} {ps : List (Key × P)}, DRel K Z vs ps → RepL K Z (vs.map (·.2)) (ps.map (·.2))
  | _, _, .nil => .nil
  | _, _, .cons h t => .cons h.2.2 (dRel_vals t)
theorem dRel_keys : ∀ {vs : List (Key × V)} {ps : List (Key × P)}, DRel K Z vs ps → (ps.map fun kv => ofKey kv.1) = (vs.map fun kv => ofKey kv.1) ∧ ∀ kv ∈ vs, KeyOk kv.1
  | _, _, .nil => ⟨rfl, fun _ h => by cases h⟩
  | _, _, .cons h t => by
    obtain ⟨h1, h2⟩ := dRel_keys t
    refine ⟨by rw [List.map_cons, List.map_cons, h1, h.1], fun kv hm => ?_⟩
    rcases List.mem_cons.mp hm with q | q
    · subst q; rw [h.1]; exact h.2.1
    · exact h2 kv q
theorem tRel_keys : ∀ {vs : List (List Key × V)} {ps : List (List Key × P)}, TRel K Z vs ps → (ps.map fun kv => ofKeys kv.1) = (vs.map fun kv => ofKeys kv.1) ∧ ∀ kv ∈ vs, ∀ k ∈ kv.1, KeyOk k
  | _, _, .nil => ⟨rfl, fun _ h => by cases h⟩
  | _, _, .cons h t => by
    obtain ⟨h1, h2⟩ := tRel_keys t
    refine ⟨by rw [List.map_cons, List.map_cons, h1, h.1], fun kv hm => ?_⟩
    rcases List.mem_cons.mp hm with q | q
    · subst q; rw [h.1]; exact h.2.1
    · exact h2 kv q
end
section
variable {T : Tab} {k : Nat} {cx : Cxt} {X : Cx} {x y z tg : Expr} {pos p2 p3 apos tpos : Pos}
theorem pi_any {te : TE} (h : PE X x te) : PI X tg x (iAny X.K te) := ⟨fun pins s σ H R J q => by
  rcases q with q | q | q | q
  · exact (pi_list h).run pins s σ H R J q
  · exact (pi_tup h).run pins s σ H R J q
  · exact (pi_str h).run pins s σ H R J q
  · exact (pi_keys h).run pins s σ H R J q⟩
theorem pi_of {e : E} (h : PE X x (TEx X.K cx (ev cx e))) : PI X tg x (TIt X.K cx (evit cx (.of e))) := PI.mono (pi_any (px_of h)) fun σ H R ⟨Z, ρ, F, ps, ρ', R0, e1, q⟩ => by
  simp only [evit] at e1
  split at e1
  · rename_i m ρ1 em
    split at e1
    · rename_i ps2 ei
      cases e1
      unfold itemsM at ei
      split at ei
      · rename_i p ep
        exact it_any ei (fun Qv hq => ⟨Z, ρ, F, p, _, R0, by unfold toPg; rw [em]; simp only [ep], hq⟩) q
      · cases ei
    · cases e1
  · cases e1
theorem pi_lk {i : Nat} (h : PE X x (tVar i)) : PI X tg x (TIt X.K cx (evit cx (.lk i))) := PI.mono (pi_any h) fun σ H R ⟨Z, ρ, F, ps, ρ', R0, e1, q⟩ => by
  simp only [evit] at e1
  split at e1
  · rename_i p em
    split at e1
    · rename_i ps2 ei
      cases e1
      obtain ⟨v, hv, ow⟩ := R0.own i _ em
      generalize F i = G at ow
      cases ow with
      | v rp => exact it_any ei (fun Qv hq => ⟨v, hv, hq Z H F v (.refl R0) rp⟩) q
    · cases e1
  · rename_i m em
    split at e1
    · rename_i ps2 ei
      cases e1
      obtain ⟨v, hv, ow⟩ := R0.own i _ em
      generalize F i = G at ow
      cases ow with
      | kl h1 hz rl =>
        cases ei
        refine .inl ⟨_, hv, _, rfl, ⟨_, .of h1⟩, q Z H F _ _ (.refl R0) (wk_list _) fun σ2 Z2 H2 ρ2 F2 g => ?_⟩
        obtain ⟨w, hw, ow2⟩ := g.rel.own i _ (g.lk.lk i _ em)
        rw [g.sg i _ em, hv] at hw
        cases hw
        generalize F2 i = G2 at ow2
        cases ow2 with
        | kl h3 _ r3 => exact ⟨_, .of h3, r3⟩
      | kd h1 hz rl =>
        cases ei
        obtain ⟨k1, k2⟩ := dRel_keys rl
        exact .inr (.inr (.inr ⟨_, hv, _, _, rfl, .inl ⟨_, h1, q Z H F _ _ (.refl R0) (by rw [k1]; exact wk_keys k2) fun σ2 Z2 H2 ρ2 F2 g => g.st.fz _ _ _ h1⟩⟩))
      | kt h1 hz rl =>
        cases ei
        obtain ⟨k1, k2⟩ := tRel_keys rl
        exact .inr (.inr (.inr ⟨_, hv, _, _, rfl, .inr ⟨_, h1, q Z H F _ _ (.refl R0) (by rw [k1]; exact wk_keysT k2) fun σ2 Z2 H2 ρ2 F2 g => g.st.fz _ _ _ h1⟩⟩))
    · cases e1
  · cases e1
theorem pi_vals {i : Nat} (h : PE X x (tVar i)) (h0 : notCall0 x = true) (hl : (apos.endLine == pos.line) = true) : PI X tg (.Call (.Attribute x "values" apos) [] [] pos) (TIt X.K cx (evit cx (.vals i))) := PI.mono (pi_values h (base_of h0) hl) fun σ H R ⟨Z, ρ, F, ps, ρ', R0, e1, q⟩ => by
  simp only [evit] at e1
  split at e1
  · rename_i m em
    split at e1
    · rename_i ps2 ei
      cases e1
      obtain ⟨v, hv, ow⟩ := R0.own i _ em
      generalize F i = G at ow
      cases ow with
      | kl h1 hz rl => cases ei
      | kd h1 hz rl =>
        cases ei
        exact ⟨_, hv, _, _, _, rfl, h1, q Z H F _ _ (.refl R0) (wk_vals _) fun σ2 Z2 H2 ρ2 F2 g => ⟨g.st.fz _ _ _ h1, (dRel_vals rl).sub g.st.zz⟩⟩
      | kt h1 hz rl => cases ei
    · cases e1
  · cases e1
theorem rg_own {es : EL} {σ : St} {H : Hp} {Z : Hp} {ρ ρ' : Env} {F : Nat → List Addr} {rs : List R} {ms : List M} {Q : List V → Hp → Prop} (R0 : Rel X.K Z H σ ρ F) (e : evl cx es ρ = some (rs, ρ')) (e2 : rds ρ' rs = some ms)
    (q : ∀ Z' H' F' vs, Go X.K cx σ Z H ρ F Z' H' ρ' F' → OwnL X.K Z' H' ms vs → Q vs H') : TAr X.K cx (evl cx es) σ H Q := ⟨Z, ρ, F, rs, ρ', R0, e, fun Z' H' F' vs Gs g o => q Z' H' F' vs g (o.own g.rel e2)⟩
theorem own_int {K : PySem.W.Frag} {Z H : Hp} {i : Int} {v : V} {G : List Addr} (o : Own K Z H (.v (.int i)) v G) : v = .int i := (Own.view o).int
theorem rg_start {es : EL} {n : Nat} (hl : elLen es = n) {σ : St} {H : Hp} {R : L2.It → Hp → Prop} : TIt X.K cx (evit cx (.rg es)) σ H R → ∃ ms ps, rgItems ms = some ps ∧ ms.length = n ∧
    ∀ Q : List V → Hp → Prop, (∀ H' vs, (∀ J, (∃ Z', Wk X.K J ps (fun _ _ => True) ∧ Sub Z' H') → R J H') → (∃ Z', OwnL X.K Z' H' ms vs ∧ Sub Z' H') → Q vs H') → TAr X.K cx (evl cx es) σ H Q := fun ⟨Z, ρ, F, ps, ρ', R0, e1, q⟩ => by
  simp only [evit] at e1
  split at e1
  · rename_i rs ρ1 e2
    split at e1
    · rename_i ms e3
      split at e1
      · rename_i ps2 e4
        cases e1
        exact ⟨ms, ps, e4, by rw [rds_len e3, evl_len e2, hl], fun Q hQ => rg_own R0 e2 e3 fun Z' H' F' vs g o => hQ H' vs (fun J ⟨_, w, _⟩ => q Z' H' F' J _ g w fun _ _ _ _ _ _ => trivial) ⟨Z', o, g.rel.sub⟩⟩
      · cases e1
    · cases e1
  · cases e1
theorem pi_rg1 {es : EL} (g : Good T k cx X) (hg : glB X.env.scope "range" = true) (ha : PA X [x] (TAr X.K cx (evl cx es))) (hs : notStar x = true) (hl : elLen es = 1) : PI X tg (.Call (.Name "range" p2) [x] [] pos) (TIt X.K cx (evit cx (.rg es))) :=
  PI.mono (pi_range1 (gl_of hg).1 (g.free _ (by decide +kernel)) ha (by rw [star_of hs]; rfl)) fun σ H R h => by
    obtain ⟨ms, ps, e, hn, q⟩ := rg_start hl h
    match ms, hn with
    | [m], _ =>
    unfold rgItems at e
    split at e
    · rename_i j hm
      cases hm
      split at e
      · rename_i c
        cases e
        refine q _ fun H' vs hJ ⟨Z', o, s⟩ => ?_
        cases o with
        | cons o1 o2 =>
          cases o2
          have := own_int o1
          subst this
          exact ⟨j, rfl, c.1, c.2, hJ _ ⟨Z', wk_rng 0 _, s⟩⟩
      · cases e
    · rename_i hm; cases hm
    · rename_i hm; cases hm
    · cases e
theorem pi_rg2 {es : EL} (g : Good T k cx X) (hg : glB X.env.scope "range" = true) (ha : PA X [x, y] (TAr X.K cx (evl cx es))) (hs : notStar x = true) (hs2 : notStar y = true) (hl : elLen es = 2) : PI X tg (.Call (.Name "range" p2) [x, y] [] pos) (TIt X.K cx (evit cx (.rg es))) :=
  PI.mono (pi_range2 (gl_of hg).1 (g.free _ (by decide +kernel)) ha (by rw [star_of hs, star_of hs2]; rfl) (by rw [star_of hs2]; rfl)) fun σ H R h => by
    obtain ⟨ms, ps, e, hn, q⟩ := rg_start hl h
    match ms, hn with
    | [m, m2], _ =>
    unfold rgItems at e
    split at e
    · rename_i hm; cases hm
    · rename_i i j hm
      cases hm
      split at e
      · rename_i c
        cases e
        refine q _ fun H' vs hJ ⟨Z', o, s⟩ => ?_
        cases o with
        | cons o1 o2 =>
          cases o2 with
          | cons o2 o3 =>
            cases o3
            have := own_int o1
            subst this
            have := own_int o2
            subst this
            exact ⟨i, j, rfl, c, hJ _ ⟨Z', wk_rng i _, s⟩⟩
      · cases e
    · rename_i hm; cases hm
    · cases e
theorem pi_rg3 {es : EL} (g : Good T k cx X) (hg : glB X.env.scope "range" = true) (ha : PA X [x, y, z] (TAr X.K cx (evl cx es))) (hs : notStar x = true) (hs2 : [y, z].all notStar = true) (hl : elLen es = 3) : PI X tg (.Call (.Name "range" p2) [x, y, z] [] pos) (TIt X.K cx (evit cx (.rg es))) :=
  PI.mono (pi_range3 (gl_of hg).1 (g.free _ (by decide +kernel)) ha (star_of hs) (stars_of hs2)) fun σ H R h => by
    obtain ⟨ms, ps, e, hn, q⟩ := rg_start hl h
    match ms, hn with
    | [m, m2, m3], _ =>
    unfold rgItems at e
    split at e
    · rename_i hm; cases hm
    · rename_i hm; cases hm
    · rename_i i j w hm
      cases hm
      split at e
      · rename_i c
        cases e
        obtain ⟨rfl, c⟩ := c
        refine q _ fun H' vs hJ ⟨Z', o, s⟩ => ?_
        cases o with
        | cons o1 o2 =>
          cases o2 with
          | cons o2 o3 =>
            cases o3 with
            | cons o3 o4 =>
              cases o4
              have := own_int o1
              subst this
              have := own_int o2
              subst this
              have := own_int o3
              subst this
              exact ⟨i, j, -1, _, rfl, RgC.neg c.1 c.2.1 c.2.2.1 c.2.2.2, hJ _ ⟨Z', wk_rngC i (-1) _, s⟩⟩
      · cases e
    · cases e
theorem pi_en {e : E} {elts : List Expr} {kk : Nat} (g : Good T k cx X) (hg : glB X.env.scope "enumerate" = true) (h : PE X x (TEx X.K cx (ev cx e))) (hs : notStar x = true) : PI X (.Tuple elts kk tpos) (.Call (.Name "enumerate" p2) [x] [] pos) (TIt X.K cx (evit cx (.en e))) :=
  PI.mono (pi_enum (gl_of hg).1 (g.free _ (by decide +kernel)) (ps_cons h ps_nil (star_of hs)) (by rw [star_of hs]; rfl)) fun σ H R ⟨Z, ρ, F, ps, ρ', R0, e1, q⟩ => by
    simp only [evit] at e1
    split at e1
    · rename_i m ρ1 em
      split at e1
      · rename_i ps2 ep
        cases e1
        refine ⟨Z, ρ, F, [.list ps2], ρ', R0, by simp only [evp, em, ep], fun Z1 H1 F1 vs g1 rl => ?_⟩
        cases rl with
        | cons r1 r2 =>
          cases r2
          cases r1 with
          | lst hq rl => exact ⟨_, _, rfl, .of (g1.rel.sub _ _ hq), q Z1 H1 F1 _ _ g1 (wk_enum _) (Hold.zz fun Z2 H2 z s => ⟨_, .of (s _ _ (z _ _ hq)), rl.sub z⟩)⟩
      · cases e1
    · cases e1
theorem pi_zp {a b : E} {elts : List Expr} {kk : Nat} (g : Good T k cx X) (hg : glB X.env.scope "zip" = true) (h : PE X x (TEx X.K cx (ev cx a))) (h2 : PE X y (TEx X.K cx (ev cx b))) (hs : notStar x = true) (hs2 : notStar y = true) : PI X (.Tuple elts kk tpos) (.Call (.Name "zip" p2) [x, y] [] pos) (TIt X.K cx (evit cx (.zp a b))) :=
  PI.mono (RZ.pi_zipA (gl_of hg).1 (g.free _ (by decide +kernel)) (ps_cons h (ps_cons h2 ps_nil (star_of hs2)) (star_of hs)) (star_of hs) (by rw [star_of hs2]; rfl)) fun σ H R ⟨Z, ρ, F, ps, ρ', R0, e1, q⟩ => by
    simp only [evit] at e1
    split at e1
    · rename_i m ρ1 em
      split at e1
      · rename_i m2 ρ2 em2
        split at e1
        · rename_i ps2 ep
          cases e1
          unfold zipM at ep
          split at ep
          · rename_i u w eu ew
            cases ep
            refine ⟨Z, ρ, F, [.tuple u, .tuple w], ρ', R0, by simp only [evp, em, em2, eu, ew], fun Z1 H1 F1 vs g1 rl => ?_⟩
            cases rl with
            | cons r1 r2 =>
              cases r2 with
              | cons r2 r3 =>
                cases r3
                cases r1 with
                | tup hq rl =>
                  cases r2 with
                  | tup hq2 rl2 => exact ⟨_, _, _, _, rfl, .inr ⟨sqT_sub g1.rel.sub hq, sqT_sub g1.rel.sub hq2, q Z1 H1 F1 _ _ g1 (wk_zipT _ _) (Hold.zz fun Z2 H2 z s => ⟨_, _, sqT_sub s (sqT_sub z hq), sqT_sub s (sqT_sub z hq2), rl.sub z, rl2.sub z⟩)⟩⟩
          · rename_i u w eu ew
            cases ep
            refine ⟨Z, ρ, F, [.list u, .list w], ρ', R0, by simp only [evp, em, em2, eu, ew], fun Z1 H1 F1 vs g1 rl => ?_⟩
            cases rl with
            | cons r1 r2 =>
              cases r2 with
              | cons r2 r3 =>
                cases r3
                cases r1 with
                | lst hq rl =>
                  cases r2 with
                  | lst hq2 rl2 => exact ⟨_, _, _, _, rfl, .inl ⟨.of (g1.rel.sub _ _ hq), .of (g1.rel.sub _ _ hq2), q Z1 H1 F1 _ _ g1 (wk_zip _ _) (Hold.zz fun Z2 H2 z s => ⟨_, _, .of (s _ _ (z _ _ hq)), .of (s _ _ (z _ _ hq2)), rl.sub z, rl2.sub z⟩)⟩⟩
          · cases ep
        · cases e1
      · cases e1
    · cases e1
end
end Mn
end
section
set_option maxHeartbeats 200000
namespace Mn
open PySem L2 PySem.Spec
variable [WW]
abbrev EvS := Env → Option (Fl × Env)
def Fin (K : PySem.W.Frag) (D : Ends) (Z H : Hp) (A : AS) (σ' : St) (Z' H' : Hp) (F' : Nat → List Addr) : Fl → Prop
  | .nx => D.nx σ' H'
  | .ct => D.ct σ' H'
  | .bk => D.bk σ' H'
  | .rt m => ∀ v G, Res K Z H A Z' H' F' m v G → D.rt v H'
def TSt (K : PySem.W.Frag) (X : Cxt) (g : EvS) : TS := fun D σ H => ∃ Z ρ F f ρ', Rel K Z H σ ρ F ∧ g ρ = some (f, ρ') ∧
  ∀ σ' Z' H' F', Gs K X σ Z H ρ F σ' Z' H' ρ' F' → Fin K D Z H (U F) σ' Z' H' F' f
section
variable {K : PySem.W.Frag} {X : Cxt} {σ σ1 σ2 : St} {Z H Z1 H1 Z2 H2 : Hp} {ρ ρ1 ρ2 : Env} {F F1 F2 : Nat → List Addr} {i : Nat}
theorem Gs.alloc {G : List Addr} (x : Gs K X σ Z H ρ F σ1 Z1 H1 ρ1 F1) (y : Alloc Z1 H1 Z2 H2 G) : Gs K X σ Z H ρ F σ1 Z2 H2 ρ1 F1 :=
  ⟨x.rel.alloc y, x.st.trans (y.step _), x.lk, x.sg, x.pg⟩
theorem Fin.base {D : Ends} {f : Fl} (g : Gs K X σ Z H ρ F σ1 Z1 H1 ρ1 F1) (h : Fin K D Z H (U F) σ2 Z2 H2 F2 f) : Fin K D Z1 H1 (U F1) σ2 Z2 H2 F2 f := by
  cases f with
  | rt m => exact fun v G r => h v G (g.res r)
  | _ => exact h
theorem Rel.poke {d : Addr} {u : HO} {m m' : M} {v : V} (R : Rel K Z H σ ρ F) (e : slot ρ i = some m) (hs : σ[i]? = some (some v)) (hF : F i = [d]) (hz : Z d = none) (o : Own K Z (L2.upd H d u) m' v [d]) : Rel K Z (L2.upd H d u) σ (ρ.set i (some m')) F := by
  refine ⟨fun a w h => ?_, by rw [List.length_set]; exact R.len, fun j m2 ej => ?_, fun j ej => ?_, R.dj⟩
  · have : a ≠ d := fun q => by subst q; rw [hz] at h; cases h
    rw [upd_ne this]; exact R.sub a w h
  · by_cases q : i = j
    · subst q
      rw [slot_self _ (slot_lt e)] at ej
      cases ej
      exact ⟨v, hs, hF ▸ o⟩
    · rw [slot_other _ q] at ej
      obtain ⟨w, h1, h2⟩ := R.own j m2 ej
      refine ⟨w, h1, h2.keep (Sub.rfl' _) (fun a ha x hx => ?_) fun a ha => (h2.at_ a ha).1⟩
      have : a ≠ d := fun z => by
        subst z
        exact q (R.dj i j a (by rw [hF]; simp) ha)
      rw [upd_ne this]; exact hx
  · by_cases q : i = j
    · subst q; rw [slot_self _ (slot_lt e)] at ej; cases ej
    · rw [slot_other _ q] at ej; exact R.no j ej
theorem Rel.swap {m m' : M} {v : V} (R : Rel K Z H σ ρ F) (e : slot ρ i = some m) (hs : σ[i]? = some (some v)) (o : Own K Z H m' v (F i)) : Rel K Z H σ (ρ.set i (some m')) F := by
  refine ⟨R.sub, by rw [List.length_set]; exact R.len, fun j m2 ej => ?_, fun j ej => ?_, R.dj⟩
  · by_cases q : i = j
    · subst q
      rw [slot_self _ (slot_lt e)] at ej
      cases ej
      exact ⟨v, hs, o⟩
    · rw [slot_other _ q] at ej
      exact R.own j m2 ej
  · by_cases q : i = j
    · subst q; rw [slot_self _ (slot_lt e)] at ej; cases ej
    · rw [slot_other _ q] at ej; exact R.no j ej
/-- a dict of one's own, as it is locked and unlocked -/
structure Lkb (K : PySem.W.Frag) (Z H : Hp) (m : M) (v : V) (G : List Addr) (d : Addr) (u : HO) : Prop where
  ev : v = .ref d
  eg : G = [d]
  at_ : H d = some u
  mu : Mut (some u)
  nf : ∀ o' u', u ≠ .frz o' u'
  zn : Z d = none
  lock : ∀ od, Own K Z (L2.upd H d (.frz od u)) (.k m) v [d]
  free : ∀ Z' H' G' od, Own K Z' H' (.k m) v G' → H' d = some (.frz od u) → G' = [d] ∧ Z' d = none ∧ Own K Z' (L2.upd H' d u) m v [d]
theorem lkb_d {kvs : List (Key × P)} {v : V} {G : List Addr} (o : Own K Z H (.d kvs) v G) : ∃ d u, Lkb K Z H (.d kvs) v G d u := by
  cases o with
  | d h hz r => exact ⟨_, _, rfl, rfl, h, trivial, (fun _ _ z => by cases z), hz, fun od => .kd upd_same hz r, fun Z' H' G' od o2 e => by
    cases o2 with
    | kd h2 hz2 r2 =>
      rw [e] at h2; cases h2
      exact ⟨rfl, hz2, .d upd_same hz2 r2⟩⟩
theorem lkb_t {kvs : List (List Key × P)} {v : V} {G : List Addr} (o : Own K Z H (.t kvs) v G) : ∃ d u, Lkb K Z H (.t kvs) v G d u := by
  cases o with
  | t h hz r => exact ⟨_, _, rfl, rfl, h, trivial, (fun _ _ z => by cases z), hz, fun od => .kt upd_same hz r, fun Z' H' G' od o2 e => by
    cases o2 with
    | kt h2 hz2 r2 =>
      rw [e] at h2; cases h2
      exact ⟨rfl, hz2, .t upd_same hz2 r2⟩⟩
/-- the lock's begin and end: a walk between -/
theorem lock_in {m : M} {v : V} {d : Addr} {u : HO} (R : Rel K Z H σ ρ F) (e : slot ρ i = some m) (hs : σ[i]? = some (some v)) (L : Lkb K Z H m v (F i) d u) (od : Obj) : Rel K Z (L2.upd H d (.frz od u)) σ (ρ.set i (some (.k m))) F :=
  R.poke e hs L.eg L.zn (L.lock od)
theorem lock_out {m : M} {v : V} {d : Addr} {u : HO} {od : Obj} (e : slot ρ i = some m) (nk : isLk (some m) = false) (hs : σ[i]? = some (some v)) (L : Lkb K Z H m v (F i) d u)
    (g : Gs K X σ Z (L2.upd H d (.frz od u)) (ρ.set i (some (.k m))) F σ1 Z1 H1 ρ1 F1) : H1 d = some (.frz od u) ∧ Gs K X σ Z H ρ F σ1 Z1 (L2.upd H1 d u) (ρ1.set i (some m)) F1 ∧ Own K Z1 (L2.upd H1 d u) m v [d] ∧ F1 i = [d] := by
  have hi := slot_lt e
  have hd : H1 d = some (.frz od u) := g.st.fz _ _ _ upd_same
  have e1 : slot ρ1 i = some (.k m) := g.lk.lk i m (slot_self _ hi)
  have s1 : σ1[i]? = some (some v) := (g.sg i m (slot_self _ hi)).trans hs
  obtain ⟨w, h1, h2⟩ := g.rel.own i _ e1
  rw [s1] at h1; cases h1
  obtain ⟨k1, k2, k3⟩ := L.free _ _ _ od h2 hd
  have hdF : U F d := ⟨i, by rw [L.eg]; simp⟩
  refine ⟨hd, ⟨g.rel.poke e1 s1 k1 k2 k3, ⟨fun a o h n => ?_, g.st.zz, fun a o h => ?_, fun a h => ?_, fun a o w h => ?_⟩, ⟨fun j n hj => ?_, fun j hp hn => ?_, ?_⟩, fun j n hj => ?_, g.pg⟩, k3, k1⟩
  · have q : a ≠ d := fun z => n (z ▸ hdF)
    rw [upd_ne q]
    exact g.st.fr a o (by rw [upd_ne q]; exact h) n
  · rcases g.st.zn a o h with h | h | h | h
    · exact .inl h
    · exact .inr (.inl h)
    · by_cases q : a = d
      · subst q; rw [upd_same] at h; cases h
      · rw [upd_ne q] at h; exact .inr (.inr (.inl h))
    · exact .inr (.inr (.inr h))
  · rcases g.st.an a h with h | h
    · exact .inl h
    · by_cases q : a = d
      · subst q; rw [upd_same] at h; cases h
      · rw [upd_ne q] at h; exact .inr h
  · by_cases q : a = d
    · subst q; rw [L.at_] at h; cases h; exact (L.nf _ _ rfl).elim
    · rw [upd_ne q]
      exact g.st.fz a o w (by rw [upd_ne q]; exact h)
  · have q : i ≠ j := fun z => by subst z; rw [e] at hj; cases hj; cases nk
    rw [slot_other _ q]
    exact g.lk.lk j n (by rw [slot_other _ q]; exact hj)
  · by_cases q : i = j
    · subst q; rw [slot_self _ (slot_lt e1)]; exact fun z => nomatch z
    · rw [slot_other _ q]
      exact g.lk.pm j hp (by rw [slot_other _ q]; exact hn)
  · rw [List.length_set, g.lk.len, List.length_set]
  · have q : i ≠ j := fun z => by subst z; rw [e] at hj; cases hj; cases nk
    exact g.sg j n (by rw [slot_other _ q]; exact hj)
/-- a list: the lock is nothing in the heap -/
theorem list_in {ps : List P} (R : Rel K Z H σ ρ F) (e : slot ρ i = some (.l ps)) : Rel K Z H σ (ρ.set i (some (.k (.l ps)))) F := by
  obtain ⟨v, h1, h2⟩ := R.own i _ e
  refine R.swap e h1 ?_
  generalize F i = G at h2
  cases h2 with
  | l h hz r => exact .kl h hz r
theorem list_out {ps : List P} (e : slot ρ i = some (.l ps)) (g : Gs K X σ Z H (ρ.set i (some (.k (.l ps)))) F σ1 Z1 H1 ρ1 F1) : Gs K X σ Z H ρ F σ1 Z1 H1 (ρ1.set i (some (.l ps))) F1 := by
  have hi := slot_lt e
  have e1 : slot ρ1 i = some (.k (.l ps)) := g.lk.lk i _ (slot_self _ hi)
  obtain ⟨w, h1, h2⟩ := g.rel.own i _ e1
  refine ⟨g.rel.swap e1 h1 ?_, g.st, ⟨fun j n hj => ?_, fun j hp hn => ?_, by rw [List.length_set, g.lk.len, List.length_set]⟩, fun j n hj => ?_, g.pg⟩
  · generalize F1 i = G at h2
    cases h2 with
    | kl h hz r => exact .l h hz r
  · have q : i ≠ j := fun z => by subst z; rw [e] at hj; cases hj
    rw [slot_other _ q]
    exact g.lk.lk j n (by rw [slot_other _ q]; exact hj)
  · by_cases q : i = j
    · subst q; rw [slot_self _ (slot_lt e1)]; exact fun z => nomatch z
    · rw [slot_other _ q]
      exact g.lk.pm j hp (by rw [slot_other _ q]; exact hn)
  · have q : i ≠ j := fun z => by subst z; rw [e] at hj; cases hj
    exact g.sg j n (by rw [slot_other _ q]; exact hj)
/-- behind a lock -/
def unlk (lk : Option (Nat × M)) (ρ : Env) : Env := match lk with
  | none => ρ
  | some (i, m) => ρ.set i (some m)
/-- what a lock is, by cases -/
theorem lockE_cases {it : It} {lk : Option (Nat × M)} {ρ0 : Env} (e : lockE it ρ = some (lk, ρ0)) : (lk = none ∧ ρ0 = ρ) ∨ ∃ j m, lk = some (j, m) ∧ slot ρ j = some m ∧ ρ0 = ρ.set j (some (.k m)) ∧ ((∃ ps, m = .l ps) ∨ (∃ kvs, m = .d kvs) ∨ ∃ kvs, m = .t kvs) := by
  have hv : ∀ j, lockV j ρ = some (lk, ρ0) → (lk = none ∧ ρ0 = ρ) ∨ ∃ j m, lk = some (j, m) ∧ slot ρ j = some m ∧ ρ0 = ρ.set j (some (.k m)) ∧ ((∃ ps, m = .l ps) ∨ (∃ kvs, m = .d kvs) ∨ ∃ kvs, m = .t kvs) := by
    intro j h
    unfold lockV at h
    split at h <;> rename_i h1
    · cases h; exact .inr ⟨_, _, rfl, h1, rfl, .inl ⟨_, rfl⟩⟩
    · cases h; exact .inr ⟨_, _, rfl, h1, rfl, .inr (.inl ⟨_, rfl⟩)⟩
    · cases h; exact .inr ⟨_, _, rfl, h1, rfl, .inr (.inr ⟨_, rfl⟩)⟩
    · cases h; exact .inl ⟨rfl, rfl⟩
    · cases h; exact .inl ⟨rfl, rfl⟩
    · cases h
  unfold lockE at e
  split at e
  · exact hv _ e
  · exact hv _ e
  · cases e; exact .inl ⟨rfl, rfl⟩
end
section
variable {T : Tab} {k : Nat} {cx : Cxt} {X : Cx} {x y z : Expr} {st : Stmt} {pos p2 p3 apos tpos : Pos} {a b : List Stmt}
def lockW (it : It) (G : EvS) : EvS := fun ρ => match lockE it ρ with
  | none => none
  | some (lk, ρ0) => match G ρ0 with
    | none => none
    | some (f, ρ2) => some (f, unlk lk ρ2)
theorem ps_lk {it : It} {G : EvS} (h : PS X st (TSt X.K cx G)) : PS X st (TSt X.K cx (lockW it G)) := ⟨fun pins s σ H D J ⟨Z, ρ, F, f, ρ', R, e, q⟩ => by
  unfold lockW at e
  split at e
  · cases e
  · rename_i lk ρ0 e1
    split at e
    · cases e
    · rename_i f2 ρ2 e2
      cases e
      rcases lockE_cases e1 with ⟨rfl, rfl⟩ | ⟨j, m, rfl, hj, rfl, hm⟩
      · exact h.run pins s σ H D J ⟨Z, _, F, f, ρ2, R, e2, q⟩
      · have dk : ∀ v d u, σ[j]? = some (some v) → Lkb X.K Z H m v (F j) d u → isLk (some m) = false → wpAny (model X.prog X.w) X.A (exec st X.env) (SP X pins D) X.xe s := by
          intro v d u hs L nk
          refine (ps_lock h).run pins s σ H D J ⟨d, u, L.at_, L.mu, fun od => ⟨Z, _, F, f, ρ2, lock_in R hj hs L od, e2, fun σ' Z' H' F' g => ?_⟩⟩
          obtain ⟨k1, k2, k3, k4⟩ := lock_out hj nk hs L g
          have q2 := q _ _ _ _ k2
          cases f with
          | nx => exact ⟨k1, q2⟩
          | ct => exact ⟨k1, q2⟩
          | bk => exact ⟨k1, q2⟩
          | rt m2 =>
            refine fun w G r => ⟨k1, q2 w G ⟨?_, r.ap, fun a ha => ?_⟩⟩
            · refine r.own.keep (Sub.rfl' _) (fun a ha o ho => ?_) fun a ha => (r.own.at_ a ha).1
              have : a ≠ d := fun z => r.ap a ha ⟨j, by rw [k4, z]; simp⟩
              rw [upd_ne this]; exact ho
            · rcases r.nw a ha with h | h
              · exact .inl h
              · by_cases z : a = d
                · subst z; rw [upd_same] at h; cases h
                · rw [upd_ne z] at h; exact .inr h
        rcases hm with ⟨ps, rfl⟩ | ⟨kvs, rfl⟩ | ⟨kvs, rfl⟩
        · exact h.run pins s σ H D J ⟨Z, _, F, f, ρ2, list_in R hj, e2, fun σ' Z' H' F' g => q σ' Z' H' F' (list_out hj g)⟩
        · obtain ⟨v, h1, h2⟩ := R.own j _ hj
          obtain ⟨d, u, L⟩ := lkb_d h2
          exact dk v d u h1 L rfl
        · obtain ⟨v, h1, h2⟩ := R.own j _ hj
          obtain ⟨d, u, L⟩ := lkb_t h2
          exact dk v d u h1 L rfl⟩
def forG (X : Cxt) (tg : Tg) (it : It) (b : EvS) : EvS := fun ρ => match evit X it ρ with
  | none => none
  | some (ps, ρ1) => forL (bindT X tg) b ps ρ1
def notSet : Expr → Bool
  | .Set _ _ _ => false
  | _ => true
theorem folded_of {env : PySem.Env} (h : notSet x = true) : ∀ v, foldedSetIterable x env v = pure v := by
  intro v
  cases x <;> first | rfl | cases h
theorem ps_forM {tg : Tg} {it : It} {B : EvS} (g : Good T k cx X) (hi : PI X x y (TIt X.K cx (evit cx it))) (ht : PG X x (TGt X.K cx tg)) (hb : PSs X b (TSt X.K cx B)) (hn : notSet y = true) : PS X (.For x y b [] pos) (TSt X.K cx (forG cx tg it B)) := by
  have hp : PassesOwn (model X.prog X.w) X.A X.env X.xe := by rw [g.xe]; exact .never
  refine PS.mono (ps_for hp g.calm hi ht hb (folded_of hn)) fun D σ H ⟨Z, ρ, F, f, ρ', R, e, q⟩ => ?_
  unfold forG at e
  split at e
  · cases e
  · rename_i ps ρ1 e1
    refine ⟨Z, ρ, F, ps, ρ1, R, e1, fun Z1 H1 F1 J G g1 wk hold => ?_⟩
    refine ⟨fun i m σ2 H2 => m + i = ps.length ∧ ∃ Z2 ρ2 F2, Gs X.K cx σ Z1 H1 ρ1 F1 σ2 Z2 H2 ρ2 F2 ∧ forL (bindT cx tg) B (ps.drop i) ρ2 = some (f, ρ'), ⟨ps.length, rfl, Z1, ρ1, F1, .refl g1.rel, e⟩, ?_⟩
    rintro i m σ2 H2 ⟨hm, Z2, ρ2, F2, g2, e2⟩
    by_cases hlt : i < ps.length
    · refine .inr ⟨wk.goes i Z2 H2 hlt (hold _ _ _ _ _ g2), fun σ3 H3 => m - 1 + (i + 1) = ps.length ∧ ∃ Z3 ρ3 F3, Gs X.K cx σ Z1 H1 ρ1 F1 σ3 Z3 H3 ρ3 F3 ∧ forL (bindT cx tg) B (ps.drop (i + 1)) ρ3 = some (f, ρ'), fun σ3 H3 h => ⟨m - 1, by omega, h⟩, fun v H3 y3 => ?_⟩
      obtain ⟨Z3, p, al, hp3, rp⟩ := wk.yields i Z2 H2 v H3 hlt (hold _ _ _ _ _ g2) g2.rel.sub y3
      have hd : ps.drop i = p :: ps.drop (i + 1) := by
        rw [List.drop_eq_getElem_cons hlt]
        have : ps[i] = p := by rw [List.getElem?_eq_getElem hlt] at hp3; exact Option.some.inj hp3
        rw [this]
      rw [hd] at e2
      unfold forL at e2
      split at e2
      · cases e2
      · rename_i ρ4 e4
        have g3 := g2.alloc al
        refine ⟨Z3, ρ2, F2, p, ρ4, g3.rel, rp, e4, fun σ4 F4 g4 _ => ?_⟩
        have g5 := g3.trans g4
        have gt := g1.gs.trans g5
        split at e2
        · cases e2
        · rename_i ρ5 e5
          cases e2
          exact ⟨Z3, ρ4, F4, .bk, _, g4.rel, e5, fun σ6 Z6 H6 F6 g6 => q σ6 Z6 H6 F6 (gt.trans g6)⟩
        · rename_i m2 ρ5 e5
          cases e2
          exact ⟨Z3, ρ4, F4, .rt m2, _, g4.rel, e5, fun σ6 Z6 H6 F6 g6 w G r => q σ6 Z6 H6 F6 (gt.trans g6) w G (gt.res r)⟩
        · rename_i f2 ρ5 n1 n2 e5
          cases f2 with
          | nx => exact ⟨Z3, ρ4, F4, .nx, ρ5, g4.rel, e5, fun σ6 Z6 H6 F6 g6 => ⟨by omega, Z6, ρ5, F6, g5.trans g6, e2⟩⟩
          | ct => exact ⟨Z3, ρ4, F4, .ct, ρ5, g4.rel, e5, fun σ6 Z6 H6 F6 g6 => ⟨by omega, Z6, ρ5, F6, g5.trans g6, e2⟩⟩
          | bk => exact (n1 rfl).elim
          | rt m2 => exact (n2 m2 rfl).elim
    · have ei : i = ps.length := by omega
      subst ei
      rw [List.drop_length] at e2
      unfold forL at e2
      cases e2
      exact .inl ⟨wk.stops Z2 H2 (hold _ _ _ _ _ g2), q σ2 Z2 H2 F2 (g1.gs.trans g2)⟩
theorem fr_eq {tg : Tg} {it : It} {sl : SL} (ρ : Env) : evs cx (.fr tg it sl) ρ = lockW it (forG cx tg it (evss cx sl)) ρ := by
  simp only [evs, lockW, forG]
  cases lockE it ρ with
  | none => rfl
  | some w =>
    obtain ⟨lk, ρ0⟩ := w
    dsimp only
    cases evit cx it ρ0 with
    | none => rfl
    | some w =>
      obtain ⟨ps, ρ1⟩ := w
      dsimp only
      cases forL (bindT cx tg) (evss cx sl) ps ρ1 with
      | none => rfl
      | some w =>
        obtain ⟨f, ρ2⟩ := w
        cases lk with
        | none => rfl
        | some im => rfl
theorem TSt.eq {G G' : EvS} (h : ∀ ρ, G' ρ = G ρ) (p : PS X st (TSt X.K cx G)) : PS X st (TSt X.K cx G') := by
  have : G' = G := funext h
  rw [this]; exact p
theorem snd_fr {tg : Tg} {it : It} {sl : SL} (g : Good T k cx X) (hi : PI X x y (TIt X.K cx (evit cx it))) (ht : PG X x (TGt X.K cx tg)) (hb : PSs X b (TSt X.K cx (evss cx sl))) (hn : notSet y = true) : PS X (.For x y b [] pos) (TSt X.K cx (evs cx (.fr tg it sl))) :=
  TSt.eq fr_eq (ps_lk (ps_forM g hi ht hb hn))
theorem snd_wh {c : E} {sl : SL} (g : Good T k cx X) (hc : PT X x (TTs X.K cx (ev cx c))) (hb : PSs X b (TSt X.K cx (evss cx sl))) : PS X (.While x b [] pos) (TSt X.K cx (evs cx (.wh c sl))) := by
  have hp : PassesOwn (model X.prog X.w) X.A X.env X.xe := by rw [g.xe]; exact .never
  refine PS.mono (ps_while hp hc hb) fun D σ H ⟨Z, ρ, F, f, ρ', R, e, q⟩ => ?_
  have e : whL (fun ρ => ofB (ev cx c ρ)) (evss cx sl) WF ρ = some (f, ρ') := by simpa only [evs] using e
  generalize WF = n at e
  refine ⟨fun m σ2 H2 => ∃ Z2 ρ2 F2, Gs X.K cx σ Z H ρ F σ2 Z2 H2 ρ2 F2 ∧ whL (fun ρ => ofB (ev cx c ρ)) (evss cx sl) m ρ2 = some (f, ρ'), ⟨n, Z, ρ, F, .refl R, e⟩, ?_⟩
  rintro m σ2 H2 ⟨Z2, ρ2, F2, g2, e2⟩
  cases m with
  | zero => unfold whL at e2; cases e2
  | succ m =>
    unfold whL at e2
    split at e2
    · cases e2
    · rename_i ρ3 e3
      cases e2
      unfold ofB at e3
      split at e3
      · rename_i b3 ρ4 e4
        cases e3
        exact ⟨Z2, ρ2, F2, false, _, g2.rel, e4, fun Z3 H3 F3 g3 => by
          dsimp only
          rw [if_neg Bool.false_ne_true]
          exact q σ2 Z3 H3 F3 (g2.trans g3.gs)⟩
      · cases e3
    · rename_i ρ3 e3
      unfold ofB at e3
      split at e3
      · rename_i b3 ρ4 e4
        cases e3
        refine ⟨Z2, ρ2, F2, true, _, g2.rel, e4, fun Z3 H3 F3 g3 => ?_⟩
        dsimp only
        rw [if_pos rfl]
        refine ⟨fun σ4 H4 => ∃ Z4 ρ4 F4, Gs X.K cx σ Z H ρ F σ4 Z4 H4 ρ4 F4 ∧ whL (fun ρ => ofB (ev cx c ρ)) (evss cx sl) m ρ4 = some (f, ρ'), fun σ4 H4 h => ⟨m, Nat.lt_succ_self m, h⟩, ?_⟩
        have gt := g2.trans g3.gs
        split at e2
        · cases e2
        · rename_i ρ5 e5
          cases e2
          exact ⟨Z3, _, F3, .bk, _, g3.rel, e5, fun σ6 Z6 H6 F6 g6 => q σ6 Z6 H6 F6 (gt.trans g6)⟩
        · rename_i m2 ρ5 e5
          cases e2
          exact ⟨Z3, _, F3, .rt m2, _, g3.rel, e5, fun σ6 Z6 H6 F6 g6 w G r => q σ6 Z6 H6 F6 (gt.trans g6) w G (gt.res r)⟩
        · rename_i f2 ρ5 n1 n2 e5
          cases f2 with
          | nx => exact ⟨Z3, _, F3, .nx, ρ5, g3.rel, e5, fun σ6 Z6 H6 F6 g6 => ⟨Z6, ρ5, F6, gt.trans g6, e2⟩⟩
          | ct => exact ⟨Z3, _, F3, .ct, ρ5, g3.rel, e5, fun σ6 Z6 H6 F6 g6 => ⟨Z6, ρ5, F6, gt.trans g6, e2⟩⟩
          | bk => exact (n1 rfl).elim
          | rt m2 => exact (n2 m2 rfl).elim
      · cases e3
theorem ss_nil : PSs X [] (TSt X.K cx (evss cx .nil)) := PSs.mono pss_nil fun D σ H ⟨Z, ρ, F, f, ρ', R, e, q⟩ => by
  simp only [evss] at e
  cases e
  exact q σ Z H F (.refl R)
theorem ss_cons {s1 : S} {sl : SL} (h : PS X st (TSt X.K cx (evs cx s1))) (hs : PSs X b (TSt X.K cx (evss cx sl))) : PSs X (st :: b) (TSt X.K cx (evss cx (.cons s1 sl))) := PSs.mono (pss_cons h hs) fun D σ H ⟨Z, ρ, F, f, ρ', R, e, q⟩ => by
  simp only [evss] at e
  split at e
  · cases e
  · rename_i ρ1 e1
    exact ⟨Z, ρ, F, .nx, ρ1, R, e1, fun σ1 Z1 H1 F1 g1 => ⟨Z1, ρ1, F1, f, ρ', g1.rel, e, fun σ2 Z2 H2 F2 g2 => (q σ2 Z2 H2 F2 (g1.trans g2)).base g1⟩⟩
  · rename_i f2 ρ1 n1 e1
    cases e
    refine ⟨Z, ρ, F, f, _, R, e1, fun σ1 Z1 H1 F1 g1 => ?_⟩
    have := q σ1 Z1 H1 F1 g1
    cases f with
    | nx => exact (n1 rfl).elim
    | _ => exact this
/-- a text ahead of a def's rows -/
theorem ss_doc {sl : SL} {t : Str} {j : Nat} (hs : PSs X b (TSt X.K cx (evss cx sl))) : PSs X (.Expr (.Constant (.str t) j p2) pos :: b) (TSt X.K cx (evss cx sl)) := PSs.mono (pss_cons ps_doc hs) fun D σ H h => h
theorem snd_if {c : E} {s1 s2 : SL} (hc : PT X x (TTs X.K cx (ev cx c))) (ha : PSs X a (TSt X.K cx (evss cx s1))) (hb : PSs X b (TSt X.K cx (evss cx s2))) : PS X (.If x a b pos) (TSt X.K cx (evs cx (.ifs c s1 s2))) := PS.mono (ps_if hc ha hb) fun D σ H ⟨Z, ρ, F, f, ρ', R, e, q⟩ => by
  simp only [evs] at e
  split at e
  · rename_i c1 ρ1 e1
    unfold ofB at e1
    split at e1
    · rename_i b3 ρ4 e4
      cases e1
      refine ⟨Z, ρ, F, c1, _, R, e4, fun Z1 H1 F1 g1 => ?_⟩
      cases c1 with
      | true =>
        rw [if_pos rfl] at e ⊢
        exact ⟨Z1, _, F1, f, ρ', g1.rel, e, fun σ2 Z2 H2 F2 g2 => (q σ2 Z2 H2 F2 (g1.gs.trans g2)).base g1.gs⟩
      | false =>
        rw [if_neg Bool.false_ne_true] at e ⊢
        exact ⟨Z1, _, F1, f, ρ', g1.rel, e, fun σ2 Z2 H2 F2 g2 => (q σ2 Z2 H2 F2 (g1.gs.trans g2)).base g1.gs⟩
    · cases e1
  · cases e
theorem snd_ret {a : E} (h : PE X x (TEx X.K cx (ev cx a))) : PS X (.Return (some x) pos) (TSt X.K cx (evs cx (.ret a))) := PS.mono (ps_ret h) fun D σ H ⟨Z, ρ, F, f, ρ', R, e, q⟩ => by
  simp only [evs] at e
  split at e
  · rename_i m ρ1 e1
    cases e
    exact ⟨Z, ρ, F, m, _, R, e1, fun Z1 H1 F1 v G g1 r => q σ Z1 H1 F1 g1.gs v G r⟩
  · cases e
theorem snd_ret0 : PS X (.Return none pos) (TSt X.K cx (evs cx .ret0)) := PS.mono ps_retN fun D σ H ⟨Z, ρ, F, f, ρ', R, e, q⟩ => by
  simp only [evs] at e
  cases e
  exact q σ Z H F (.refl R) _ [] ⟨.v .non, no0, no0⟩
theorem snd_pass : PS X (.Pass pos) (TSt X.K cx (evs cx .pass)) := PS.mono ps_pass fun D σ H ⟨Z, ρ, F, f, ρ', R, e, q⟩ => by
  simp only [evs] at e
  cases e
  exact q σ Z H F (.refl R)
theorem snd_brk : PS X (.Break pos) (TSt X.K cx (evs cx .brk)) := PS.mono ps_break fun D σ H ⟨Z, ρ, F, f, ρ', R, e, q⟩ => by
  simp only [evs] at e
  cases e
  exact q σ Z H F (.refl R)
theorem snd_cont : PS X (.Continue pos) (TSt X.K cx (evs cx .cont)) := PS.mono ps_continue fun D σ H ⟨Z, ρ, F, f, ρ', R, e, q⟩ => by
  simp only [evs] at e
  cases e
  exact q σ Z H F (.refl R)
end
end Mn
end
section
set_option maxHeartbeats 200000
namespace Mn
open PySem L2 PySem.Spec
variable [WW]
theorem wipe_get {σ : St} {j : Nat} : ∀ {vs : List Nat}, (wipe σ vs)[j]? = if j ∈ vs ∧ j < σ.length then some none else σ[j]?
  | [] => by simp [wipe]
  | v :: vs => by
    unfold wipe
    have ih := wipe_get (σ := σ) (j := j) (vs := vs)
    have hl := wipe_length σ vs
    by_cases q : v = j
    · subst q
      by_cases h : v < σ.length
      · rw [List.getElem?_set_self (by rw [hl]; exact h), if_pos ⟨by simp, h⟩]
      · rw [List.getElem?_eq_none (by simp [hl]; omega), if_neg (fun z => h z.2), List.getElem?_eq_none (by omega)]
    · rw [List.getElem?_set_ne q, ih]
      by_cases h : j ∈ vs
      · simp [h]
      · have : ¬ j ∈ v :: vs := by simp [h, Ne.symm q]
        simp [h, Ne.symm q]
theorem wipe_eq {σ σ2 : St} {vs : List Nat} (hl : σ2.length = σ.length) (h : ∀ j, j ∉ vs → σ2[j]? = σ[j]?) : wipe σ2 vs = wipe σ vs := by
  apply List.ext_getElem?
  intro j
  rw [wipe_get, wipe_get, hl]
  by_cases q : j ∈ vs
  · by_cases w : j < σ.length
    · simp [q, w]
    · rw [if_neg (fun z => w z.2), if_neg (fun z => w z.2), List.getElem?_eq_none (by omega), List.getElem?_eq_none (by omega)]
  · simp [q, h j q]
theorem wipeE_len (ρ : Env) : ∀ vs : List Nat, (wipeE ρ vs).length = ρ.length
  | [] => rfl
  | v :: vs => by unfold wipeE; rw [List.length_set, wipeE_len ρ vs]
theorem wipeE_slot {ρ : Env} {j : Nat} : ∀ {vs : List Nat}, slot (wipeE ρ vs) j = if j ∈ vs then none else slot ρ j
  | [] => by simp [wipeE]
  | v :: vs => by
    unfold wipeE
    rw [slot_set, wipeE_slot, wipeE_len]
    by_cases q : v = j
    · subst q
      by_cases h : v < ρ.length
      · simp [h]
      · have : slot ρ v = none := by
          unfold slot
          rw [List.getElem?_eq_none (by omega)]; rfl
        simp [h, this]
    · rw [if_neg (fun z => q z.1)]
      simp [Ne.symm q]
theorem backE_len (ρ0 ρ : Env) : ∀ vs : List Nat, (backE ρ0 ρ vs).length = ρ.length
  | [] => rfl
  | v :: vs => by unfold backE; rw [List.length_set, backE_len ρ0 ρ vs]
theorem backE_slot {ρ0 ρ : Env} {j : Nat} (hl : ρ.length = ρ0.length) : ∀ {vs : List Nat}, slot (backE ρ0 ρ vs) j = if j ∈ vs then slot ρ0 j else slot ρ j
  | [] => by simp [backE]
  | v :: vs => by
    unfold backE
    rw [slot_set, backE_slot hl, backE_len]
    by_cases q : v = j
    · subst q
      by_cases h : v < ρ.length
      · simp [h]
      · have : slot ρ v = none := by
          unfold slot
          rw [List.getElem?_eq_none (by omega)]; rfl
        have : slot ρ0 v = none := by
          unfold slot
          rw [List.getElem?_eq_none (by omega)]; rfl
        simp [h, *]
    · rw [if_neg (fun z => q z.1)]
      simp [Ne.symm q]
section
variable {K : PySem.W.Frag} {X : Cxt} {σ σ1 σ2 : St} {Z H Z1 H1 Z2 H2 : Hp} {ρ ρ1 ρ2 : Env} {F F1 F2 : Nat → List Addr} {i : Nat} {vs : List Nat}
theorem own_ok (h : ownOk X ρ vs = true) {i : Nat} (hi : i ∈ vs) : pmAt X i = false ∧ (slot ρ i = none ∨ ∃ p, slot ρ i = some (.v p)) := by
  unfold ownOk at h
  have h1 := List.all_eq_true.mp h i hi
  rw [Bool.and_eq_true, Bool.not_eq_true'] at h1
  refine ⟨h1.1, ?_⟩
  have h2 := h1.2
  split at h2
  · exact .inl ‹_›
  · exact .inr ⟨_, ‹_›⟩
  · cases h2
theorem Rel.wipe (R : Rel K Z H σ ρ F) : ∀ vs : List Nat, ∃ F2, Rel K Z H (L2.wipe σ vs) (wipeE ρ vs) F2 ∧ ∀ a, U F2 a → U F a
  | [] => ⟨F, R, fun _ h => h⟩
  | v :: vs => by
    obtain ⟨F2, R2, k2⟩ := R.wipe vs
    have R3 := R2.del v
    refine ⟨fset F2 v [], ?_, fun a h => k2 a (U_del h)⟩
    unfold L2.wipe wipeE
    refine ⟨R3.sub, by rw [List.length_set]; exact R3.len, fun j m e => ?_, R3.no, R3.dj⟩
    have hj : v ≠ j := fun q => by
      subst q
      by_cases h : v < (wipeE ρ vs).length
      · rw [slot_self _ h] at e; cases e
      · have := slot_lt e
        rw [List.length_set] at this
        exact h this
    rw [List.getElem?_set_ne hj]
    exact R3.own j m e
theorem Gs.wipe (g : Gs K X σ Z H ρ F σ1 Z1 H1 ρ1 F1) (ok : ownOk X ρ vs = true) : ∃ F2, Gs K X σ Z H ρ F (L2.wipe σ1 vs) Z1 H1 (wipeE ρ1 vs) F2 ∧ ∀ a, U F2 a → U F1 a := by
  obtain ⟨F2, R2, k⟩ := g.rel.wipe vs
  have nk : ∀ (j : Nat) (m : M), slot ρ j = some (.k m) → j ∉ vs := fun j m e hj => by
    rcases (own_ok ok hj).2 with q | ⟨p, q⟩ <;> rw [q] at e <;> cases e
  refine ⟨F2, ⟨R2, ⟨g.st.fr, g.st.zz, g.st.zn, fun a h => g.st.an a (k a h), g.st.fz⟩, ⟨fun j m e => ?_, fun j hp hn => ?_, by rw [wipeE_len, g.lk.len]⟩, fun j m e => ?_, fun j hp => ?_⟩, k⟩
  · rw [wipeE_slot, if_neg (nk j m e)]; exact g.lk.lk j m e
  · have : j ∉ vs := fun hj => by rw [(own_ok ok hj).1] at hp; cases hp
    rw [wipeE_slot, if_neg this]; exact g.lk.pm j hp hn
  · rw [wipe_get, if_neg (fun z => nk j m e z.1)]; exact g.sg j m e
  · have : j ∉ vs := fun hj => by rw [(own_ok ok hj).1] at hp; cases hp
    rw [wipe_get, if_neg (fun z => this z.1)]; exact g.pg j hp
theorem Gs.back (g : Gs K X σ Z H ρ F (L2.wipe σ vs) Z1 H1 (wipeE ρ1 vs) F1) (R : Rel K Z H σ ρ F) (ok : ownOk X ρ vs = true) (hl : ρ1.length = ρ.length) : Go K X σ Z H ρ F Z1 H1 (backE ρ ρ1 vs) F1 := by
  have sl : ∀ j, j ∉ vs → slot (backE ρ ρ1 vs) j = slot (wipeE ρ1 vs) j := fun j hj => by rw [backE_slot hl, if_neg hj, wipeE_slot, if_neg hj]
  have so : ∀ j, j ∈ vs → slot (backE ρ ρ1 vs) j = slot ρ j := fun j hj => by rw [backE_slot hl, if_pos hj]
  have fo : ∀ j, j ∈ vs → F1 j = [] := fun j hj => g.rel.no j (by rw [wipeE_slot, if_pos hj])
  refine ⟨⟨g.rel.sub, by rw [backE_len, hl]; exact R.len, fun j m e => ?_, fun j e => ?_, g.rel.dj⟩, g.st, ⟨fun j m e => ?_, fun j hp hn => ?_, by rw [backE_len, hl]⟩⟩
  · by_cases hj : j ∈ vs
    · rw [so j hj] at e
      rcases (own_ok ok hj).2 with q | ⟨p, q⟩
      · rw [q] at e; cases e
      · rw [q] at e; cases e
        obtain ⟨v, h1, h2⟩ := R.own j _ q
        refine ⟨v, h1, ?_⟩
        rw [fo j hj]
        generalize F j = G at h2
        cases h2 with
        | v rp => exact .v (rp.sub g.st.zz)
    · rw [sl j hj] at e
      obtain ⟨v, h1, h2⟩ := g.rel.own j m e
      rw [wipe_get, if_neg (fun z => hj z.1)] at h1
      exact ⟨v, h1, h2⟩
  · by_cases hj : j ∈ vs
    · exact fo j hj
    · rw [sl j hj] at e; exact g.rel.no j e
  · have hj : j ∉ vs := fun hj => by
      rcases (own_ok ok hj).2 with q | ⟨p, q⟩ <;> rw [q] at e <;> cases e
    rw [sl j hj]; exact g.lk.lk j m e
  · by_cases hj : j ∈ vs
    · rw [so j hj]; exact hn
    · rw [sl j hj]; exact g.lk.pm j hp hn
/-- something beside the variables is written -/
theorem Gs.side {D : Addr} {u : HO} (g : Gs K X σ Z H ρ F σ1 Z1 H1 ρ1 F1) (h0 : H D = none) (h1 : ¬ U F1 D) (h2 : Z1 D = none) : Gs K X σ Z H ρ F σ1 Z1 (L2.upd H1 D u) ρ1 F1 := by
  refine ⟨⟨fun a w e => ?_, g.rel.len, fun j m e => ?_, g.rel.no, g.rel.dj⟩, ⟨fun a o e n => ?_, g.st.zz, g.st.zn, g.st.an, fun a o w e => ?_⟩, g.lk, g.sg, g.pg⟩
  · have : a ≠ D := fun q => by subst q; rw [h2] at e; cases e
    rw [upd_ne this]; exact g.rel.sub a w e
  · obtain ⟨v, k1, k2⟩ := g.rel.own j m e
    refine ⟨v, k1, k2.keep (Sub.rfl' _) (fun a ha o ho => ?_) fun a ha => (k2.at_ a ha).1⟩
    have : a ≠ D := fun q => h1 ⟨j, q ▸ ha⟩
    rw [upd_ne this]; exact ho
  · have : a ≠ D := fun q => by subst q; rw [h0] at e; cases e
    rw [upd_ne this]; exact g.st.fr a o e n
  · have : a ≠ D := fun q => by subst q; rw [h0] at e; cases e
    rw [upd_ne this]; exact g.st.fz a o w e
/-- the new list beside the variables -/
structure Acc (K : PySem.W.Frag) (Z H : Hp) (F : Nat → List Addr) (D : Addr) (qs : List P) : Prop where
  own : Own K Z H (.l qs) (.ref D) [D]
  ap : ¬ U F D
theorem Acc.step {D : Addr} {qs : List P} (a : Acc K Z H F D qs) (g : Gs K X σ Z H ρ F σ1 Z1 H1 ρ1 F1) : Acc K Z1 H1 F1 D qs := by
  obtain ⟨o, h⟩ := a.own.step (A := U F) (A' := U F1) (fun b hb => by simp at hb; subst hb; exact a.ap) g.st g.rel.sub
  exact ⟨o, h D (by simp)⟩
theorem Acc.zn {D : Addr} {qs : List P} (a : Acc K Z H F D qs) : Z D = none := (a.own.at_ D (by simp)).1
end
def TTt (K : PySem.W.Frag) (X : Cxt) (g : Env → Option (Bool × Env)) : TT := fun σ H Q => ∃ Z ρ F b ρ', Rel K Z H σ ρ F ∧ g ρ = some (b, ρ') ∧ ∀ Z' H' F', Go K X σ Z H ρ F Z' H' ρ' F' → Q b H'
theorem PTs.mono {X : Cx} {e : List Expr} {t t' : TT} (h : PTs X e t) (i : ∀ σ H Q, t' σ H Q → t σ H Q) : PTs X e t' := ⟨fun pins s σ H Q J q => h.run pins s σ H Q J (i σ H Q q)⟩
section
variable {T : Tab} {k : Nat} {cx : Cxt} {X : Cx} {x y z : Expr} {st : Stmt} {pos p2 p3 apos tpos : Pos}
theorem ts_nil : PTs X [] (TTt X.K cx (evt cx .nil)) := PTs.mono pts_nil fun σ H Q ⟨Z, ρ, F, b, ρ', R, e, q⟩ => by
  simp only [evt] at e
  cases e
  exact q Z H F (.refl R)
theorem ts_one {e0 : E} (h : PT X x (TTs X.K cx (ev cx e0))) : PTs X [x] (TTt X.K cx (evt cx (.cons e0 .nil))) := PTs.mono (pts_one h) fun σ H Q ⟨Z, ρ, F, b, ρ', R, e, q⟩ => by
  simp only [evt] at e
  split at e
  · rename_i b3 ρ4 e4
    cases e
    exact ⟨Z, ρ, F, _, _, R, e4, q⟩
  · cases e
/-- the comprehension where its iterable is locked already -/
def compG (X : Cxt) (own : List Nat) (tg : Tg) (it : It) (ts : EL) (e : E) : Ev1 := fun ρ => match evit X it ρ with
  | none => none
  | some (ps, ρ1) => if ownOk X ρ1 own = false then none else match compL (bindT X tg) (evt X ts) (toPg (ev X e)) own ps ρ1 [] with
    | none => none
    | some (qs, ρ2) => some (.l qs, backE ρ1 ρ2 own)
theorem bindT_len {X : Cxt} : (∀ {tg : Tg} {p : P} {ρ ρ' : Env}, bindT X tg p ρ = some ρ' → ρ'.length = ρ.length) := by
  intro tg
  apply Tg.rec (motive_1 := fun tg => ∀ {p : P} {ρ ρ' : Env}, bindT X tg p ρ = some ρ' → ρ'.length = ρ.length) (motive_2 := fun ts => ∀ {ps : List P} {ρ ρ' : Env}, bindTs X ts ps ρ = some ρ' → ρ'.length = ρ.length)
  · intro i p ρ ρ' e
    unfold bindT sto at e
    split at e
    · cases e
    · cases e; exact List.length_set
  · intro ts ih p ρ ρ' e
    cases p with
    | tuple ps => unfold bindT at e; exact ih e
    | list ps => unfold bindT at e; exact ih e
    | _ => unfold bindT at e; cases e
  · intro ps ρ ρ' e
    cases ps with
    | nil => unfold bindTs at e; cases e; rfl
    | cons _ _ => unfold bindTs at e; cases e
  · intro t ts ih ih2 ps ρ ρ' e
    cases ps with
    | nil => unfold bindTs at e; cases e
    | cons p ps =>
      unfold bindTs at e
      split at e
      · rename_i ρ1 e1
        rw [ih2 e, ih e1]
      · cases e
theorem lc_chain {own : List Nat} {tg : Tg} {it : It} {ts : EL} {e0 : E} {σ : St} {H : Hp} {Q : VK} (hv : ∀ j ∈ tgVs tg, j ∈ own) :
    TEx X.K cx (compG cx own tg it ts e0) σ H Q → tLc (TIt X.K cx (evit cx it)) (TGt X.K cx tg) (TTt X.K cx (evt cx ts)) (TPx X.K cx (toPg (ev cx e0))) own σ H Q := fun ⟨Z, ρ, F, m, ρ', R, e, q⟩ => by
  unfold compG at e
  split at e
  · cases e
  · rename_i ps ρ1 e1
    split at e
    · cases e
    · rename_i ok
      have ok : ownOk cx ρ1 own = true := by simpa using ok
      split at e
      · cases e
      · rename_i qs0 ρ2 e2
        cases e
        refine ⟨Z, ρ, F, ps, ρ1, R, e1, fun Z1 H1 F1 J G g1 wk hold D hD => ?_⟩
        have hz1 : Z1 D = none := z_none g1.rel.sub hD
        have hu1 : ¬ U F1 D := fun hu => by
          obtain ⟨_, u, hu2, _⟩ := g1.rel.mem hu
          rw [hD] at hu2; cases hu2
        refine ⟨fun i m H2 => m + i = ps.length ∧ ∃ Z2 ρ3 F2 acc, Gs X.K cx σ Z1 H1 ρ1 F1 (wipe σ own) Z2 H2 (wipeE ρ3 own) F2 ∧ Acc X.K Z2 H2 F2 D acc ∧ ρ3.length = ρ1.length ∧ compL (bindT cx tg) (evt cx ts) (toPg (ev cx e0)) own (ps.drop i) ρ3 acc = some (qs0, ρ2), ⟨ps.length, rfl, ?_⟩, ?_⟩
        · obtain ⟨F2, g2, k2⟩ := (Gs.refl g1.rel : Gs X.K cx σ Z1 H1 ρ1 F1 σ Z1 H1 ρ1 F1).wipe ok
          have hu2 : ¬ U F2 D := fun h => hu1 (k2 D h)
          exact ⟨Z1, ρ1, F2, [], g2.side hD hu2 hz1, ⟨.l upd_same hz1 .nil, hu2⟩, rfl, e2⟩
        · rintro i m H2 ⟨hm, Z2, ρ3, F2, acc, g2, ac, hl3, e3⟩
          have hG := hold _ _ _ _ _ g2
          by_cases hlt : i < ps.length
          · refine .inr ⟨wk.goes i Z2 H2 hlt hG, fun H3 => m - 1 + (i + 1) = ps.length ∧ ∃ Z2 ρ3 F2 acc, Gs X.K cx σ Z1 H1 ρ1 F1 (wipe σ own) Z2 H3 (wipeE ρ3 own) F2 ∧ Acc X.K Z2 H3 F2 D acc ∧ ρ3.length = ρ1.length ∧ compL (bindT cx tg) (evt cx ts) (toPg (ev cx e0)) own (ps.drop (i + 1)) ρ3 acc = some (qs0, ρ2), fun H3 h => ⟨m - 1, by omega, h⟩, fun v H3 y3 => ?_⟩
            obtain ⟨Z3, p, al, hp3, rp⟩ := wk.yields i Z2 H2 v H3 hlt hG g2.rel.sub y3
            have hd : ps.drop i = p :: ps.drop (i + 1) := by
              rw [List.drop_eq_getElem_cons hlt]
              have : ps[i] = p := by rw [List.getElem?_eq_getElem hlt] at hp3; exact Option.some.inj hp3
              rw [this]
            rw [hd] at e3
            unfold compL at e3
            split at e3
            · cases e3
            · rename_i ρ4 e4
              have g3 := g2.alloc al
              have ac3 := ac.step ((Gs.refl g2.rel : Gs X.K cx _ _ _ _ _ _ _ _ _ _).alloc al)
              refine ⟨Z3, _, F2, p, ρ4, g3.rel, rp, e4, fun σ4 F4 g4 k4 => ⟨?_, ?_⟩⟩
              · have hlen : σ4.length = (wipe σ own).length := by rw [g4.rel.len, bindT_len e4, g3.rel.len]
                have h1 : wipe σ4 own = wipe (wipe σ own) own := wipe_eq hlen fun j hj => k4 j fun z => hj (hv j z)
                rw [h1]
                exact wipe_eq (by rw [wipe_length]) fun j hj => by rw [wipe_get, if_neg (fun z => hj z.1)]
              · have hw4 : wipe σ4 own = wipe σ own := by
                  have hlen : σ4.length = (wipe σ own).length := by rw [g4.rel.len, bindT_len e4, g3.rel.len]
                  have h1 : wipe σ4 own = wipe (wipe σ own) own := wipe_eq hlen fun j hj => k4 j fun z => hj (hv j z)
                  rw [h1]
                  exact wipe_eq (by rw [wipe_length]) fun j hj => by rw [wipe_get, if_neg (fun z => hj z.1)]
                have g5 := g3.trans g4
                have ac4 := ac3.step g4
                split at e3
                · cases e3
                · rename_i ρ5 e5
                  refine ⟨Z3, ρ4, F4, false, ρ5, g4.rel, e5, fun Z6 H6 F6 g6 => ?_⟩
                  dsimp only
                  rw [if_neg Bool.false_ne_true]
                  obtain ⟨F7, g7, k7⟩ := (g5.trans g6.gs).wipe ok
                  rw [hw4] at g7
                  have ac6 := ac4.step g6.gs
                  exact ⟨by omega, Z6, ρ5, F7, acc, g7, ⟨ac6.own, fun h => ac6.ap (k7 D h)⟩, by rw [g6.lk.len, bindT_len e4, wipeE_len, hl3], e3⟩
                · rename_i ρ5 e5
                  refine ⟨Z3, ρ4, F4, true, ρ5, g4.rel, e5, fun Z6 H6 F6 g6 => ?_⟩
                  dsimp only
                  rw [if_pos rfl]
                  split at e3
                  · cases e3
                  · rename_i q1 ρ6 e6
                    split at e3
                    · rename_i hlim
                      refine ⟨Z6, ρ5, F6, q1, ρ6, g6.rel, e6, fun Z7 H7 F7 v7 g7 rp7 => ?_⟩
                      have ac7 := (ac4.step g6.gs).step g7.gs
                      have g8 := (g5.trans g6.gs).trans g7.gs
                      obtain ⟨F9, g9, k9⟩ := g8.wipe ok
                      rw [hw4] at g9
                      have hu9 : ¬ U F9 D := fun h => ac7.ap (k9 D h)
                      obtain ⟨o7, n7⟩ := ac7
                      cases o7 with
                      | l h7 hz7 r7 =>
                        refine ⟨_, h7, ?_, by omega, Z7, ρ6, F9, acc ++ [q1], g9.side hD hu9 hz7, ⟨.l upd_same hz7 (r7.app (.one rp7)), hu9⟩, by rw [g7.lk.len, g6.lk.len, bindT_len e4, wipeE_len, hl3], e3⟩
                        rw [r7.length]
                        exact Nat.lt_of_lt_of_le hlim LIM_line
                    · cases e3
          · have ei : i = ps.length := by omega
            subst ei
            rw [List.drop_length] at e3
            unfold compL at e3
            cases e3
            refine .inl ⟨wk.stops Z2 H2 hG, ?_⟩
            have gb := g2.back g1.rel ok hl3
            refine q Z2 H2 F2 (.ref D) [D] (g1.trans gb) ⟨ac.own, fun a ha => by simp at ha; subst ha; exact ac.ap, fun a ha => by simp at ha; subst ha; exact new_back g1.st hD⟩
def lockX (it : It) (G : Ev1) : Ev1 := fun ρ => match lockE it ρ with
  | none => none
  | some (lk, ρ0) => match G ρ0 with
    | none => none
    | some (f, ρ2) => some (f, unlk lk ρ2)
theorem comp_eq {own : List Nat} {tg : Tg} {it : It} {ts : EL} {e : E} (ρ : Env) : ev cx (.comp own tg it ts e) ρ = lockX it (compG cx own tg it ts e) ρ := by
  simp only [ev, lockX, compG]
  cases lockE it ρ with
  | none => rfl
  | some w =>
    obtain ⟨lk, ρ0⟩ := w
    dsimp only
    cases evit cx it ρ0 with
    | none => rfl
    | some w =>
      obtain ⟨ps, ρ1⟩ := w
      dsimp only
      split
      · rfl
      · cases compL (bindT cx tg) (evt cx ts) (toPg (ev cx e)) own ps ρ1 [] with
        | none => rfl
        | some w =>
          obtain ⟨f, ρ2⟩ := w
          cases lk with
          | none => rfl
          | some im => rfl
/-- what the end of a lock is for an owned answer -/
theorem res_out {K : PySem.W.Frag} {X : Cxt} {σ σ1 : St} {Z H Z1 H1 : Hp} {ρ ρ1 : Env} {F F1 : Nat → List Addr} {j : Nat} {m m2 : M} {v w : V} {d : Addr} {u : HO} {od : Obj} {G : List Addr} (k4 : F1 j = [d]) (r : Res K Z (L2.upd H d (.frz od u)) (U F) Z1 H1 F1 m2 w G) : Res K Z H (U F) Z1 (L2.upd H1 d u) F1 m2 w G := by
  refine ⟨?_, r.ap, fun a ha => ?_⟩
  · refine r.own.keep (Sub.rfl' _) (fun a ha o ho => ?_) fun a ha => (r.own.at_ a ha).1
    have : a ≠ d := fun z => r.ap a ha ⟨j, by rw [k4, z]; simp⟩
    rw [upd_ne this]; exact ho
  · rcases r.nw a ha with h | h
    · exact .inl h
    · by_cases z : a = d
      · subst z; rw [upd_same] at h; cases h
      · rw [upd_ne z] at h; exact .inr h
theorem Gs.go {K : PySem.W.Frag} {X : Cxt} {σ : St} {Z H Z1 H1 : Hp} {ρ ρ1 : Env} {F F1 : Nat → List Addr} (g : Gs K X σ Z H ρ F σ Z1 H1 ρ1 F1) : Go K X σ Z H ρ F Z1 H1 ρ1 F1 := ⟨g.rel, g.st, g.lk⟩
theorem pe_lk {it : It} {G : Ev1} (h : PE X x (TEx X.K cx G)) : PE X x (TEx X.K cx (lockX it G)) := ⟨fun pins s σ H Q J ⟨Z, ρ, F, m0, ρ', R, e, q⟩ => by
  unfold lockX at e
  split at e
  · cases e
  · rename_i lk ρ0 e1
    split at e
    · cases e
    · rename_i f2 ρ2 e2
      cases e
      rcases lockE_cases e1 with ⟨rfl, rfl⟩ | ⟨j, m, rfl, hj, rfl, hm⟩
      · exact h.run pins s σ H Q J ⟨Z, _, F, m0, ρ2, R, e2, q⟩
      · have dk : ∀ v d u, σ[j]? = some (some v) → Lkb X.K Z H m v (F j) d u → isLk (some m) = false → wpAny (model X.prog X.w) X.A (eval x X.env) (EP X pins σ Q) X.xe s := by
          intro v d u hs L nk
          refine (pe_lock h).run pins s σ H Q J ⟨d, u, L.at_, L.mu, fun od => ⟨Z, _, F, m0, ρ2, lock_in R hj hs L od, e2, fun Z' H' F' w G g r => ?_⟩⟩
          obtain ⟨k1, k2, k3, k4⟩ := lock_out hj nk hs L g.gs
          exact ⟨k1, q _ _ _ w G k2.go (res_out (X := cx) (σ := σ) (σ1 := σ) (ρ := ρ) (ρ1 := ρ) (m := m) (v := v) k4 r)⟩
        rcases hm with ⟨ps, rfl⟩ | ⟨kvs, rfl⟩ | ⟨kvs, rfl⟩
        · exact h.run pins s σ H Q J ⟨Z, _, F, m0, ρ2, list_in R hj, e2, fun Z' H' F' w G g r => q Z' H' F' w G (list_out hj g.gs).go r⟩
        · obtain ⟨v, h1, h2⟩ := R.own j _ hj
          obtain ⟨d, u, L⟩ := lkb_d h2
          exact dk v d u h1 L rfl
        · obtain ⟨v, h1, h2⟩ := R.own j _ hj
          obtain ⟨d, u, L⟩ := lkb_t h2
          exact dk v d u h1 L rfl⟩
theorem TEx.eq {G G' : Ev1} (h : ∀ ρ, G' ρ = G ρ) (p : PE X x (TEx X.K cx G)) : PE X x (TEx X.K cx G') := by
  have : G' = G := funext h
  rw [this]; exact p
theorem Good.blk (g : Good T k cx X) (s : Shared) (H : Hp) (scope : Scope) (C : Addr) (cl : List (Str × Addr)) (fp : List Addr) : Good T k cx (X.blk s H scope (compEnvC scope cl C X.env) fp) :=
  ⟨g.calm, g.nd, g.room, g.fns, g.free, g.gs, rfl, ⟨g.at_.P, g.at_.w⟩⟩
/-- a comprehension as a value -/
theorem snd_comp {own : List Nat} {ownN : List (Str × Nat)} {tg : Tg} {it : It} {ts : EL} {e0 : E} {ifs : List Expr} {scope : Scope} (g : Good T k cx X) (hi : PI X x y (TIt X.K cx (evit cx it))) (ok : BlkOk X.N X.env.scope scope ownN) (ho : own = ownN.map (·.2)) (hv : ∀ j ∈ tgVs tg, j ∈ own)
    (hg : ∀ X' : Cx, Good T k cx X' → X'.N = X.N → X'.K = X.K → X'.env.scope = relS scope X.env.scope → PG X' x (TGt X'.K cx tg)) (ht : ∀ X' : Cx, Good T k cx X' → X'.N = X.N → X'.K = X.K → X'.env.scope = relS scope X.env.scope → PTs X' ifs (TTt X'.K cx (evt cx ts)))
    (he : ∀ X' : Cx, Good T k cx X' → X'.N = X.N → X'.K = X.K → X'.env.scope = relS scope X.env.scope → PE X' z (TEx X'.K cx (ev cx e0))) (hn : notSet y = true) :
    PE X (.ListComp z [⟨x, y, ifs, 0⟩] scope pos) (TEx X.K cx (ev cx (.comp own tg it ts e0))) := by
  subst ho
  refine TEx.eq comp_eq (pe_lk (PE.mono (pe_lc (g := TGt X.K cx tg) (tt := TTt X.K cx (evt cx ts)) (te := TPx X.K cx (toPg (ev cx e0))) g.calm g.nd hi ok (fun s H C cl fp => hg _ (g.blk s H scope C cl fp) rfl rfl rfl) (fun s H C cl fp => ht _ (g.blk s H scope C cl fp) rfl rfl rfl) (fun s H C cl fp => px_of (he _ (g.blk s H scope C cl fp) rfl rfl rfl)) (folded_of hn)) fun σ H Q h => lc_chain hv h))
def asgG (X : Cxt) (i : Nat) (G : Ev1) : EvS := fun ρ => match G ρ with
  | some (m, ρ1) => match sto X i m ρ1 with
    | some ρ2 => some (.nx, ρ2)
    | none => none
  | none => none
theorem asg_lk {it : It} {G : Ev1} {t : TE} {i : Nat} (h : PS X st (tAsg t (gName i))) (ht : ∀ σ H Q, TEx X.K cx G σ H Q → t σ H Q) : PS X st (TSt X.K cx (asgG cx i (lockX it G))) := ⟨fun pins s σ H D J ⟨Z, ρ, F, f, ρ', R, e, q⟩ => by
  unfold asgG at e
  split at e
  · rename_i m0 ρ3 e0
    split at e
    · rename_i ρ4 e4
      cases e
      unfold lockX at e0
      split at e0
      · cases e0
      · rename_i lk ρ0 e1
        split at e0
        · cases e0
        · rename_i f2 ρ2 e2
          cases e0
          rcases lockE_cases e1 with ⟨rfl, rfl⟩ | ⟨j, m, rfl, hj, rfl, hm⟩
          · exact h.run pins s σ H D J (ht _ _ _ ⟨Z, _, F, m0, ρ2, R, e2, fun Z' H' F' v G g r => q _ _ _ _ (sto_gs g.gs r e4)⟩)
          · have dk : ∀ v d u, σ[j]? = some (some v) → Lkb X.K Z H m v (F j) d u → isLk (some m) = false → wpAny (model X.prog X.w) X.A (exec st X.env) (SP X pins D) X.xe s := by
              intro v d u hs L nk
              refine (ps_lock h).run pins s σ H D J ⟨d, u, L.at_, L.mu, fun od => ht _ _ _ ⟨Z, _, F, m0, ρ2, lock_in R hj hs L od, e2, fun Z' H' F' w G g r => ?_⟩⟩
              obtain ⟨k1, k2, k3, k4⟩ := lock_out hj nk hs L g.gs
              exact ⟨k1, q _ _ _ _ (sto_gs k2 (res_out (X := cx) (σ := σ) (σ1 := σ) (ρ := ρ) (ρ1 := ρ) (m := m) (v := v) k4 r) e4)⟩
            rcases hm with ⟨ps, rfl⟩ | ⟨kvs, rfl⟩ | ⟨kvs, rfl⟩
            · exact h.run pins s σ H D J (ht _ _ _ ⟨Z, _, F, m0, ρ2, list_in R hj, e2, fun Z' H' F' w G g r => q _ _ _ _ (sto_gs (list_out hj g.gs) r e4)⟩)
            · obtain ⟨v, h1, h2⟩ := R.own j _ hj
              obtain ⟨d, u, L⟩ := lkb_d h2
              exact dk v d u h1 L rfl
            · obtain ⟨v, h1, h2⟩ := R.own j _ hj
              obtain ⟨d, u, L⟩ := lkb_t h2
              exact dk v d u h1 L rfl
    · cases e
  · cases e⟩
theorem asg_eq {i : Nat} {e : E} (ρ : Env) : evs cx (.asg (.nm i) e) ρ = asgG cx i (ev cx e) ρ := by
  simp only [evs, asgG]
  cases ev cx e ρ with
  | none => rfl
  | some w =>
    obtain ⟨m, ρ1⟩ := w
    dsimp only
    cases sto cx i m ρ1 <;> rfl
theorem lockX_no (G : Ev1) (ρ : Env) : lockX (.rg .nil) G ρ = G ρ := by
  unfold lockX lockE
  dsimp only
  cases G ρ with
  | none => rfl
  | some w => rfl
def notComp : Expr → Bool
  | .ListComp _ _ _ _ => false
  | .SetComp _ _ _ _ => false
  | .DictComp _ _ _ _ _ => false
  | _ => true
theorem swaps_of {o : Option Expr} {l : Nat} {env : PySem.Env} (h : notComp x = true) : swapsWith x o l env = pure false := by
  cases x <;> first | rfl | cases h
theorem sw_false {elt : Expr} {gs : List Comprehension} {scope : Scope} {py : Pos} {n : Str} {l : Nat} {env : PySem.Env} (h : (env.scope.names.lookup n == some .local) = false) : swapsWith (.ListComp elt gs scope pos) (some (.Name n py)) l env = pure false := by
  have ky : (env.kindOf n == some .local) = false := h
  unfold swapsWith
  simp only [ky, Bool.and_false, Bool.false_and]
theorem snd_set {i : Nat} {e : E} {n : Str} (g : Good T k cx X) (h : LocG X i n) (hx : PE X x (TEx X.K cx (ev cx e))) (hc : swapsWith x (some (.Name n p2)) pos.line X.env = pure false) : PS X (.Assign [.Name n p2] x pos) (TSt X.K cx (evs cx (.asg (.nm i) e))) := by
  have h1 := asg_lk (cx := cx) (it := .rg .nil) (ps_set (pos := pos) (pos' := p2) g.nd h.ix h.lc hx hc h.fn) (fun _ _ _ q => q)
  refine TSt.eq (fun ρ => ?_) h1
  rw [asg_eq]
  unfold asgG
  rw [lockX_no]
theorem snd_setLc {own : List Nat} {ownN : List (Str × Nat)} {tg : Tg} {it : It} {ts : EL} {e0 : E} {ifs : List Expr} {scope : Scope} {i : Nat} {n : Str} (g : Good T k cx X) (hloc : locB X.N X.env.scope i n = true) (hi : PI X x y (TIt X.K cx (evit cx it))) (ok : BlkOk X.N X.env.scope scope ownN) (ho : own = ownN.map (·.2)) (hv : ∀ j ∈ tgVs tg, j ∈ own)
    (hg : ∀ X' : Cx, Good T k cx X' → X'.N = X.N → X'.K = X.K → X'.env.scope = relS scope X.env.scope → PG X' x (TGt X'.K cx tg)) (ht : ∀ X' : Cx, Good T k cx X' → X'.N = X.N → X'.K = X.K → X'.env.scope = relS scope X.env.scope → PTs X' ifs (TTt X'.K cx (evt cx ts)))
    (he : ∀ X' : Cx, Good T k cx X' → X'.N = X.N → X'.K = X.K → X'.env.scope = relS scope X.env.scope → PE X' z (TEx X'.K cx (ev cx e0))) (hn : notSet y = true)
    (hk : X.env.scope.kind = .function) (hl : (p2.line == p3.line) = true) (ha : (scope.names.any fun (n', k) => n' == n && (k == .local || k == .cell)) = false) :
    PS X (.Assign [.Name n p2] (.ListComp z [⟨x, y, ifs, 0⟩] scope p3) pos) (TSt X.K cx (evs cx (.asg (.nm i) (.comp own tg it ts e0)))) := by
  subst ho
  unfold locB at hloc
  rw [Bool.and_eq_true, decide_eq_true_eq, decide_eq_true_eq] at hloc
  have h1 := ps_setLc (g := TGt X.K cx tg) (tt := TTt X.K cx (evt cx ts)) (te := TPx X.K cx (toPg (ev cx e0))) (spos := pos) g.calm g.nd hloc.1 hloc.2 (sw_true (l := pos.line) hk hloc.2 hl ha) hi ok (fun s H C cl fp => hg _ (g.blk s H scope C cl fp) rfl rfl rfl) (fun s H C cl fp => ht _ (g.blk s H scope C cl fp) rfl rfl rfl) (fun s H C cl fp => px_of (he _ (g.blk s H scope C cl fp) rfl rfl rfl)) (folded_of hn)
  refine TSt.eq (fun ρ => ?_) (asg_lk (cx := cx) (it := it) (G := compG cx (ownN.map (·.2)) tg it ts e0) h1 fun σ H Q h => lc_chain hv h)
  rw [asg_eq]
  unfold asgG
  rw [comp_eq]
end
end Mn
end
section
set_option maxHeartbeats 200000
namespace Mn
open PySem L2 PySem.Spec
variable [WW]
section
variable {K : PySem.W.Frag} {X : Cxt} {σ σ1 σ2 : St} {Z H Z1 H1 Z2 H2 : Hp} {ρ ρ1 ρ2 : Env} {F F1 F2 : Nat → List Addr} {i : Nat} {m m' : M} {v : V}
/-- a variable's thing is written -/
theorem Go.mut {a : Addr} {u u' : HO} {G : List Addr} (g : Go K X σ Z H ρ F Z1 H1 ρ1 F1) (e : slot ρ1 i = some m) (nk : isLk (some m) = false) (hs : σ[i]? = some (some v)) (ha : a ∈ F1 i) (hu : H1 a = some u) (nf : ∀ o' w, u ≠ .frz o' w)
    (o : Own K Z1 (L2.upd H1 a u') m' v G) (d : ∀ x ∈ G, x ∈ F1 i ∨ H1 x = none) : Go K X σ Z H ρ F Z1 (L2.upd H1 a u') (ρ1.set i (some m')) (fset F1 i G) := by
  have za : Z1 a = none := (g.rel.mem ⟨i, ha⟩).1
  have s : Sub Z1 (L2.upd H1 a u') := fun b w h => by
    have : b ≠ a := fun q => by subst q; rw [za] at h; cases h
    rw [upd_ne this]; exact g.rel.sub b w h
  have st : Step Z1 H1 Z1 (L2.upd H1 a u') (· ∈ F1 i) (· ∈ F1 i) := ⟨fun b w h n => by
    have : b ≠ a := fun q => n (q ▸ ha)
    rw [upd_ne this]; exact h, Sub.rfl' _, fun _ _ h => .inl h, fun _ h => .inl h, fun b o' w h => by
    by_cases q : b = a
    · subst q; rw [hu] at h; cases h; exact (nf _ _ rfl).elim
    · rw [upd_ne q]; exact h⟩
  obtain ⟨k1, k2⟩ := g.rel.upd (m := m') e st s hs o d
  exact ⟨k1, g.st.trans k2, g.lk.trans (lk_set e nk)⟩
end
section
variable {T : Tab} {k : Nat} {cx : Cxt} {X : Cx} {x y z : Expr} {st : Stmt} {pos p2 p3 apos tpos : Pos}
def notTupE : Expr → Bool
  | .Tuple _ _ _ => false
  | _ => true
theorem swapped_none {xs : List Expr} {j : Nat} {env : PySem.Env} (h : notTupE x = true) : swappedStores [.Tuple xs j p2] x env = pure none := by
  cases x <;> first | rfl | cases h
theorem snd_asgT {ts : List Tg} {e : E} {xs : List Expr} {j : Nat} (g : Good T k cx X) (hx : PE X x (TEx X.K cx (ev cx e))) (ht : PG X (.Tuple xs j p2) (TGt X.K cx (.tp ts))) (hc : notComp x = true) (hn : notTupE x = true) : PS X (.Assign [.Tuple xs j p2] x pos) (TSt X.K cx (evs cx (.asg (.tp ts) e))) :=
  PS.mono (ps_asg hx ht (by
    have h := swaps_of (x := x) (o := some (Expr.Tuple xs j p2)) (l := pos.line) (env := X.env) hc
    rw [← h]; rfl) (swapped_none hn) (by rw [assignEach_cons rfl]; rfl)) fun D σ H ⟨Z, ρ, F, f, ρ', R, e, q⟩ => by
    simp only [evs] at e
    split at e
    · rename_i m ρ1 e1
      split at e
      · rename_i h1; cases h1
      · rename_i p h2
        obtain ⟨ρ2, e2, e3⟩ := Option.map_eq_some_iff.mp e
        cases e3
        refine ⟨Z, ρ, F, _, ρ1, R, e1, fun Z1 H1 F1 v G g1 r => ?_⟩
        obtain ⟨ow, ap, nw⟩ := r
        cases ow with
        | v rp => exact ⟨Z1, ρ1, F1, p, _, g1.rel, rp, e2, fun σ2 F2 g2 _ => q σ2 Z1 H1 F2 (g1.gs.trans g2)⟩
      · cases e
    · cases e
theorem tps_tup {es : EL} {xs : List Expr} {j : Nat} (h : PA X xs (TPs X.K cx (evp cx es))) (hl : elLen es ≤ 1000) : PE X (.Tuple xs j pos) (fun σ H Q => ∃ Z ρ F ps ρ', Rel X.K Z H σ ρ F ∧ evp cx es ρ = some (ps, ρ') ∧ ∀ Z' H' F' vs p, Go X.K cx σ Z H ρ F Z' H' ρ' F' → RepL X.K Z' vs ps → Z' p = some (.tup vs) → Q (.ref p) H') :=
  PE.mono (pe_tup h) fun σ H Q ⟨Z, ρ, F, ps, ρ', R, e, q⟩ => ⟨Z, ρ, F, ps, ρ', R, e, fun Z1 H1 F1 vs g1 r1 => ⟨by rw [r1.length, evp_len e]; exact lim_le (Nat.le_trans hl (by decide)), fun p hp => by
    have zz : Sub Z1 (L2.upd Z1 p (.tup vs)) := sub_upd (z_none g1.rel.sub hp)
    exact q _ _ F1 vs p (g1.alloc (.imm g1.rel.sub hp)) (r1.sub zz) upd_same⟩⟩
theorem lst_case {K : PySem.W.Frag} {Z H : Hp} {ps : List P} {v : V} {G : List Addr} (o : Own K Z H (.l ps) v G) : ∃ a vs, v = .ref a ∧ G = [a] ∧ H a = some (.lst vs) ∧ Z a = none ∧ RepL K Z vs ps := by
  cases o with
  | l h hz r => exact ⟨_, _, rfl, rfl, h, hz, r⟩
theorem dic_case {K : PySem.W.Frag} {Z H : Hp} {ps : List (Key × P)} {v : V} {G : List Addr} (o : Own K Z H (.d ps) v G) : ∃ a vs, v = .ref a ∧ G = [a] ∧ H a = some (.dK vs) ∧ Z a = none ∧ DRel K Z vs ps := by
  cases o with
  | d h hz r => exact ⟨_, _, rfl, rfl, h, hz, r⟩
theorem dict_case {K : PySem.W.Frag} {Z H : Hp} {ps : List (List Key × P)} {v : V} {G : List Addr} (o : Own K Z H (.t ps) v G) : ∃ a vs, v = .ref a ∧ G = [a] ∧ H a = some (.dT vs) ∧ Z a = none ∧ TRel K Z vs ps := by
  cases o with
  | t h hz r => exact ⟨_, _, rfl, rfl, h, hz, r⟩
theorem nst_case {K : PySem.W.Frag} {Z H : Hp} {ps : List (Key × M)} {v : V} {G : List Addr} (o : Own K Z H (.n ps) v G) : ∃ a vs G1, v = .ref a ∧ G = a :: G1 ∧ H a = some (.dK vs) ∧ Z a = none ∧ OwnN K Z H ps vs G1 ∧ a ∉ G1 := by
  cases o with
  | n h hz r q => exact ⟨_, _, _, rfl, rfl, h, hz, r, q⟩
theorem valV_getA {K : PySem.W.Frag} {Z H : Hp} {ms : List (Key × M)} {vs : List (Key × V)} {G : List Addr} (r : OwnN K Z H ms vs G) : vs.length = ms.length := by
  suffices ∀ {ms : List (Key × M)} {vs : List (Key × V)} {G : List Addr}, OwnN K Z H ms vs G → vs.length = ms.length from this r
  intro ms
  induction ms with
  | nil => intro vs G r; cases r; rfl
  | cons m ms ih =>
    intro vs G r
    cases r with
    | cons _ _ _ r _ => rw [List.length_cons, List.length_cons, ih r]
theorem tRel_len {K : PySem.W.Frag} {Z : Hp} {vs : List (List Key × V)} {ps : List (List Key × P)} (r : TRel K Z vs ps) : vs.length = ps.length := Paired.length r
omit [WW] in
theorem putA_none {α : Type} {kvs : List (Key × α)} {k : Key} {x : α} (h : getA kvs k = none) : putA kvs k x = kvs ++ [(k, x)] := by
  unfold putA
  rw [if_neg]
  intro q
  obtain ⟨kv, h1, h2⟩ := List.any_eq_true.mp q
  unfold getA at h
  rw [Option.map_eq_none_iff, List.find?_eq_none] at h
  exact h kv h1 h2
theorem putK_none {kvs : List (Key × V)} {k : Key} {x : V} (h : valV kvs k = none) : putK kvs k x = kvs ++ [(k, x)] := by
  unfold putK
  rw [if_neg]
  rw [valV_any, h]
  exact Bool.false_ne_true
/-- what a put into a thing does -/
theorem putM_ok {K : PySem.W.Frag} {X : Cxt} {σ : St} {Z H Z1 H1 : Hp} {ρ ρ1 : Env} {F F1 : Nat → List Addr} {i : Nat} {c c2 : M} {p xv : P} {ov yv w : V} (g : Go K X σ Z H ρ F Z1 H1 ρ1 F1) (e : slot ρ1 i = some c) (hs : σ[i]? = some (some ov)) (hp : Rep K Z1 yv p) (hx : Rep K Z1 w xv) (e5 : putM c p xv = some c2) :
    (∃ a vs n j, c = .l vs ∧ ov = .ref a ∧ yv = .int n ∧ ∃ ws, H1 a = some (.lst ws) ∧ ixN ws.length n = some j ∧ ∃ F2, Go K X σ Z H ρ F Z1 (L2.upd H1 a (.lst (ws.set j w))) (ρ1.set i (some c2)) F2) ∨
    ((∀ vs, c ≠ .l vs) ∧ ∃ a H2, ov = .ref a ∧ DPut H1 a yv w H2 ∧ ∃ F2, Go K X σ Z H ρ F Z1 H2 (ρ1.set i (some c2)) F2) := by
  obtain ⟨ov2, h1, h2⟩ := g.rel.own i c e
  rw [hs] at h1; cases h1
  generalize hG : F1 i = G at h2
  unfold putM at e5
  split at e5
  · rename_i ps
    split at e5
    · rename_i n
      obtain ⟨j, hj, e6⟩ := Option.map_eq_some_iff.mp e5
      subst e6
      obtain ⟨a, vs, rfl, hG2, h, hz, r⟩ := lst_case h2
      subst hG2
      cases hp
      refine .inl ⟨a, ps, n, j, rfl, rfl, rfl, vs, h, by rw [r.length]; exact hj, _, g.mut (u := .lst vs) e rfl hs (by rw [hG]; simp) h (fun _ _ z => by cases z) (.l upd_same hz (r.set hx j)) (fun x hx => .inl (by rw [hG]; exact hx))⟩
    · cases e5
  · rename_i kvs
    refine .inr ⟨(fun vs z => by cases z), ?_⟩
    split at e5
    · rename_i k ek
      split at e5
      · rename_i hl
        cases e5
        obtain ⟨a, vs, rfl, hG2, h, hz, r⟩ := dic_case h2
        subst hG2
        obtain ⟨rfl, ko, _⟩ := keyOf_v ek hp
        exact ⟨a, _, rfl, DPut.k h (by rw [dRel_len r]; exact Nat.lt_of_lt_of_le hl LIM_line), _, g.mut (u := .dK vs) e rfl hs (by rw [hG]; simp) h (fun _ _ z => by cases z) (.d upd_same hz (dRel_put r ko hx)) (fun x hx => .inl (by rw [hG]; exact hx))⟩
      · cases e5
    · cases e5
  · rename_i kvs
    refine .inr ⟨(fun vs z => by cases z), ?_⟩
    split at e5
    · rename_i k ek
      obtain ⟨a, vs, G1, rfl, hG2, h, hz, r, na⟩ := nst_case h2
      subst hG2
      obtain ⟨rfl, ko, _⟩ := keyOf_v ek hp
      have gv := ownN_get k r
      have st : Step Z1 H1 Z1 (L2.upd H1 a (.dK (putK vs k w))) (fun b => b = a) (fun b => b = a) := ⟨fun b u hb n => by rw [upd_ne n]; exact hb, Sub.rfl' _, fun _ _ h => .inl h, fun _ h => .inl h, fun b o' u hb => by
        by_cases q : b = a
        · subst q; rw [h] at hb; cases hb
        · rw [upd_ne q]; exact hb⟩
      have sb : Sub Z1 (L2.upd H1 a (.dK (putK vs k w))) := fun b u hb => by
        have : b ≠ a := fun q => by subst q; rw [hz] at hb; cases hb
        rw [upd_ne this]; exact g.rel.sub b u hb
      obtain ⟨r2, _⟩ := r.step (A := fun b => b = a) (A' := fun b => b = a) (fun b hb q => na (q ▸ hb)) st sb
      split at e5
      · rename_i q0 ek2
        have hl : kvs.length < LIM := by
          by_cases hl : kvs.length < LIM
          · exact hl
          · rw [if_neg hl] at e5; cases e5
        rw [if_pos hl] at e5
        cases e5
        have hl : vs.length < sizeLine := by rw [valV_getA r]; exact Nat.lt_of_lt_of_le hl LIM_line
        obtain ⟨v0, Gk, k1, k2, k3, k4⟩ := ownN_upd (A' := fun b => b ∈ ([] : List Addr)) k r2 ek2
        have hgk : Gk = [] := by cases k2; rfl
        subst hgk
        obtain ⟨G3, r3, k5⟩ := k4 (Step.refl _) sb (.v hx) (fun _ h => by cases h)
        exact ⟨a, _, rfl, DPut.k h hl, _, g.mut (u := .dK vs) e rfl hs (by rw [hG]; simp) h (fun _ _ z => by cases z) (.n upd_same hz r3 (fun hb => by
          rcases k5 a hb with z | z
          · exact na z
          · cases z)) (fun x hx => by
          rcases List.mem_cons.mp hx with z | z
          · subst z; exact .inl (by rw [hG]; simp)
          · rcases k5 x z with z | z
            · exact .inl (by rw [hG]; simp [z])
            · cases z)⟩
      · rename_i ek2
        split at e5
        · rename_i hl
          cases e5
          rw [ek2] at gv
          obtain ⟨G3, r3, k5⟩ := ownN_new (G := G1) r2 ko ek2 (.v hx) (fun _ h => by cases h)
          refine ⟨a, _, rfl, DPut.k h (by rw [valV_getA r]; exact Nat.lt_of_lt_of_le hl LIM_line), _, g.mut (u := .dK vs) e rfl hs (by rw [hG]; simp) h (fun _ _ z => by cases z) (by
            rw [putA_none ek2]
            refine .n (vs := vs ++ [(k, w)]) ?_ hz ?_ (fun hb => by
              rcases k5 a hb with z | z
              · exact na z
              · cases z)
            · rw [upd_same, putK_none gv]
            · exact r3) (fun x hx => by
            rcases List.mem_cons.mp hx with z | z
            · subst z; exact .inl (by rw [hG]; simp)
            · rcases k5 x z with z | z
              · exact .inl (by rw [hG]; simp [z])
              · cases z)⟩
        · cases e5
      · cases e5
    · cases e5
  · cases e5

theorem swaps_sub {o i : Expr} {l : Nat} {env : PySem.Env} : swapsWith x (some (.Subscript o i p2)) l env = pure false := by
  cases x <;> rfl
theorem some_of {ρ : Env} {i : Nat} {b : Bool} (h : ¬ (slot ρ i).isSome = false) : ∃ m, slot ρ i = some m := by
  cases e : slot ρ i with
  | none => rw [e] at h; exact (h rfl).elim
  | some m => exact ⟨m, rfl⟩
theorem snd_sto {i : Nat} {kx e : E} (g : Good T k cx X) (ho : PE X x (tVar i)) (hk : PE X y (TEx X.K cx (ev cx kx))) (he : PE X z (TEx X.K cx (ev cx e))) (hnt : notTupE z = true) (hns : notSlice y = true) :
    PS X (.Assign [.Subscript x y p2] z pos) (TSt X.K cx (evs cx (.sto i kx e))) := ⟨fun pins s σ H D J ⟨Z, ρ, F, f, ρ', R, e0, q⟩ => by
  simp only [evs] at e0
  split at e0
  · cases e0
  rename_i hsome
  obtain ⟨m0, em0⟩ := some_of (b := true) hsome
  obtain ⟨ov, hs, _⟩ := R.own i m0 em0
  split at e0
  · rename_i m ρ1 e1
    split at e0
    · rename_i xv e2
      split at e0
      · rename_i p ρ2 e3
        split at e0
        · rename_i c e4
          split at e0
          · rename_i c2 e5
            cases e0
            have hp1 : toPg (ev cx e) ρ = some (xv, ρ1) := by unfold toPg; rw [e1]; simp only [e2]
            have fin : ∀ {Z1 H1 : Hp} {F1 : Nat → List Addr} {w : V} {Z2 H2 : Hp} {F2 : Nat → List Addr} {v2 : V} {G2 : List Addr}, Go X.K cx σ Z H ρ F Z1 H1 ρ1 F1 → Rep X.K Z1 w xv → Go X.K cx σ Z1 H1 ρ1 F1 Z2 H2 ρ2 F2 → Res X.K Z1 H1 (U F1) Z2 H2 F2 (.v p) v2 G2 →
                (∃ a vs n j, c = .l vs ∧ ov = .ref a ∧ v2 = .int n ∧ ∃ ws, H2 a = some (.lst ws) ∧ ixN ws.length n = some j ∧ D.nx σ (L2.upd H2 a (.lst (ws.set j w)))) ∨ ((∀ vs, c ≠ .l vs) ∧ ∃ a H3, ov = .ref a ∧ DPut H2 a v2 w H3 ∧ D.nx σ H3) := by
              intro Z1 H1 F1 w Z2 H2 F2 v2 G2 g1 rw1 g2 r2
              obtain ⟨ow, _, _⟩ := r2
              cases ow with
              | v rp =>
                rcases putM_ok (g1.trans g2) e4 hs rp (rw1.sub g2.st.zz) e5 with ⟨a, vs, n, j, k1, k2, k3, ws, k4, k5, F3, k6⟩ | ⟨k1, a, H3, k2, k3, F3, k4⟩
                · exact .inl ⟨a, vs, n, j, k1, k2, k3, ws, k4, k5, q _ _ _ _ k6.gs⟩
                · exact .inr ⟨k1, a, H3, k2, k3, q _ _ _ _ k4.gs⟩
            by_cases hl : ∃ vs, c = .l vs
            · obtain ⟨vs, hl⟩ := hl
              have hsw : swapsWithSole [.Subscript x y p2] z pos.line X.env = pure false := by
                have h := swaps_sub (x := z) (o := x) (i := y) (p2 := p2) (l := pos.line) (env := X.env)
                rw [← h]; rfl
              have hsp : swappedStores [.Subscript x y p2] z X.env = pure none := by cases z <;> first | rfl | cases hnt
              have hpg : PG X (.Subscript x y p2) (gSub (tVar i) (TEx X.K cx (ev cx kx)) rSetL) := pg_sub ho hk set_list (fun v => by
                cases y <;> first | rfl | cases hns)
              refine (ps_asg (px_of he) hpg hsw hsp (by rw [assignEach_cons rfl]; rfl)).run pins s σ H D J ⟨Z, ρ, F, xv, ρ1, R, hp1, fun Z1 H1 F1 w g1 rw1 => ⟨ov, hs, Z1, ρ1, F1, .v p, _, g1.rel, e3, fun Z2 H2 F2 v2 G2 g2 r2 => ?_⟩⟩
              rcases fin g1 rw1 g2 r2 with ⟨a, vs, n, j, k1, k2, k3, ws, k4, k5, k6⟩ | ⟨k1, _⟩
              · exact ⟨a, ws, n, j, k2, k3, k4, k5, k6⟩
              · exact (k1 vs hl).elim
            · refine (ps_dput (pos := pos) (pos' := p2) (by have := g.room.units; omega) ho hk (px_of he) swaps_sub).run pins s σ H D J ⟨Z, ρ, F, xv, ρ1, R, hp1, fun Z1 H1 F1 w g1 rw1 => ⟨ov, hs, Z1, ρ1, F1, .v p, _, g1.rel, e3, fun Z2 H2 F2 v2 G2 g2 r2 => ?_⟩⟩
              rcases fin g1 rw1 g2 r2 with ⟨a, vs, n, j, k1, _⟩ | ⟨k1, a, H3, k2, k3, k4⟩
              · exact (hl ⟨_, k1⟩).elim
              · exact ⟨a, H3, k2, k3, k4⟩
          · cases e0
        · cases e0
      · cases e0
    · cases e0
  · cases e0⟩
theorem snd_stt {i : Nat} {ks : EL} {e : E} {ys : List Expr} {j : Nat} (g : Good T k cx X) (ho : PE X x (tVar i)) (hk : PA X ys (TPs X.K cx (evp cx ks))) (he : PE X z (TEx X.K cx (ev cx e))) (hl : elLen ks ≤ 1000) :
    PS X (.Assign [.Subscript x (.Tuple ys j p3) p2] z pos) (TSt X.K cx (evs cx (.stt i ks e))) := PS.mono (ps_dput (pos' := p2) (by have := g.room.units; omega) ho (tps_tup hk hl) (px_of he) swaps_sub) fun D σ H ⟨Z, ρ, F, f, ρ', R, e0, q⟩ => by
  simp only [evs] at e0
  split at e0
  · cases e0
  rename_i hsome
  obtain ⟨m0, em0⟩ := some_of (b := true) hsome
  obtain ⟨ov, hs, _⟩ := R.own i m0 em0
  split at e0
  · rename_i m ρ1 e1
    split at e0
    · rename_i xv e2
      split at e0
      · rename_i ps ρ2 e3
        split at e0
        · rename_i kvs kk e4 e5
          split at e0
          · rename_i hlim
            cases e0
            refine ⟨Z, ρ, F, xv, ρ1, R, by unfold toPg; rw [e1]; simp only [e2], fun Z1 H1 F1 w g1 rw1 => ⟨ov, hs, Z1, ρ1, F1, ps, _, g1.rel, e3, fun Z2 H2 F2 vs b g2 rl hb => ?_⟩⟩
            obtain ⟨rfl, ko, _⟩ := keysAll_v e5 rl
            have gg := g1.trans g2
            obtain ⟨ov2, h1, h2⟩ := gg.rel.own i _ e4
            rw [hs] at h1; cases h1
            generalize hG : F2 i = G at h2
            obtain ⟨a, vs2, rfl, hG2, h, hz, r⟩ := dict_case h2
            subst hG2
            exact ⟨a, _, rfl, DPut.t h (gg.rel.sub _ _ hb) (by rw [tRel_len r]; exact Nat.lt_of_lt_of_le hlim LIM_line), q _ _ _ _ (gg.mut (u := .dT vs2) e4 rfl hs (by rw [hG]; simp) h (fun _ _ z => by cases z) (.t upd_same hz (tRel_put r ko (rw1.sub g2.st.zz))) (fun x hx => .inl (by rw [hG]; exact hx))).gs⟩
          · cases e0
        · cases e0
      · cases e0
    · cases e0
  · cases e0
def sNPut (td ty tv : TE) : TS := fun D σ H => tv σ H fun v H1 => td σ H1 fun x H2 => ty σ H2 fun y H3 => ∃ (a : Addr) (vs : List (Option Key × V)) (k : Option Key), x = .ref a ∧ H3 a = some (NoneO a vs) ∧ vs.length < sizeLine ∧ y = nkV k ∧ D.nx σ (L2.upd H3 a (NoneO a (putK vs k v)))
theorem ps_nput {o i value : Expr} {td ty tv : TE} {pos' : Pos} (hw : AtW X) (ho : PE X o td) (hi : PE X i ty) (hv : PE X value tv) (hs : swapsWith value (some (.Subscript o i pos')) pos.line X.env = pure false) :
    PS X (.Assign [.Subscript o i pos'] value pos) (sNPut td ty tv) := by
  refine ⟨fun pins s σ H D I h => ?_⟩
  refine wpAny_Assign_Subscript (thn (hv.run pins s σ H _ I h) fun r s1 ⟨v, H1, I1, rv, q1⟩ => thn (ho.run pins s1 σ H1 _ I1 q1) fun u s2 ⟨x, H2, I2, rx, q2⟩ => thn (hi.run pins s2 σ H2 _ I2 q2) fun iv s3 ⟨y, H3, I3, ry, a, vs, k, ex, e, hl, ey, q3⟩ => ?_) hs
  subst ex ey
  obtain rfl : u = Value.ref a := rx
  exact nn_set I3 hw e hl ry rv fun s4 I4 => ⟨σ, _, I4, q3⟩
theorem nRel_len {K : PySem.W.Frag} {Z : Hp} {vs : List (Option Key × V)} {ps : List (RK × P)} (r : NRel K Z vs ps) : vs.length = ps.length := Paired.length r
theorem non_case {K : PySem.W.Frag} {Z H : Hp} {ps : List (RK × P)} {v : V} {G : List Addr} (h0 : ps.isEmpty = false) (h1 : (ps.all fun kv => rkN kv.1) = true) (o : Own K Z H (.r ps) v G) : ∃ a vs, v = .ref a ∧ G = [a] ∧ H a = some (NoneO a vs) ∧ Z a = none ∧ NRel K Z vs ps := by
  cases o with
  | rn h hz r => exact ⟨_, _, rfl, rfl, h, hz, r⟩
  | rt h hz r =>
    cases r with
    | nil => cases h0
    | cons q _ =>
      obtain ⟨q1, _⟩ := q
      rw [List.all_cons, q1] at h1
      cases h1
theorem snd_stn {i : Nat} {kx e : E} (g : Good T k cx X) (ho : PE X x (tVar i)) (hk : PE X y (TEx X.K cx (ev cx kx))) (he : PE X z (TEx X.K cx (ev cx e))) :
    PS X (.Assign [.Subscript x y p2] z pos) (TSt X.K cx (evs cx (.stn i kx e))) := PS.mono (ps_nput (pos' := p2) g.at_ ho hk (px_of he) swaps_sub) fun D σ H ⟨Z, ρ, F, f, ρ', R, e0, q⟩ => by
  simp only [evs] at e0
  split at e0
  · cases e0
  rename_i hsome
  obtain ⟨m0, em0⟩ := some_of (b := true) hsome
  obtain ⟨ov, hs, _⟩ := R.own i m0 em0
  split at e0
  · rename_i m ρ1 e1
    split at e0
    · rename_i xv e2
      split at e0
      · rename_i p ρ2 e3
        split at e0
        · rename_i kvs kk e4 e5
          split at e0
          · rename_i hlim
            obtain ⟨hl, hne, hkn, hall⟩ := hlim
            cases e0
            refine ⟨Z, ρ, F, xv, ρ1, R, by unfold toPg; rw [e1]; simp only [e2], fun Z1 H1 F1 w g1 rw1 => ⟨ov, hs, Z1, ρ1, F1, .v p, _, g1.rel, e3, fun Z2 H2 F2 v2 G2 g2 r2 => ?_⟩⟩
            obtain ⟨ow, _, _⟩ := r2
            cases ow with
            | v rp =>
              cases kk with
              | inr kk => cases hkn
              | inl kk =>
                obtain ⟨ey, ko⟩ := rkOf_v e5 rp
                obtain ⟨v3, h1, h2⟩ := (g1.trans g2).rel.own i _ e4
                rw [hs] at h1
                cases h1
                have hG : ∃ G, F2 i = G := ⟨_, rfl⟩
                obtain ⟨G, hG⟩ := hG
                rw [hG] at h2
                obtain ⟨a, vs, rfl, hG2, h, hz, r⟩ := non_case hne hall h2
                subst hG2
                refine ⟨a, vs, kk, rfl, h, by rw [nRel_len r]; exact Nat.lt_of_lt_of_le hl LIM_line, ey, q _ _ _ _ ((g1.trans g2).mut (u := NoneO a vs) e4 rfl hs (by rw [hG]; simp) h (fun _ _ z => by cases z) (.rn upd_same hz (nRel_put r ko (rw1.sub g2.st.zz))) (fun x hx => .inl (by rw [hG]; exact hx))).gs⟩
          · cases e0
        · cases e0
      · cases e0
    · cases e0
  · cases e0
end
end Mn
end
section
set_option maxHeartbeats 200000
namespace Mn
open PySem L2 PySem.Spec
variable [WW]
section
variable {T : Tab} {k : Nat} {cx : Cxt} {X : Cx} {x y z : Expr} {st : Stmt} {pos p2 p3 apos tpos : Pos}
theorem few_of {cpos : Pos} {env : PySem.Env} (h : notStar x = true) : ((backTo cpos (starEach [x] env)).all (fun x => !x.1) && (backToKw cpos (keywordEach [] env)).all (fun x => x.1.isSome)
      && decide (([x] : List Expr).length + ([] : List Keyword).length + (if ([] : List Keyword).isEmpty then 0 else 1) < 30)) = true := by
  rw [star_of h]; rfl
theorem plain0 {cpos : Pos} {env : PySem.Env} : (backTo cpos (starEach [] env)).any (·.1) = false := rfl
theorem isL_of {ρ : Env} {i : Nat} (h : ¬ isL (slot ρ i) = false) : ∃ ps, slot ρ i = some (.l ps) := by
  cases e : slot ρ i with
  | none => rw [e] at h; exact (h rfl).elim
  | some m =>
    rw [e] at h
    cases m with
    | l ps => exact ⟨ps, rfl⟩
    | _ => exact (h rfl).elim
theorem isNd_of {ρ : Env} {i : Nat} (h : ¬ isNd (slot ρ i) = false) : ∃ ps, slot ρ i = some (.n ps) := by
  cases e : slot ρ i with
  | none => rw [e] at h; exact (h rfl).elim
  | some m =>
    rw [e] at h
    cases m with
    | n ps => exact ⟨ps, rfl⟩
    | _ => exact (h rfl).elim
theorem toPg_evp {e : E} {ρ ρ1 : Env} {m : M} {p : P} (h1 : ev cx e ρ = some (m, ρ1)) (h2 : toP m = some p) : evp cx (.cons e .nil) ρ = some ([p], ρ1) := by
  simp only [evp, h1, h2]
theorem repL1 {K : PySem.W.Frag} {Z : Hp} {vs : List V} {p : P} (r : RepL K Z vs [p]) : ∃ v, vs = [v] ∧ Rep K Z v p := by
  cases r with
  | cons h t => cases t; exact ⟨_, rfl, h⟩
theorem snd_app {i : Nat} {e : E} (ho : PE X x (tVar i)) (he : PE X y (TEx X.K cx (ev cx e))) (h0 : notCall0 x = true) (hs : notStar y = true) (hl : (apos.endLine == p2.line) = true) :
    PS X (.Expr (.Call (.Attribute x "append" apos) [y] [] p2) pos) (TSt X.K cx (evs cx (.app i e))) :=
  PS.mono (ps_expr (pe_bm PySem.F.plainAttrs_list PySem.F.slot_list_append PySem.F.type_list_append mt_append ho (ps_cons he ps_nil (star_of hs)) (base_of h0) (few_of hs) hl (star_of hs) plain0) (swaps_of rfl)) fun D σ H ⟨Z, ρ, F, f, ρ', R, e0, q⟩ => by
    simp only [evs] at e0
    split at e0
    · cases e0
    rename_i hsome
    obtain ⟨ps0, em0⟩ := isL_of hsome
    obtain ⟨ov, hov, o0⟩ := R.own i _ em0
    obtain ⟨a, vs0, rfl, _, ha, _, _⟩ := lst_case o0
    split at e0
    · rename_i m ρ1 e1
      split at e0
      · rename_i p ps e2 e3
        split at e0
        · rename_i hlim
          cases e0
          refine ⟨_, hov, Or.inl ⟨rfl, _, SqL.of ha⟩, Z, ρ, F, [p], ρ1, R, toPg_evp e1 e2, fun Z1 H1 F1 vs g1 rl => ?_⟩
          obtain ⟨w, rfl, rw1⟩ := repL1 rl
          obtain ⟨ov2, h1, h2⟩ := g1.rel.own i _ e3
          rw [hov] at h1; cases h1
          generalize hG : F1 i = G at h2
          obtain ⟨a2, vs, hva, hG2, h, hz, r⟩ := lst_case h2
          cases hva
          subst hG2
          exact ⟨a, vs, w, rfl, rfl, h, by rw [r.length]; exact Nat.lt_of_lt_of_le hlim LIM_line, q _ _ _ _ (g1.mut (u := .lst vs) e3 rfl hov (by rw [hG]; simp) h (fun _ _ z => by cases z) (.l upd_same hz (r.app (.one rw1))) (fun x hx => .inl (by rw [hG]; exact hx))).gs⟩
        · cases e0
      · cases e0
    · cases e0
theorem snd_ext {i : Nat} {e : E} (ho : PE X x (tVar i)) (he : PE X y (TEx X.K cx (ev cx e))) (h0 : notCall0 x = true) (hs : notStar y = true) (hl : (apos.endLine == p2.line) = true) :
    PS X (.Expr (.Call (.Attribute x "extend" apos) [y] [] p2) pos) (TSt X.K cx (evs cx (.ext i e))) :=
  PS.mono (ps_expr (pe_bm PySem.F.plainAttrs_list PySem.F.slot_list_extend PySem.F.type_list_extend mt_extend ho (ps_cons he ps_nil (star_of hs)) (base_of h0) (few_of hs) hl (star_of hs) plain0) (swaps_of rfl)) fun D σ H ⟨Z, ρ, F, f, ρ', R, e0, q⟩ => by
    simp only [evs] at e0
    split at e0
    · cases e0
    rename_i hsome
    obtain ⟨ps0, em0⟩ := isL_of hsome
    obtain ⟨ov, hov, o0⟩ := R.own i _ em0
    obtain ⟨a, vs0, rfl, _, ha, _, _⟩ := lst_case o0
    split at e0
    · rename_i m ρ1 e1
      split at e0
      · rename_i qs ps e2 e3
        split at e0
        · rename_i hlim
          cases e0
          refine ⟨_, hov, Or.inl ⟨rfl, _, SqL.of ha⟩, Z, ρ, F, [.list qs], ρ1, R, toPg_evp e1 e2, fun Z1 H1 F1 vs g1 rl => ?_⟩
          obtain ⟨w, rfl, rw1⟩ := repL1 rl
          obtain ⟨ov2, h1, h2⟩ := g1.rel.own i _ e3
          rw [hov] at h1; cases h1
          generalize hG : F1 i = G at h2
          obtain ⟨a2, vs, hva, hG2, h, hz, r⟩ := lst_case h2
          cases hva
          subst hG2
          cases rw1 with
          | lst hb rb => exact ⟨a, _, vs, _, rfl, rfl, h, g1.rel.sub _ _ hb, by rw [r.length, rb.length]; exact lim_le hlim, q _ _ _ _ (g1.mut (u := .lst vs) e3 rfl hov (by rw [hG]; simp) h (fun _ _ z => by cases z) (.l upd_same hz (r.app rb)) (fun x hx => .inl (by rw [hG]; exact hx))).gs⟩
        · cases e0
      · cases e0
    · cases e0
theorem snd_expr {e : E} (he : PE X x (TEx X.K cx (ev cx e))) (hc : notComp x = true) : PS X (.Expr x pos) (TSt X.K cx (evs cx (.expr e))) := PS.mono (ps_expr he (swaps_of hc)) fun D σ H ⟨Z, ρ, F, f, ρ', R, e0, q⟩ => by
  simp only [evs] at e0
  split at e0
  · rename_i m ρ1 e1
    cases e0
    exact ⟨Z, ρ, F, m, _, R, e1, fun Z1 H1 F1 v G g1 r => q _ _ _ _ g1.gs⟩
  · cases e0
def parB (sc : Scope) (n1 n2 : Str) (q1 q2 : Pos) (a b : Expr) : Bool := (sc.kind == .function) && ((sc.names.lookup n1 == some .local) && ((sc.names.lookup n2 == some .local) && ((q2.line == q1.line) && ((!(n1 == n2)) && ((!([a, b].all (foldedForSure 8))) && ((!([a, b].all (constantsAlone 8))) && (notStar a && notStar b)))))))
theorem not_star_any {a b : Expr} (h : notStar a = true) (h2 : notStar b = true) : ([a, b].any fun | .Starred .. => true | _ => false) = false := by
  have h0 : ∀ e, notStar e = true → (match e with | .Starred .. => true | _ => false) = false := fun e h => by cases e <;> first | rfl | cases h
  rw [List.any_cons, List.any_cons, List.any_nil, h0 a h, h0 b h2]
  rfl
theorem swapped_par {n1 n2 : Str} {q1 q2 : Pos} {a b : Expr} {kt k2 : Nat} {pt pt2 : Pos} {env : PySem.Env} (h : parB env.scope n1 n2 q1 q2 a b = true) : swappedStores [.Tuple [.Name n1 q1, .Name n2 q2] kt pt] (.Tuple [a, b] k2 pt2) env = pure (some [n1, n2]) := by
  unfold parB at h
  simp only [Bool.and_eq_true, Bool.not_eq_true', beq_iff_eq] at h
  obtain ⟨h1, h2, h3, h4, h5, h6, h7, h8, h9⟩ := h
  have hb : env.blockKind = .function := by unfold Env.blockKind; rw [h1]; rfl
  have k1 : env.kindOf n1 = some .local := h2
  have k2' : env.kindOf n2 = some .local := h3
  unfold swappedStores
  have e1 : (!((2 == 2 || 2 == 3)) || (2 != 2) || ScopeKind.function != ScopeKind.function) = false := by decide
  have hne : ([n1, n2] : List Str).eraseDups.length = 2 := by
    rw [List.eraseDups_cons]
    have : ([n2].filter fun b => !b == n1) = [n2] := by
      rw [List.filter_cons]
      have : (n2 == n1) = false := by
        cases q : n2 == n1 with
        | false => rfl
        | true =>
          have : n2 = n1 := eq_of_beq q
          subst this
          simp at h5
      simp [this]
    rw [this]
    rfl
  have hst := not_star_any h8 h9
  have hl : (q2.line == q1.line) = true := by simpa using h4
  simp only [List.length_cons, List.length_nil, hb, hst, h6, h7, List.head?_cons, Option.map_some, Option.getD_some, Expr.pos, List.filterMap_cons, List.filterMap_nil, k1, k2', hl, beq_self_eq_true, Bool.and_true, Bool.true_and, if_true, hne]
  rw [if_neg (by decide), if_neg (by rw [Bool.not_eq_true]; exact hst)]
  rfl

theorem snd_par {i j : Nat} {a b : E} {n1 n2 : Str} {kt k2 : Nat} {pt pt2 : Pos} (g : Good T k cx X) (h1 : locB X.N X.env.scope i n1 = true) (h2 : locB X.N X.env.scope j n2 = true) (hij : i ≠ j) (hp : parB X.env.scope n1 n2 p2 p3 x y = true) (ha : PE X x (TEx X.K cx (ev cx a))) (hb : PE X y (TEx X.K cx (ev cx b))) :
    PS X (.Assign [.Tuple [.Name n1 p2, .Name n2 p3] kt pt] (.Tuple [x, y] k2 pt2) pos) (TSt X.K cx (evs cx (.par i j a b))) := by
  unfold locB at h1 h2
  rw [Bool.and_eq_true, decide_eq_true_eq, decide_eq_true_eq] at h1 h2
  have hst : notStar x = true ∧ notStar y = true := by
    unfold parB at hp
    simp only [Bool.and_eq_true] at hp
    exact hp.2.2.2.2.2.2.2
  refine PS.mono (ps_par g.calm g.nd h1.1 h2.1 hij h1.2 h2.2 (pa_cons ha (pa_cons hb pa_nil (star_of hst.2)) (star_of hst.1)) (swapped_par hp) rfl) fun D σ H ⟨Z, ρ, F, f, ρ', R, e0, q⟩ => ?_
  simp only [evs] at e0
  split at e0
  · rename_i m1 ρ1 e1
    split at e0
    · rename_i m2 ρ2 e2
      split at e0
      · rename_i ρ3 e3
        split at e0
        · rename_i ρ4 e4
          cases e0
          refine ⟨Z, ρ, F, m1, ρ1, R, e1, fun Z1 H1 F1 v G g1 r1 => ⟨Z1, ρ1, F1, m2, ρ2, g1.rel, e2, fun Z2 H2 F2 v2 G2 g2 r2 => ⟨v, v2, rfl, ?_⟩⟩⟩
          have gg := (g1.trans g2).gs
          have r1' := r1.carry g2
          have gs1 := sto_gs gg r1' e3
          have dj : ∀ a ∈ G2, a ∉ G := fun a ha hb => by
            rcases r2.nw a ha with h | h
            · exact r1.ap a hb h
            · obtain ⟨_, u, hu, _⟩ := r1.own.at_ a hb
              rw [h] at hu; cases hu
          have r2' : Res X.K Z H (U F) Z2 H2 (fset F2 i G) m2 v2 G2 := by
            have := res_go g1 r2
            refine ⟨this.own, fun a ha hu => ?_, this.nw⟩
            rcases U_fset_sub hu with h | h
            · exact dj a ha h
            · exact this.ap a ha h
          exact q _ _ _ _ (sto_gs gs1 r2' e4)
        · cases e0
      · cases e0
    · cases e0
  · cases e0
theorem snd_aug {i : Nat} {e : E} {op : BOp} {n : Str} (g : Good T k cx X) (h : LocG X i n) (he : PE X x (TEx X.K cx (ev cx e))) : PS X (.AugAssign (.Name n p2) (bOp op) x pos) (TSt X.K cx (evs cx (.aug i op e))) := by
  have key : ∀ (f : Int → Int → Int), PS X (.AugAssign (.Name n p2) (bOp op) x pos) (tAug i (TEx X.K cx (ev cx e)) (ipI f)) → (∀ a b ρ1, (match op with
      | .add => (sto cx i (.v (.int (a + b))) ρ1).map fun ρ2 => ((.nx : Fl), ρ2)
      | .sub => (sto cx i (.v (.int (a - b))) ρ1).map fun ρ2 => (.nx, ρ2)
      | _ => none) = (sto cx i (.v (.int (f a b))) ρ1).map fun ρ2 => ((.nx : Fl), ρ2)) → PS X (.AugAssign (.Name n p2) (bOp op) x pos) (TSt X.K cx (evs cx (.aug i op e))) := by
    intro f hp hf
    refine PS.mono hp fun D σ H ⟨Z, ρ, F, fl, ρ', R, e0, q⟩ => ?_
    simp only [evs] at e0
    split at e0
    · rename_i a b ρ1 e1 e2
      have e0 := (hf a b ρ1).symm.trans e0
      obtain ⟨ρ2, e3, e4⟩ := Option.map_eq_some_iff.mp e0
      cases e4
      obtain ⟨v, hv, ow⟩ := R.own i _ e1
      have := own_int ow
      subst this
      refine ⟨_, hv, Z, ρ, F, _, ρ1, R, e2, fun Z1 H1 F1 v G g1 r1 => ?_⟩
      have := own_int r1.own
      subst this
      exact ⟨a, b, rfl, rfl, q _ _ _ _ (sto_gs (v := .int (f a b)) g1.gs ⟨.v (.int _), no0, no0⟩ e3)⟩
    · cases e0
  cases op with
  | add => exact key (fun a b => a + b) (ps_aug (op := .Add) g.nd h.ix h.lc he ip_add h.fn) fun a b ρ1 => rfl
  | sub => exact key (fun a b => a - b) (ps_aug (op := .Sub) g.nd h.ix h.lc he ip_sub h.fn) fun a b ρ1 => rfl
  | _ => exact ⟨fun pins s σ H D J ⟨Z, ρ, F, fl, ρ', R, e0, q⟩ => by
      simp only [evs] at e0
      split at e0 <;> cases e0⟩
end
end Mn
end
section
set_option maxHeartbeats 200000
namespace Mn
open PySem L2 PySem.Spec
variable [WW]
section
variable {T : Tab} {k : Nat} {cx : Cxt} {X : Cx} {x y z : Expr} {st : Stmt} {pos p2 p3 p4 apos tpos : Pos}
theorem repL_last {K : PySem.W.Frag} {Z : Hp} {vs : List V} {ps : List P} {p : P} (r : RepL K Z vs ps) (h : ps[ps.length - 1]? = some p) : ∃ v, vs[vs.length - 1]? = some v ∧ Rep K Z v p := by
  obtain ⟨v, h1, h2⟩ := r.get h
  exact ⟨v, by rw [r.length]; exact h1, h2⟩
theorem snd_pop0 {i : Nat} (ho : PE X x (tVar i)) (h0 : notCall0 x = true) (hl : (apos.endLine == pos.line) = true) : PE X (.Call (.Attribute x "pop" apos) [] [] pos) (TEx X.K cx (ev cx (.pop i .nil))) :=
  PE.mono (pe_bm0 PySem.F.plainAttrs_list PySem.F.slot_list_pop PySem.F.type_list_pop mt_pop ho (base_of h0) hl) fun σ H Q ⟨Z, ρ, F, m, ρ', R, e, q⟩ => by
    simp only [ev, evl, rds] at e
    split at e
    · cases e
    split at e
    · rename_i ps e1 e2
      split at e
      · rename_i p ep
        cases e
        obtain ⟨ov, hov, o0⟩ := R.own i _ e1
        generalize hG : F i = G at o0
        obtain ⟨a, vs, rfl, hG2, h, hz, r⟩ := lst_case o0
        subst hG2
        obtain ⟨v, hv, rv⟩ := repL_last r ep
        have gm := (Go.refl (X := cx) R).mut (u := .lst vs) (m' := .l ps.dropLast) e1 rfl hov (by rw [hG]; simp) h (fun _ _ z => by cases z) (.l (vs := vs.dropLast) upd_same hz r.dropLast) (fun x hx => .inl (by rw [hG]; exact hx))
        exact ⟨_, hov, Or.inl ⟨rfl, _, SqL.of h⟩, a, vs, v, rfl, rfl, h, hv, q _ _ _ v [] gm ⟨.v rv, no0, no0⟩⟩
      · cases e
    · rename_i h1 h2; cases h2
    · cases e
theorem snd_pop1 {i : Nat} {es : EL} (ho : PE X x (tVar i)) (ha : PA X [y] (TAr X.K cx (evl cx es))) (hs : notStar y = true) (h0 : notCall0 x = true) (hl : (apos.endLine == pos.line) = true) (hn : elLen es = 1) : PE X (.Call (.Attribute x "pop" apos) [y] [] pos) (TEx X.K cx (ev cx (.pop i es))) :=
  PE.mono (pe_bm PySem.F.plainAttrs_list PySem.F.slot_list_pop PySem.F.type_list_pop mt_popAt ho ha (base_of h0) (few_of hs) hl (star_of hs) plain0) fun σ H Q ⟨Z, ρ, F, m, ρ', R, e, q⟩ => by
    simp only [ev] at e
    split at e
    · cases e
    rename_i hsome
    obtain ⟨ps0, em0⟩ := isL_of hsome
    obtain ⟨ov, hov, o0⟩ := R.own i _ em0
    obtain ⟨a, vs0, rfl, _, ha0, _, _⟩ := lst_case o0
    split at e
    · rename_i rs ρ1 e1
      refine ⟨_, hov, Or.inl ⟨rfl, _, SqL.of ha0⟩, Z, ρ, F, rs, ρ1, R, e1, fun Z1 H1 F1 us Gs g1 o1 => ?_⟩
      split at e
      · rename_i ps e2 e3
        have := rds_len e3
        rw [evl_len e1, hn] at this
        cases this
      · rename_i ps j e2 e3
        split at e
        · rename_i hj
          split at e
          · rename_i p ep
            cases e
            have ol := o1.own g1.rel e3
            cases ol with
            | cons oj ot =>
              cases ot
              have := own_int oj
              subst this
              obtain ⟨ov2, h1, h2⟩ := g1.rel.own i _ e2
              rw [hov] at h1; cases h1
              generalize hG : F1 i = G at h2
              obtain ⟨a2, vs, hva, hG2, h, hz, r⟩ := lst_case h2
              cases hva
              subst hG2
              obtain ⟨v, hv, rv⟩ := r.get ep
              have hL : (LIM : Nat) = 1000000 := rfl
              have gm := g1.mut (u := .lst vs) (m' := .l (ps.eraseIdx j.toNat)) e2 rfl hov (by rw [hG]; simp) h (fun _ _ z => by cases z) (.l (vs := vs.eraseIdx j.toNat) upd_same hz (r.erase _)) (fun x hx => .inl (by rw [hG]; exact hx))
              exact ⟨a, vs, j, j.toNat, v, rfl, rfl, h, by omega, by omega, seqIndex_of hj.1 (by rw [r.length]; exact hj.2.1), hv, q _ _ _ v [] gm ⟨.v rv, no0, no0⟩⟩
          · cases e
        · cases e
      · cases e
    · cases e
theorem index_eq {m1 m3 : M} {ms : List M} (e : mtM .index m1 ms = some m3) : ∃ ps x j, vw m1 = .l ps ∧ ms = [.v x] ∧ flatP x = true ∧ ps.all flatP = true ∧ ps.findIdx? (fun y => PyData.eqv y x) = some j ∧ m3 = .v (.int j) := by
  unfold mtM at e
  split at e
  all_goals first
    | (rename_i h0 _ _; cases h0; done)
    | (rename_i h0 _; cases h0; done)
    | (rename_i h0; cases h0; done)
    | skip
  · rename_i ps x _ e1
    split at e
    · rename_i hf
      split at e
      · rename_i j ej
        cases e
        exact ⟨ps, x, j, e1, rfl, hf.1, hf.2, ej, rfl⟩
      · cases e
    · cases e
  · cases e
theorem snd_index {a : E} {es : EL} (ha : PE X x (TOp X.K cx (opE a (ev cx a)))) (hb : PA X [y] (TAr X.K cx (evl cx es))) (hs : notStar y = true) (h0 : notCall0 x = true) (hl : (apos.endLine == pos.line) = true) : PE X (.Call (.Attribute x "index" apos) [y] [] pos) (TEx X.K cx (ev cx (.mt .index a es))) :=
  PE.mono (pe_bm PySem.F.plainAttrs_list PySem.F.slot_list_index PySem.F.type_list_index mt_index ha hb (base_of h0) (few_of hs) hl (star_of hs) plain0) fun σ H Q ⟨Z, ρ, F, m, ρ', R, e, q⟩ => by
    simp only [ev] at e
    split at e
    · rename_i r1 ρ1 e1
      split at e
      · rename_i hb1
        split at e
        · rename_i rs ρ2 e2
          split at e
          · rename_i m1 ms e3 e4
            split at e
            · rename_i m3 e5
              cases e
              refine ⟨Z, ρ, F, r1, ρ1, R, e1, fun Z1 H1 F1 v1 G1 g1 o1 => ?_⟩
              cases e6 : rd ρ1 r1 with
              | none => rw [e6] at hb1; cases hb1
              | some m0 =>
                rw [e6] at hb1
                obtain ⟨_, w0⟩ := o1.rd g1.rel e6
                have h7 : ∃ ps0, m0 = .l ps0 := by cases m0 <;> first | exact ⟨_, rfl⟩ | cases hb1
                obtain ⟨ps0, rfl⟩ := h7
                obtain ⟨a0, vs0, rfl, _, ha0, _, _⟩ := lst_case w0
                refine ⟨Or.inl ⟨rfl, _, SqL.of ha0⟩, Z1, ρ1, F1, rs, _, g1.rel, e2, fun Z2 H2 F2 us Gs g2 o2 => ?_⟩
                obtain ⟨ps, xx, j, k1, k2, k3, k4, k5, k6⟩ := index_eq e5
                subst k2 k6
                obtain ⟨_, w1⟩ := (o1.carry g2).rd g2.rel e3
                have vw1 := w1.view
                rw [k1] at vw1
                obtain ⟨c, vs, hc, hcl, rl⟩ := vw1.lstl
                cases hc
                have ol := o2.own g2.rel e4
                cases ol with
                | cons oj ot =>
                  cases ot
                  cases oj with
                  | v rx =>
                    obtain ⟨hj1, hj2, hj3⟩ := List.findIdx?_eq_some_iff_getElem.mp k5
                    obtain ⟨z, hz, rz⟩ := rl.get (List.getElem?_eq_getElem hj1)
                    have fl : ∀ i p, ps[i]? = some p → flatP p = true := fun i p hp => List.all_eq_true.mp k4 p (List.mem_of_getElem? hp)
                    refine ⟨_, vs, _, j, z, rfl, rfl, SqL.of hcl, by rw [flat_rep rx]; exact k3, by rw [flats_rep rl]; exact k4, hz, ?_, fun mm z' hm hz' => ?_, q _ _ _ _ [] (g1.trans g2) ⟨.v (.int _), no0, no0⟩⟩
                    · rw [eqv_rep rz rx (fl _ _ (List.getElem?_eq_getElem hj1)) k3]; exact hj2
                    · obtain ⟨p', hp', rp'⟩ := rl.getV hz'
                      rw [eqv_rep rp' rx (fl _ _ hp') k3]
                      obtain ⟨hml, hme⟩ := List.getElem?_eq_some_iff.mp hp'
                      have := hj3 mm hm
                      subst hme
                      simpa using this
            · cases e
          · cases e
        · cases e
      · cases e
    · cases e
def chOp : COp → Bool
  | .isN => false | .notN => false | .isB => false | .notB => false
  | _ => true
theorem snd_cmp2 {op op2 : COp} {a b c : E} (g : Good T k cx X) (ha : PE X x (TEx X.K cx (ev cx a))) (hb : PE X y (TEx X.K cx (ev cx b))) (hc : PE X z (TEx X.K cx (ev cx c))) (h1 : chOp op = true) (h2 : chOp op2 = true) (hm : behindInMarks (cOp op2) z = false) :
    PE X (.Compare x [cOp op, cOp op2] [y, z] pos) (TEx X.K cx (ev cx (.cmp2 op op2 a b c))) ∧ PT X (.Compare x [cOp op, cOp op2] [y, z] pos) (TTs X.K cx (ev cx (.cmp2 op op2 a b c))) := by
  have n1 : ∀ {o : COp}, chOp o = true → (o = .isN ∨ o = .notN → False) := fun h q => by
    rcases q with q | q <;> (subst q; cases h)
  have hR := cmp_R (X := X) g.room.units op
  have hR2 := cmp_R (X := X) g.room.units op2
  have chain : ∀ σ H Q, TEx X.K cx (ev cx (.cmp2 op op2 a b c)) σ H Q → tChain (rCmp X.K op) (rCmp X.K op2) (TEx X.K cx (ev cx a)) (TEx X.K cx (ev cx b)) (TEx X.K cx (ev cx c)) σ H Q := fun σ H Q ⟨Z, ρ, F, m, ρ', R, e, q⟩ => by
    simp only [ev] at e
    split at e
    · rename_i m1 ρ1 e1
      split at e
      · rename_i m2 ρ2 e2
        refine ⟨Z, ρ, F, m1, ρ1, R, e1, fun Z1 H1 F1 v1 G1 g1 r1 => ⟨Z1, ρ1, F1, m2, ρ2, g1.rel, e2, fun Z2 H2 F2 v2 G2 g2 r2 => ?_⟩⟩
        have gg := g1.trans g2
        split at e
        · rename_i e3
          cases e
          exact cmp_ok op g2.rel.sub (r1.carry g2).own r2.own (fun hq => (n1 h1 hq).elim) e3 fun Z3 H3 v3 G3 al o3 => ⟨false, (Own.view o3).bl, by
            rw [if_neg Bool.false_ne_true]
            exact q Z3 H3 F2 _ [] (gg.alloc al) res_bl⟩
        · rename_i e3
          split at e
          · rename_i m3 ρ3 e4
            split at e
            · rename_i mr e5
              cases e
              refine cmp_ok op g2.rel.sub (r1.carry g2).own r2.own (fun hq => (n1 h1 hq).elim) e3 fun Z3 H3 v3 G3 al o3 => ⟨true, (Own.view o3).bl, ?_⟩
              rw [if_pos rfl]
              have g3 := gg.alloc al
              refine ⟨Z3, ρ2, F2, m3, _, g3.rel, e4, fun Z4 H4 F4 v4 G4 g4 r4 => ?_⟩
              have gal : Go X.K cx σ Z2 H2 ρ2 F2 Z3 H3 ρ2 F2 := (Go.refl g2.rel).alloc al
              have r2' := (r2.carry gal).carry g4
              exact cmp_ok op2 g4.rel.sub r2'.own r4.own (fun hq => (n1 h2 hq).elim) e5 (ask_done (g3.trans g4) q)
            · cases e
          · cases e
        · cases e
      · cases e
    · cases e
  refine ⟨PE.mono (pe_chain hR hR2 ha hb hc hm) chain, PT.mono (pt_chain hR hR2 ha hb hc hm) fun σ H Q ⟨Z, ρ, F, c0, ρ', R, e, q⟩ => ?_⟩
  refine chain _ _ _ ⟨Z, ρ, F, _, ρ', R, e, fun Z' H' F' v G g1 r1 => ?_⟩
  have := (Own.view r1.own).bl
  subst this
  exact ⟨c0, rfl, q Z' H' F' g1⟩
theorem own_at {K : PySem.W.Frag} {Z H : Hp} {ms : List (Key × M)} {vs : List (Key × V)} {G : List Addr} {kk : Key} {m : M} (r : OwnN K Z H ms vs G) (e : getA ms kk = some m) : ∃ v Gk, valV vs kk = some v ∧ Own K Z H m v Gk ∧ ∀ a ∈ Gk, a ∈ G := by
  obtain ⟨v, Gk, h1, h2, h3, _⟩ := ownN_upd (A' := fun _ => False) kk r e
  exact ⟨v, Gk, h1, h2, h3⟩
theorem putK_same {K : PySem.W.Frag} {Z H : Hp} {kk : Key} {v : V} : ∀ {ms : List (Key × M)} {vs : List (Key × V)} {G : List Addr}, OwnN K Z H ms vs G → valV vs kk = some v → putK vs kk v = vs := by
  have aux : ∀ {ms : List (Key × M)} {vs : List (Key × V)} {G : List Addr}, OwnN K Z H ms vs G → (valV vs kk = some v ∨ valV vs kk = none) → (vs.map fun kv => if kv.1 = kk then (kv.1, v) else kv) = vs := by
    intro ms
    induction ms with
    | nil => intro vs G r _; cases r; rfl
    | cons m ms ih =>
      intro vs G r h
      cases r with
      | @cons k0 m0 v0 ms vs G G2 ko kn o t d =>
        by_cases q : k0 = kk
        · subst q
          have hn := ownN_get k0 t
          rw [kn] at hn
          rw [List.map_cons, if_pos rfl, ih t (.inr hn)]
          rcases h with h | h
          · rw [valV_pos rfl] at h; cases h; rfl
          · rw [valV_pos rfl] at h; cases h
        · rw [List.map_cons, if_neg q]
          rw [valV_neg q] at h
          rw [ih t h]
  intro ms vs G r h
  unfold putK
  rw [if_pos (by rw [valV_any, h]; rfl)]
  exact aux r (.inl h)
theorem snd_getf {i j jj : Nat} {f : Str} (g : Good T k cx X) (ho : PE X x (tVar i)) (hy : PE X y (tVar j)) (hl : (apos.endLine == pos.line) = true) (hs : notStar y = true) :
    PE X (.Call (.Attribute (.Subscript x (.Constant (.str f) jj p3) p2) "get" apos) [y] [] pos) (TEx X.K cx (ev cx (.getf i f j))) :=
  PE.mono (pe_g1 (by have := g.room.units; omega) (pe_dget (by have := g.room.units; omega) ho (pe_str (x := f)) (fun _ _ => rfl)) hy (m1_of rfl hs hl)) fun σ H Q ⟨Z, ρ, F, m, ρ', R, e, q⟩ => by
    simp only [ev] at e
    split at e
    · rename_i m0 p e1 e2
      split at e
      · rename_i kvs ef
        split at e
        · rename_i kk ek
          cases e
          obtain ⟨ov, hov, o0⟩ := R.own i _ e1
          obtain ⟨yv, hyv, oy⟩ := R.own j _ e2
          generalize F j = Gj at oy
          cases oy with
          | v rp =>
            unfold field at ef
            split at ef
            · rename_i ms
              obtain ⟨a, vs, G1, rfl, _, h, hz, r, na⟩ := nst_case o0
              obtain ⟨v, Gk, h1, h2, _⟩ := own_at r ef
              obtain ⟨b, ws, rfl, _, hb, hzb, rb⟩ := dic_case h2
              obtain ⟨rfl, ko, _⟩ := keyOf_v ek rp
              refine ⟨_, hov, a, .ref b, rfl, by rw [← h1]; exact DGet.k (k := .inr f) h, b, rfl, .inl ⟨_, .inl hb⟩, _, hyv, _, .inl ⟨_, kk, .inl hb, rfl, rfl⟩, ?_⟩
              have ht := dRel_hit rb kk
              cases eg : getA kvs kk with
              | none =>
                rw [eg] at ht q
                have : valV ws kk = none := ht
                rw [this]
                exact q Z H F _ [] (.refl R) ⟨.v .non, no0, no0⟩
              | some w =>
                rw [eg] at ht q
                obtain ⟨v2, h3, h4⟩ := (show ∃ v, valV ws kk = some v ∧ Rep X.K Z v w from ht)
                rw [h3]
                exact q Z H F _ [] (.refl R) ⟨.v h4, no0, no0⟩
            · cases ef
        · cases e
      · cases e
    · cases e
theorem snd_getn {i : Nat} {kx : E} {jj : Nat} (g : Good T k cx X) (ho : PE X x (tVar i)) (hy : PE X y (TEx X.K cx (ev cx kx))) (hl : (apos.endLine == pos.line) = true) (hs : notStar y = true) (h0 : notCall0 x = true) :
    PE X (.Call (.Attribute x "get" apos) [y, .List [] p3] [] pos) (TEx X.K cx (ev cx (.getn i kx))) :=
  PE.mono (pe_g2 (by have := g.room.units; omega) ho hy (pe_lst pa_nil) (m2_of h0 hs rfl hl)) fun σ H Q ⟨Z, ρ, F, m, ρ', R, e, q⟩ => by
    simp only [ev] at e
    split at e
    · cases e
    rename_i hsome
    obtain ⟨ps0, em0⟩ := isNd_of hsome
    obtain ⟨ov, hov, o0⟩ := R.own i _ em0
    obtain ⟨a, vs0, G0, rfl, _, ha0, _, _, _⟩ := nst_case o0
    split at e
    · rename_i p ρ1 e1
      refine ⟨_, hov, a, rfl, .inl ⟨_, .inl ha0⟩, Z, ρ, F, _, ρ1, R, e1, fun Z1 H1 F1 yv Gy g1 r1 => ⟨Nat.zero_le _, fun D hD => ?_⟩⟩
      obtain ⟨oy, _, _⟩ := r1
      cases oy with
      | v rp =>
        have al : Alloc Z1 H1 Z1 (L2.upd H1 D (.lst [])) [D] := .own g1.rel.sub hD
        have g2 := g1.alloc al
        unfold getN at e
        split at e
        · rename_i kvs kk e2 ek
          obtain ⟨rfl, ko, _⟩ := keyOf_v ek rp
          obtain ⟨ov2, h1, h2⟩ := g2.rel.own i _ e2
          rw [hov] at h1; cases h1
          generalize hG : F1 i = G at h2
          obtain ⟨a2, vs, G1, hva, hG2, h, hz, r, na⟩ := nst_case h2
          cases hva
          subst hG2
          split at e
          · rename_i q0 eg
            cases e
            obtain ⟨v, Gk, k1, k2, _⟩ := own_at r eg
            refine ⟨some v, .inl ⟨_, kk, .inl h, rfl, k1.symm⟩, ?_⟩
            cases k2 with
            | v rv => exact q _ _ F1 v [] g2 ⟨.v rv, no0, no0⟩
          · rename_i ps eg
            cases e
            obtain ⟨v, Gk, k1, k2, k3, k4⟩ := ownN_upd (A' := fun _ => False) kk r eg
            obtain ⟨b, ws, rfl, rfl, hb, hzb, rb⟩ := lst_case k2
            refine ⟨some (.ref b), .inl ⟨_, kk, .inl h, rfl, k1.symm⟩, ?_⟩
            have hbG : b ∈ G1 := k3 b (by simp)
            have hab : b ≠ a := fun z => na (z ▸ hbG)
            have zz : Sub Z1 (L2.upd Z1 b (.lst ws)) := sub_upd hzb
            have hs2 : Sub (L2.upd Z1 b (.lst ws)) (L2.upd H1 D (.lst [])) := fun c w hw => by
              by_cases qb : c = b
              · subst qb; rw [upd_same] at hw; cases hw; exact hb
              · rw [upd_ne qb] at hw; exact g2.rel.sub c w hw
            have st : Step Z1 (L2.upd H1 D (.lst [])) (L2.upd Z1 b (.lst ws)) (L2.upd H1 D (.lst [])) (· ∈ [b]) (fun _ => False) := ⟨fun _ _ h _ => h, zz, fun c w hw => by
              by_cases qb : c = b
              · exact .inr (.inl (by simp [qb]))
              · rw [upd_ne qb] at hw; exact .inl hw, fun _ h => h.elim, fun _ _ _ h => h⟩
            obtain ⟨G3, r3, k5⟩ := k4 (v' := .ref b) (G' := []) (m' := .v (.list ps)) st hs2 (.v (.lst upd_same (rb.sub zz))) (fun _ h => by cases h)
            rw [putK_same r k1] at r3
            have ga : Go X.K cx σ Z H ρ F (L2.upd Z1 b (.lst ws)) (L2.upd H1 D (.lst [])) (ρ1.set i (some (.n (putA kvs kk (.v (.list ps)))))) (fset F1 i (a :: G3)) := by
              have hbF : b ∈ F1 i := by rw [hG]; exact List.mem_cons_of_mem _ hbG
              have st2 : Step Z1 (L2.upd H1 D (.lst [])) (L2.upd Z1 b (.lst ws)) (L2.upd H1 D (.lst [])) (· ∈ F1 i) (· ∈ F1 i) := ⟨fun _ _ h _ => h, zz, fun c w hw => by
                by_cases qb : c = b
                · exact .inr (.inl (by rw [qb]; exact hbF))
                · rw [upd_ne qb] at hw; exact .inl hw, fun _ h => .inl h, fun _ _ _ h => h⟩
              have hza : L2.upd Z1 b (.lst ws) a = none := by rw [upd_ne (Ne.symm hab)]; exact hz
              obtain ⟨q1, q2⟩ := g2.rel.upd (m := .n (putA kvs kk (.v (.list ps)))) (G := a :: G3) e2 st2 hs2 hov (.n h hza r3 (fun hm => by
                rcases k5 a hm with z | z
                · exact na z
                · cases z)) (fun c hc => .inl (by
                rw [hG]
                rcases List.mem_cons.mp hc with z | z
                · simp [z]
                · rcases k5 c z with z | z
                  · simp [z]
                  · cases z))
              exact ⟨q1, g2.st.trans q2, g2.lk.trans (lk_set e2 rfl)⟩
            exact q _ _ _ (.ref b) [] ga ⟨.v (.lst upd_same (rb.sub zz)), no0, no0⟩
          · cases e
          · rename_i eg
            cases e
            have hn := ownN_get kk r
            rw [eg] at hn
            refine ⟨none, .inl ⟨_, kk, .inl h, rfl, hn.symm⟩, ?_⟩
            have hzD : Z1 D = none := z_none g1.rel.sub hD
            have nwD : U F D ∨ H D = none := new_back g1.st hD
            obtain ⟨g3, zz⟩ := freeze (o := .lst []) g2 upd_same hzD (fun hu => by
              obtain ⟨_, w, hw, _⟩ := g1.rel.mem hu
              rw [hD] at hw; cases hw) nwD trivial (fun _ _ z => by cases z) (.inl rfl)
            rw [upd_eq upd_same] at g3
            exact q _ _ _ (.ref D) [] g3 ⟨.v (.lst upd_same .nil), no0, no0⟩
        · cases e
    · cases e
end
end Mn
end
section
set_option maxHeartbeats 200000
namespace Mn
open PySem L2 PySem.Spec
variable [WW]
section
variable {T : Tab} {k : Nat} {cx : Cxt} {X : Cx} {x y z : Expr} {st : Stmt} {pos p2 p3 p4 apos tpos : Pos}
def frzG (g : Ev1) : Ev1 := fun ρ => match g ρ with
  | some (m, ρ1) => some (frzL m, ρ1)
  | none => none
theorem pe_frz {g : Ev1} (h : PE X x (TEx X.K cx g)) : PE X x (TEx X.K cx (frzG g)) := PE.mono h fun σ H Q ⟨Z, ρ, F, m, ρ', R, e, q⟩ => by
  unfold frzG at e
  split at e
  · rename_i m0 ρ1 e1
    cases e
    refine ⟨Z, ρ, F, m0, _, R, e1, fun Z1 H1 F1 v G g1 r1 => ?_⟩
    by_cases hm : ∃ ps, m0 = .l ps
    · obtain ⟨ps, rfl⟩ := hm
      obtain ⟨ow, ap, nw⟩ := r1
      obtain ⟨a, vs, rfl, rfl, h, hz, r⟩ := lst_case ow
      obtain ⟨g2, zz⟩ := freeze (o := .lst vs) g1 h hz (ap a (by simp)) (nw a (by simp)) trivial (fun _ _ z => by cases z) (.inl rfl)
      rw [upd_eq h] at g2
      exact q _ _ _ (.ref a) [] g2 ⟨.v (.lst upd_same (r.sub zz)), no0, no0⟩
    · have : frzL m0 = m0 := by cases m0 <;> first | rfl | exact (hm ⟨_, rfl⟩).elim
      rw [this] at q
      exact q Z1 H1 F1 v G g1 r1
  · cases e
/-- the text of a dict display -/
inductive KvOk (X : Cx) (cx : Cxt) (pos : Pos) : EL → List (Option Expr) → List Expr → List (TE × TE) → Prop
  | nil : KvOk X cx pos .nil [] [] []
  | cons {f : Str} {e : E} {r : EL} {j : Nat} {v : Expr} {ks : List (Option Expr)} {vs : List Expr} {trs : List (TE × TE)} {pq : Pos} : KeyOk (.inr f) → PE X v (TEx X.K cx (ev cx e)) → KvOk X cx pos r ks vs trs → KvOk X cx pos (.cons (.ks f) (.cons e r)) (some (.Constant (.str f) j pq) :: ks) (v :: vs) ((tC (.str f), TEx X.K cx (frzG (ev cx e))) :: trs)
theorem KvOk.pps {es : EL} {ks : List (Option Expr)} {vs : List Expr} {trs : List (TE × TE)} (h : KvOk X cx pos es ks vs trs) : PPs X pos ks vs trs ∧ ks.all (·.isSome) = true ∧ ks.length = vs.length := by
  induction h with
  | nil => exact ⟨pps_nil, rfl, rfl⟩
  | cons ko hv _ ih => exact ⟨pps_cons pe_str (pe_frz hv) ih.1, by rw [List.all_cons, ih.2.1]; rfl, by rw [List.length_cons, List.length_cons, ih.2.2]⟩
/-- the values behind a display -/
structure KvRes (K : PySem.W.Frag) (Z H : Hp) (A : AS) (Z' H' : Hp) (F' : Nat → List Addr) (xs : List (Key × M)) (ws : List (Key × V)) (G : List Addr) : Prop where
  own : OwnN K Z' H' xs ws G
  ap : ∀ a ∈ G, ¬ U F' a
  nw : ∀ a ∈ G, A a ∨ H a = none
theorem kv_chain {es : EL} {ks : List (Option Expr)} {vs : List Expr} {trs : List (TE × TE)} (h : KvOk X cx pos es ks vs trs) : ∀ {σ : St} {H : Hp} {Q : List (V × V) → Hp → Prop}, (∃ Z ρ F xs ρ', Rel X.K Z H σ ρ F ∧ evkv cx es ρ = some (xs, ρ') ∧
    ∀ Z' H' F' ws G, Go X.K cx σ Z H ρ F Z' H' ρ' F' → KvRes X.K Z H (U F) Z' H' F' xs ws G → Q (ws.map fun kv => (kV kv.1, kv.2)) H') → tPairs trs σ H Q := by
  induction h with
  | nil =>
    intro σ H Q ⟨Z, ρ, F, xs, ρ', R, e, q⟩
    simp only [evkv] at e
    cases e
    exact q Z H F [] [] (.refl R) ⟨.nil, no0, no0⟩
  | @cons f e0 r j v ks vs trs pq ko hv _ ih =>
    intro σ H Q ⟨Z, ρ, F, xs, ρ', R, e, q⟩
    simp only [evkv] at e
    split at e
    · rename_i m ρ1 e1
      split at e
      · rename_i xs2 ρ2 e2
        split at e
        · cases e
        · rename_i hn
          cases e
          refine ⟨Z, ρ, F, frzL m, ρ1, R, by unfold frzG; rw [e1], fun Z1 H1 F1 v1 G1 g1 r1 => ih ⟨Z1, ρ1, F1, xs2, _, g1.rel, e2, fun Z2 H2 F2 ws G2 g2 k2 => ?_⟩⟩
          have r1' := r1.carry g2
          have dj : ∀ a ∈ G1, a ∉ G2 := fun a ha hb => by
            rcases k2.nw a hb with h | h
            · exact r1.ap a ha h
            · obtain ⟨_, u, hu, _⟩ := r1.own.at_ a ha
              rw [h] at hu; cases hu
          have hg : getA xs2 (.inr f) = none := by
            cases hq : getA xs2 (.inr f) with
            | none => rfl
            | some w => rw [hq] at hn; exact (hn rfl).elim
          refine q Z2 H2 F2 ((.inr f, v1) :: ws) (G1 ++ G2) (g1.trans g2) ⟨.cons ko hg r1'.own k2.own dj, fun a ha => ?_, fun a ha => ?_⟩
          · rcases List.mem_append.mp ha with h | h
            · exact r1'.ap a h
            · exact k2.ap a h
          · rcases List.mem_append.mp ha with h | h
            · exact r1.nw a h
            · rcases k2.nw a h with z | z
              · exact g1.st.an a z
              · exact new_back g1.st z
      · cases e
    · cases e
theorem merge_own {K : PySem.W.Frag} {Z H : Hp} : ∀ {ms : List (Key × M)} {ws : List (Key × V)} {G : List Addr} (acc : List (Key × V)), OwnN K Z H ms ws G → (∀ kv ∈ acc, valV ws kv.1 = none) → mergeK acc ws = acc ++ ws
  | _, _, _, acc, .nil, _ => by rw [List.append_nil]; rfl
  | _, _, _, acc, @OwnN.cons _ _ _ _ k0 m0 v0 ms vs G G2 ko kn o t d, h => by
    have hn := ownN_get k0 t
    rw [kn] at hn
    have h1 : valV acc k0 = none := by
      cases hq : valV acc k0 with
      | none => rfl
      | some w =>
        unfold valV at hq
        obtain ⟨kv, h2, h3⟩ := Option.map_eq_some_iff.mp hq
        have h4 := List.mem_of_find?_eq_some h2
        have h5 := List.find?_some h2
        have h6 : kv.1 = k0 := by simpa using h5
        have := h kv h4
        rw [h6, valV_pos rfl] at this
        cases this
    show mergeK (putK acc k0 v0) vs = _
    rw [putK_none h1, merge_own _ t fun kv hm => ?_]
    · simp
    · rcases List.mem_append.mp hm with h2 | h2
      · have h3 := h kv h2
        by_cases q : k0 = kv.1
        · rw [valV_pos q] at h3; cases h3
        · rw [valV_neg q] at h3; exact h3
      · simp at h2
        subst h2
        exact hn
theorem snd_dd {t : Nat} {es : EL} {ks : List (Option Expr)} {vs : List Expr} {trs : List (TE × TE)} (h : KvOk X cx pos es ks vs trs) (h0 : ks ≠ []) (h15 : ks.length ≤ 15) : PE X (.Dict ks vs pos) (TEx X.K cx (ev cx (.dd t es))) := by
  obtain ⟨hp, ha, hl⟩ := h.pps
  refine PE.mono (pe_disp hp ha hl h0 h15) fun σ H Q ⟨Z, ρ, F, m, ρ', R, e, q⟩ => fun D hD => ?_
  simp only [ev] at e
  split at e
  · rename_i xs ρ1 e1
    cases e
    have g0 : Go X.K cx σ Z H ρ F Z (L2.upd H D (.dK [])) ρ F := (Go.refl R).alloc (.own R.sub hD)
    have hzD := z_none R.sub hD
    have hu : ¬ U F D := fun hu => by
      obtain ⟨_, w, hw, _⟩ := R.mem hu
      rw [hD] at hw; cases hw
    have o0 : Own X.K Z (L2.upd H D (.dK [])) (.d []) (.ref D) [D] := .d upd_same hzD .nil
    refine kv_chain h ⟨Z, ρ, F, xs, _, g0.rel, e1, fun Z2 H2 F2 ws G g2 k2 => ?_⟩
    obtain ⟨o2, n2⟩ := o0.step (fun a ha => by simp at ha; subst ha; exact hu) g2.st g2.rel.sub
    obtain ⟨a, vs2, hva, _, h2, hz2, r2⟩ := dic_case o2
    cases hva
    cases r2
    have hlen : ws.length ≤ 15 := by
      have h1 := valV_getA k2.own
      have h3 : ∀ {es : EL} {ks : List (Option Expr)} {vs : List Expr} {trs : List (TE × TE)}, KvOk X cx pos es ks vs trs → ∀ {ρ ρ' : Env} {xs : List (Key × M)}, evkv cx es ρ = some (xs, ρ') → xs.length = ks.length := by
        intro es ks vs trs hk
        induction hk with
        | nil => intro ρ ρ' xs e; simp only [evkv] at e; cases e; rfl
        | cons _ _ _ ih =>
          intro ρ ρ' xs e
          simp only [evkv] at e
          split at e
          · split at e
            · rename_i e5
              split at e
              · cases e
              · cases e
                rw [List.length_cons, List.length_cons, ih e5]
            · cases e
          · cases e
      rw [h1, h3 h e1]; exact h15
    refine ⟨h2, ws, rfl, hlen, ?_⟩
    rw [merge_own [] k2.own (fun _ h => by cases h), List.nil_append]
    have hDG : D ∉ G := fun hm => by
      rcases k2.nw D hm with z | z
      · exact hu z
      · rw [upd_same] at z; cases z
    have gs : Go X.K cx σ Z H ρ F Z2 (L2.upd H2 D (.dK ws)) _ F2 := ((g0.trans g2).gs.side hD (n2 D (by simp)) hz2).go
    refine q _ _ F2 (.ref D) (D :: G) gs ⟨.n upd_same hz2 (k2.own.keep (Sub.rfl' _) (fun a ha o ho => ?_) fun a ha => (k2.own.at_ a ha).1) hDG, fun a ha => ?_, fun a ha => ?_⟩
    · have : a ≠ D := fun z => hDG (z ▸ ha)
      rw [upd_ne this]; exact ho
    · rcases List.mem_cons.mp ha with z | z
      · subst z; exact n2 a (by simp)
      · exact k2.ap a z
    · rcases List.mem_cons.mp ha with z | z
      · subst z; exact .inr hD
      · rcases k2.nw a z with w | w
        · exact .inl w
        · by_cases qa : a = D
          · subst qa; exact (hDG z).elim
          · rw [upd_ne qa] at w; exact .inr w
  · cases e
/-- {k: v}, k may be None -/
theorem snd_dr {x y : Expr} {T : Tab} {k : Nat} {a b : E} (g : Good T k cx X) (hk : PE X x (TEx X.K cx (ev cx a))) (hv : PE X y (TEx X.K cx (ev cx b))) : PE X (.Dict [some x] [y] pos) (TEx X.K cx (ev cx (.dr a b))) := by
  refine PE.mono (pe_dispN g.at_ hk (px_of hv)) fun σ H Q ⟨Z, ρ, F, m, ρ', R, e, q⟩ => fun D hD => ?_
  simp only [ev] at e
  split at e
  · rename_i p ρ1 e1
    split at e
    · rename_i kk m1 ρ2 e2 e3
      split at e
      · rename_i xv e4
        split at e
        · rename_i hkn
          cases e
          have g0 : Go X.K cx σ Z H ρ F Z (L2.upd H D (NoneO D [])) ρ F := (Go.refl R).alloc (.own R.sub hD)
          have hzD := z_none R.sub hD
          have hu : ¬ U F D := fun hu => by
            obtain ⟨_, w, hw, _⟩ := R.mem hu
            rw [hD] at hw; cases hw
          have o0 : Own X.K Z (L2.upd H D (NoneO D [])) (.r []) (.ref D) [D] := .rn upd_same hzD .nil
          refine ⟨Z, ρ, F, .v p, ρ1, g0.rel, e1, fun Z1 H1 F1 v1 G1 g1 r1 => ?_⟩
          obtain ⟨ow, _, _⟩ := r1
          cases ow with
          | v rp =>
            refine ⟨Z1, ρ1, F1, xv, ρ', g1.rel, by unfold toPg; rw [e3]; simp only [e4], fun Z2 H2 F2 w g2 rw2 => ?_⟩
            have gg := g1.trans g2
            obtain ⟨o2, n2⟩ := o0.step (fun a ha => by simp at ha; subst ha; exact hu) gg.st gg.rel.sub
            have h2 : H2 D = some (NoneO D []) := gg.st.fr D _ upd_same hu
            have hz2 : Z2 D = none := (o2.at_ D (by simp)).1
            cases kk with
            | inr kk => cases hkn
            | inl kk =>
              obtain ⟨ey, ko⟩ := rkOf_v e2 rp
              refine ⟨h2, kk, ey, ?_⟩
              have gs : Go X.K cx σ Z H ρ F Z2 (L2.upd H2 D (NoneO D [(kk, w)])) _ F2 := ((g0.trans gg).gs.side hD (n2 D (by simp)) hz2).go
              refine q _ _ F2 (.ref D) [D] gs ⟨.rn upd_same hz2 (.cons ⟨rfl, ko, rw2⟩ .nil), fun a ha => ?_, fun a ha => ?_⟩
              · simp at ha; subst ha; exact n2 a (by simp)
              · simp at ha; subst ha; exact .inr hD
        · cases e
      · cases e
    · cases e
  · cases e
/-- an entry of a nested dict is exchanged in the heap -/
theorem Go.mutN {K : PySem.W.Frag} {X : Cxt} {σ : St} {Z H Z1 H1 : Hp} {ρ ρ1 : Env} {F F1 : Nat → List Addr} {i : Nat} {a b : Addr} {kk : Key} {m m' : M} {ms : List (Key × M)} {vs : List (Key × V)} {G1 : List Addr} {u u' : HO} (g : Go K X σ Z H ρ F Z1 H1 ρ1 F1) (e : slot ρ1 i = some (.n ms)) (hs : σ[i]? = some (some (.ref a)))
    (hG : F1 i = a :: G1) (h : H1 a = some (.dK vs)) (hz : Z1 a = none) (r : OwnN K Z1 H1 ms vs G1) (na : a ∉ G1) (eg : getA ms kk = some m) (hv : valV vs kk = some (.ref b)) (hb : H1 b = some u) (nf : ∀ o' w, u ≠ .frz o' w)
    (ho : ∀ Gk, Own K Z1 H1 m (.ref b) Gk → Gk = [b]) (o : Own K Z1 (L2.upd H1 b u') m' (.ref b) [b]) : ∃ F2, Go K X σ Z H ρ F Z1 (L2.upd H1 b u') (ρ1.set i (some (.n (putA ms kk m')))) F2 := by
  obtain ⟨v, Gk, k1, k2, k3, k4⟩ := ownN_upd (A' := (· ∈ [b])) kk r eg
  rw [hv] at k1
  cases k1
  have := ho Gk k2
  subst this
  have hbG : b ∈ G1 := k3 b (by simp)
  have hab : a ≠ b := fun z => na (z ▸ hbG)
  have zb : Z1 b = none := (r.at_ b hbG).1
  have sb : Sub Z1 (L2.upd H1 b u') := fun c w hc => by
    have : c ≠ b := fun q => by subst q; rw [zb] at hc; cases hc
    rw [upd_ne this]; exact g.rel.sub c w hc
  have st : Step Z1 H1 Z1 (L2.upd H1 b u') (· ∈ [b]) (· ∈ [b]) := ⟨fun c w hc n => by rw [upd_ne (fun q => n (by simp [q]))]; exact hc, Sub.rfl' _, fun _ _ h => .inl h, fun _ h => .inl h, fun c o' w hc => by
    by_cases q : c = b
    · subst q; rw [hb] at hc; cases hc; exact (nf _ _ rfl).elim
    · rw [upd_ne q]; exact hc⟩
  obtain ⟨G3, r3, k5⟩ := k4 (v' := .ref b) st sb o (fun x hx => .inl hx)
  rw [putK_same r hv] at r3
  refine ⟨_, g.mut (a := b) (u := u) (u' := u') (m' := .n (putA ms kk m')) (G := a :: G3) e rfl hs (by rw [hG]; exact List.mem_cons_of_mem _ hbG) hb nf (.n (by rw [upd_ne hab]; exact h) hz r3 (fun hm => ?_)) (fun c hc => .inl ?_)⟩
  · rcases k5 a hm with z | z
    · exact na z
    · simp at z; exact hab z
  · rw [hG]
    rcases List.mem_cons.mp hc with z | z
    · simp [z]
    · rcases k5 c z with w | w
      · simp [w]
      · simp at w; subst w; exact List.mem_cons_of_mem _ hbG
/-- a variable that is held aside meanwhile -/
theorem aside {K : PySem.W.Frag} {X : Cxt} {σ : St} {Z H Z1 H1 : Hp} {ρ ρ1 : Env} {F F1 : Nat → List Addr} {i : Nat} {m : M} (R : Rel K Z H σ ρ F) (e : slot ρ i = some m) (nk : isLk (some m) = false) (g : Go K X σ Z H (ρ.set i none) (fset F i []) Z1 H1 ρ1 F1) (hn : slot ρ1 i = none) :
    Go K X σ Z H ρ F Z1 H1 (ρ1.set i (some m)) (fset F1 i (F i)) ∧ (∀ a ∈ F i, ∀ o, H a = some o → H1 a = some o) ∧ ∀ a ∈ F i, Z1 a = none := by
  obtain ⟨v, h1, h2, h3⟩ := R.del_own e
  obtain ⟨o2, n2⟩ := h2.step h3 g.st g.rel.sub
  have hi : i < ρ1.length := by rw [g.lk.len, List.length_set]; exact slot_lt e
  refine ⟨⟨g.rel.put hn hi h1 o2 n2, ⟨fun a o h n => g.st.fr a o h fun q => n (U_del q), g.st.zz, fun a o h => ?_, fun a h => ?_, g.st.fz⟩, ⟨fun j n hj => ?_, fun j hp hj => ?_, by rw [List.length_set, g.lk.len, List.length_set]⟩⟩, fun a ha o ho => g.st.fr a o ho (h3 a ha), fun a ha => (o2.at_ a ha).1⟩
  · rcases g.st.zn a o h with h | h | h | h
    · exact .inl h
    · exact .inr (.inl (U_del h))
    · exact .inr (.inr (.inl h))
    · exact .inr (.inr (.inr h))
  · rcases U_fset_sub h with h | h
    · exact .inl ⟨i, h⟩
    · rcases g.st.an a h with h | h
      · exact .inl (U_del h)
      · exact .inr h
  · have q : i ≠ j := fun z => by subst z; rw [e] at hj; cases hj; cases nk
    rw [slot_other _ q]
    exact g.lk.lk j n (by rw [slot_other _ q]; exact hj)
  · by_cases q : i = j
    · subst q; rw [slot_self _ hi]; exact fun z => nomatch z
    · rw [slot_other _ q]
      exact g.lk.pm j hp (by rw [slot_other _ q]; exact hj)
theorem snd_stf {i : Nat} {f : Str} {jj : Nat} {kx e : E} (g : Good T k cx X) (ho : PE X x (tVar i)) (hk : PE X y (TEx X.K cx (ev cx kx))) (he : PE X z (TEx X.K cx (ev cx e))) :
    PS X (.Assign [.Subscript (.Subscript x (.Constant (.str f) jj p3) p4) y p2] z pos) (TSt X.K cx (evs cx (.stf i f kx e))) := PS.mono (ps_dput (pos' := p2) (by have := g.room.units; omega) (pe_dget (by have := g.room.units; omega) ho (pe_str (x := f)) (fun _ _ => rfl)) hk (px_of he) swaps_sub) fun D σ H ⟨Z, ρ, F, fl, ρ', R, e0, q⟩ => by
  simp only [evs] at e0
  split at e0
  · cases e0
  rename_i hsome
  obtain ⟨ps0, em0⟩ := isNd_of hsome
  obtain ⟨ov, hov, _⟩ := R.own i _ em0
  split at e0
  · rename_i m ρ1 e1
    split at e0
    · rename_i xv e2
      split at e0
      · rename_i kvs e3
        split at e0
        · rename_i kv2 e4
          split at e0
          · rename_i p ρ2 e5
            split at e0
            · rename_i kk e6 e7
              split at e0
              · rename_i hlim
                cases e0
                refine ⟨Z, ρ, F, xv, ρ1, R, by unfold toPg; rw [e1]; simp only [e2], fun Z1 H1 F1 w g1 rw1 => ?_⟩
                obtain ⟨ov2, h1, h2⟩ := g1.rel.own i _ e3
                rw [hov] at h1; cases h1
                have hG : ∃ G, F1 i = G := ⟨_, rfl⟩
                obtain ⟨G, hG⟩ := hG
                rw [hG] at h2
                obtain ⟨a, vs, G1, rfl, hG2, h, hz, r, na⟩ := nst_case h2
                subst hG2
                obtain ⟨v, Gk, k1, k2, k3⟩ := own_at r e4
                obtain ⟨b, ws, rfl, hGk, hb, hzb, rb⟩ := dic_case k2
                subst hGk
                have hbG : b ∈ G1 := k3 b (by simp)
                refine ⟨_, hov, a, .ref b, rfl, by rw [← k1]; exact DGet.k (k := .inr f) h, Z1, _, fset F1 i [], .v p, ρ2, g1.rel.del i, e5, fun Z2 H2 F2 yv Gy g2 r2 => ?_⟩
                obtain ⟨oy, _, _⟩ := r2
                cases oy with
                | v rp =>
                  obtain ⟨rfl, ko, _⟩ := keyOf_v e7 rp
                  obtain ⟨g3, fr, zn⟩ := aside g1.rel e3 rfl g2 e6
                  have hF : ∀ c ∈ a :: G1, c ∈ F1 i := fun c hc => by rw [hG]; exact hc
                  have h' := fr a (hF a (by simp)) _ h
                  have hb' := fr b (hF b (List.mem_cons_of_mem _ hbG)) _ hb
                  have r' : OwnN X.K Z2 H2 kvs vs G1 := r.keep g3.st.zz (fun c hc o ho => fr c (hF c (List.mem_cons_of_mem _ hc)) o ho) fun c hc => zn c (hF c (List.mem_cons_of_mem _ hc))
                  have e3' : slot (ρ2.set i (some (.n kvs))) i = some (.n kvs) := slot_self _ (by rw [g2.lk.len, List.length_set]; exact slot_lt e3)
                  obtain ⟨F4, g4⟩ := (g1.trans g3).mutN (u' := .dK (putK ws kk w)) (m' := .d (putA kv2 kk xv)) e3' hov (by rw [fset_self, hG]) h' (zn a (hF a (by simp))) r' na e4 k1.symm.symm hb' (fun _ _ z => by cases z) (fun Gk' o' => by
                    cases o' with
                    | d _ _ _ => rfl) (.d upd_same (zn b (hF b (List.mem_cons_of_mem _ hbG))) (dRel_put (dRel_sub g3.st.zz rb) ko (rw1.sub g3.st.zz)))
                  rw [List.set_set] at g4
                  exact ⟨b, _, rfl, DPut.k hb' (by rw [dRel_len rb]; exact Nat.lt_of_lt_of_le hlim LIM_line), q _ _ _ _ g4.gs⟩
              · cases e0
            · cases e0
          · cases e0
        · cases e0
      · cases e0
    · cases e0
  · cases e0
/-- d.setdefault(k, []).append(x) -/
theorem snd_sda {i : Nat} {kx e : E} {apos2 : Pos} {cpos : Pos} (ho : PE X x (tVar i)) (hk : PE X y (TEx X.K cx (ev cx kx))) (he : PE X z (TEx X.K cx (ev cx e))) (h0 : notCall0 x = true) (hs : notStar y = true) (hs2 : notStar z = true) (hl : (apos.endLine == cpos.line) = true) (hl2 : (apos2.endLine == p2.line) = true) :
    PS X (.Expr (.Call (.Attribute (.Call (.Attribute x "setdefault" apos) [y, .List [] p3] [] cpos) "append" apos2) [z] [] p2) pos) (TSt X.K cx (evs cx (.sda i kx e))) :=
  PS.mono (ps_expr (pe_bm PySem.F.plainAttrs_list PySem.F.slot_list_append PySem.F.type_list_append mt_append (pe_dsetd ho hk (pe_lst pa_nil) (m2_of h0 hs rfl hl)) (ps_cons he ps_nil (star_of hs2)) (base_of rfl) (few_of hs2) hl2 (star_of hs2) plain0) (swaps_of rfl)) fun D σ H ⟨Z, ρ, F, fl, ρ', R, e0, q⟩ => by
    simp only [evs] at e0
    split at e0
    · cases e0
    rename_i hsome
    obtain ⟨ps0, em0⟩ := isNd_of hsome
    obtain ⟨ov, hov, o0⟩ := R.own i _ em0
    obtain ⟨a, vs0, G0, rfl, _, ha0, _, _, _⟩ := nst_case o0
    split at e0
    · rename_i p ρ1 e1
      split at e0
      · rename_i kvs kk e2 e3
        split at e0
        · cases e0
        · rename_i ps es
          split at e0
          · rename_i m2 ρ2 e4
            split at e0
            · rename_i xv e5 e6
              cases e0
              refine ⟨_, hov, a, rfl, .inl ⟨_, .inl ha0⟩, Z, ρ, F, _, ρ1, R, e1, fun Z1 H1 F1 yv Gy g1 r1 => ⟨Nat.zero_le _, fun L hL => ?_⟩⟩
              obtain ⟨oy, _, _⟩ := r1
              cases oy with
              | v rp =>
                obtain ⟨rfl, ko, _⟩ := keyOf_v e3 rp
                have hzL : Z1 L = none := z_none g1.rel.sub hL
                have hLU : ¬ U F1 L := fun hu => by
                  obtain ⟨_, w, hw, _⟩ := g1.rel.mem hu
                  rw [hL] at hw; cases hw
                have g2 := g1.alloc (.own (o := .lst []) g1.rel.sub hL)
                obtain ⟨ov2, h1, h2⟩ := g2.rel.own i _ e2
                rw [hov] at h1; cases h1
                have hG : ∃ G, F1 i = G := ⟨_, rfl⟩
                obtain ⟨G, hG⟩ := hG
                rw [hG] at h2
                obtain ⟨a2, vs, G1, hva, hG2, h, hz, r, na⟩ := nst_case h2
                cases hva
                subst hG2
                -- behind the default: the list is there, at b, in the dict
                have there : ∀ {H3 : Hp} {F3 : Nat → List Addr} {vs3 : List (Key × V)} {G3 : List Addr} {b : Addr} {ws : List V} {kvs3 : List (Key × M)}, Go X.K cx σ Z H ρ F Z1 H3 (ρ1.set i (some (.n kvs3))) F3 → F3 i = a :: G3 → H3 a = some (.dK vs3) → OwnN X.K Z1 H3 kvs3 vs3 G3 → a ∉ G3 →
                    getA kvs3 kk = some (.l ps) → valV vs3 kk = some (.ref b) → H3 b = some (.lst ws) → RepL X.K Z1 ws ps → b ∈ G3 → ps.length < LIM → (∀ y, putA kvs3 kk y = putA kvs kk y) →
                    (fun x H1 => tyV X.K "list" x H1 ∧ TPs X.K cx (evp cx (.cons e .nil)) σ H1 fun xs H2 => rAppend x xs H2 fun _ H3 => D.nx σ H3) (V.ref b) H3 := by
                  intro H3 F3 vs3 G3 b ws kvs3 g3 hF3 ha3 r3 na3 eg hv hb rb hbG hlim hput
                  have el : slot (ρ1.set i (some (.n kvs3))) i = some (.n kvs3) := slot_self _ (slot_lt e2)
                  refine ⟨Or.inl ⟨rfl, _, SqL.of hb⟩, Z1, _, fset F3 i [], [xv], ρ2, (g3.rel.del i), ?_, fun Z4 H4 F4 us g4 rl => ?_⟩
                  · rw [List.set_set]
                    exact toPg_evp e4 e5
                  · obtain ⟨w, rfl, rw4⟩ := repL1 rl
                    obtain ⟨g5, fr, zn⟩ := aside g3.rel el rfl g4 e6
                    have hF : ∀ c ∈ a :: G3, c ∈ F3 i := fun c hc => by rw [hF3]; exact hc
                    have ha' := fr a (hF a (by simp)) _ ha3
                    have hb' := fr b (hF b (List.mem_cons_of_mem _ hbG)) _ hb
                    have r' : OwnN X.K Z4 H4 kvs3 vs3 G3 := r3.keep g5.st.zz (fun c hc o ho => fr c (hF c (List.mem_cons_of_mem _ hc)) o ho) fun c hc => zn c (hF c (List.mem_cons_of_mem _ hc))
                    have el5 : slot (ρ2.set i (some (.n kvs3))) i = some (.n kvs3) := slot_self _ (by rw [g4.lk.len, List.length_set, List.length_set]; exact slot_lt e2)
                    obtain ⟨F6, g6⟩ := (g3.trans g5).mutN (u' := .lst (ws ++ [w])) (m' := .l (ps ++ [xv])) el5 hov (by rw [fset_self, hF3]) ha' (zn a (hF a (by simp))) r' na3 eg hv hb' (fun _ _ z => by cases z) (fun Gk' o' => by
                      cases o' with
                      | l _ _ _ => rfl) (.l upd_same (zn b (hF b (List.mem_cons_of_mem _ hbG))) ((rb.sub g5.st.zz).app (.one rw4)))
                    rw [List.set_set, hput] at g6
                    exact ⟨b, ws, w, rfl, rfl, hb', by rw [rb.length]; exact Nat.lt_of_lt_of_le hlim LIM_line, q _ _ _ _ g6.gs⟩
                have hzL2 : L ≠ a := fun z => by
                  subst z
                  exact hLU ⟨i, by rw [hG]; simp⟩
                unfold sdN at es
                split at es
                · rename_i ps2 eg
                  split at es
                  · rename_i hlim
                    cases es
                    obtain ⟨v, Gk, k1, k2, k3⟩ := own_at r eg
                    obtain ⟨b, ws, rfl, hGk, hb, hzb, rb⟩ := lst_case k2
                    subst hGk
                    have hbG : b ∈ G1 := k3 b (by simp)
                    have e2' : ρ1.set i (some (.n kvs)) = ρ1 := by
                      apply List.ext_getElem?
                      intro j
                      by_cases qj : i = j
                      · subst qj
                        rw [List.getElem?_set_self (slot_lt e2)]
                        unfold slot at e2
                        cases hq : ρ1[i]? with
                        | none => rw [hq] at e2; cases e2
                        | some o => rw [hq] at e2; cases o with
                          | none => cases e2
                          | some m => cases e2; rfl
                      · rw [List.getElem?_set_ne qj]
                    refine ⟨vs, kk, h, rfl, ?_, fun v hv => ?_, fun hv => ?_⟩
                    · rw [valV_getA r]; exact Nat.lt_of_lt_of_le hlim.2 LIM_line
                    · rw [k1] at hv; cases hv
                      exact there (by rw [e2']; exact g2) hG h r na eg k1 hb rb hbG hlim.1 (fun _ => rfl)
                    · rw [k1] at hv; cases hv
                  · cases es
                · rename_i eg
                  split at es
                  · rename_i hlim
                    cases es
                    have hn := ownN_get kk r
                    rw [eg] at hn
                    refine ⟨vs, kk, h, rfl, by rw [valV_getA r]; exact Nat.lt_of_lt_of_le hlim LIM_line, fun v hv => ?_, fun _ => ?_⟩
                    · have hn : valV vs kk = none := hn
                      rw [hn] at hv; cases hv
                    · have hn : valV vs kk = none := hn
                      have ha1 : H1 a = some (.dK vs) := by rw [upd_ne (Ne.symm hzL2)] at h; exact h
                      have hLG : L ∉ G1 := fun z => hLU ⟨i, by rw [hG]; exact List.mem_cons_of_mem _ z⟩
                      have r1' : OwnN X.K Z1 (L2.upd (L2.upd H1 L (.lst [])) a (.dK (putK vs kk (.ref L)))) kvs vs G1 := r.keep (Sub.rfl' _) (fun c hc o ho => by
                        have : c ≠ a := fun z => na (z ▸ hc)
                        rw [upd_ne this]; exact ho) fun c hc => (r.at_ c hc).1
                      obtain ⟨G3, r3, k5⟩ := ownN_new (G := G1) (v := .ref L) (m := .l []) (G' := [L]) r1' ko eg (.l (by rw [upd_ne hzL2]; exact upd_same) hzL .nil) (fun c hc => by simp at hc; subst hc; exact hLG)
                      rw [← putA_none eg, ← putK_none hn] at r3
                      have na3 : a ∉ G3 := fun hm => by
                        rcases k5 a hm with z | z
                        · exact na z
                        · simp at z; exact hzL2 z.symm
                      have eg3 : getA (putA kvs kk (.l [])) kk = some (.l []) := by rw [getA_put, if_pos rfl]
                      obtain ⟨v3, Gk, q1, q2, q3⟩ := own_at r3 eg3
                      have hv3 : valV (putK vs kk (.ref L)) kk = some (.ref L) := by
                        rw [putK_none hn]
                        unfold valV at hn ⊢
                        rw [List.find?_append]
                        rw [Option.map_eq_none_iff] at hn
                        rw [hn]
                        simp
                      rw [hv3] at q1
                      cases q1
                      obtain ⟨b, ws, hb1, hGk, hb, hzb, rb⟩ := lst_case q2
                      cases hb1
                      subst hGk
                      have hs3 : Sub Z1 (L2.upd (L2.upd H1 L (.lst [])) a (.dK (putK vs kk (.ref L)))) := fun c w hc => by
                        have h1 : c ≠ a := fun z => by subst z; rw [hz] at hc; cases hc
                        have h2 : c ≠ L := fun z => by subst z; rw [hzL] at hc; cases hc
                        rw [upd_ne h1, upd_ne h2]; exact g1.rel.sub c w hc
                      have haF : a ∈ F1 i := by rw [hG]; simp
                      have st : Step Z1 H1 Z1 (L2.upd (L2.upd H1 L (.lst [])) a (.dK (putK vs kk (.ref L)))) (· ∈ F1 i) (· ∈ F1 i) := ⟨fun c w hc n => by
                        have h1 : c ≠ a := fun z => n (z ▸ haF)
                        have h2 : c ≠ L := fun z => by subst z; rw [hL] at hc; cases hc
                        rw [upd_ne h1, upd_ne h2]; exact hc, Sub.rfl' _, fun _ _ h => .inl h, fun _ h => .inl h, fun c o' w hc => by
                        have h1 : c ≠ a := fun z => by subst z; rw [ha1] at hc; cases hc
                        have h2 : c ≠ L := fun z => by subst z; rw [hL] at hc; cases hc
                        rw [upd_ne h1, upd_ne h2]; exact hc⟩
                      obtain ⟨w1, w2⟩ := g1.rel.upd (m := .n (putA kvs kk (.l []))) (G := a :: G3) e2 st hs3 hov (.n upd_same hz r3 na3) (fun c hc => by
                        rcases List.mem_cons.mp hc with z | z
                        · subst z; exact .inl haF
                        · rcases k5 c z with z | z
                          · exact .inl (by rw [hG]; exact List.mem_cons_of_mem _ z)
                          · simp at z; subst z; exact .inr hL)
                      exact there (ws := ws) ⟨w1, g1.st.trans w2, g1.lk.trans (lk_set e2 rfl)⟩ (fset_self _ _ _) upd_same r3 na3 eg3 hv3 hb rb (q3 L (by simp)) (show 0 < LIM by decide) (fun y => by
                        rw [putA_none eg, putA_none eg]
                        have hany : ((kvs ++ [(kk, M.l [])]).any fun kv => decide (kv.1 = kk)) = true := by simp
                        unfold putA
                        rw [if_pos hany, List.map_append, List.map_cons, if_pos rfl]
                        have hm : (kvs.map fun kv => if kv.1 = kk then (kv.1, y) else kv) = kvs := by
                          have : ∀ {l : List (Key × M)}, getA l kk = none → (l.map fun kv => if kv.1 = kk then (kv.1, y) else kv) = l := by
                            intro l
                            induction l with
                            | nil => intro _; rfl
                            | cons p r ih =>
                              intro hn
                              by_cases q : p.1 = kk
                              · simp [getA, List.find?_cons, q] at hn
                              · rw [List.map_cons, if_neg q, ih (by simpa [getA, List.find?_cons, q] using hn)]
                          exact this eg
                        rw [hm]
                        rfl)
                  · cases es
                · cases es
            · cases e0
          · cases e0
      · cases e0
    · cases e0
end
end Mn
end
section
set_option maxHeartbeats 200000
namespace Mn
open PySem L2 PySem.Spec
variable [WW]
theorem zip_no_len : typeLookup (.type "zip") "__len__" = pure none := am_miss_of_fast (by decide +kernel)
theorem zip_no_hint : typeLookup (.type "zip") "__length_hint__" = pure none := am_miss_of_fast (by decide +kernel)
section
variable {X : Cx} {pins : List (Addr × Obj)} {σ : St} {a b z TI TO i1 i2 : Addr}
abbrev zfp (z TI TO i1 i2 : Addr) : List Addr := [z, TI, TO, i1, i2]
/-- the zip at turn i -/
def ZAt (h : Heap) (a b z TI TO i1 i2 : Addr) (i : Nat) : Prop := IsPair h TI (.ref i1) (.ref i2) ∧ h.IsListIter i1 a i ∧ h.IsListIter i2 b i ∧ (∃ x y, IsPair h TO x y) ∧
  (IsZip h z TI TO .none ∨ ∃ T f x y, IsZipHeld h z TI TO T f ∧ IsPair h T x y ∧ T ≠ z ∧ T ≠ i1 ∧ T ≠ i2)
/-- the new list and its pairs so far -/
structure ZRes (H0 H : Hp) (S : Addr) (xs ys : List V) (i : Nat) (Ts : List Addr) : Prop where
  sub : Sub H0 H
  lst : H S = some (.lst (Ts.map V.ref))
  fr : ∀ T ∈ Ts, H0 T = none ∧ T ≠ S
  len : Ts.length = i
  pr : ∀ (j : Nat) (T : Addr) (x y : V), Ts[j]? = some T → xs[j]? = some x → ys[j]? = some y → H T = some (.tup [x, y])
theorem fpOk_sub {H H' : Hp} {c : Addr} (f : FpOk X pins H c) (h : H' c = none) : FpOk X pins H' c := ⟨h, f.2⟩
theorem IsL.upd_other {h : Heap} {S c : Addr} {f : Array Value → Array Value} {o : Obj} (hc : c ≠ S) (e : h.get? c = some o) : (h.update S (Obj.mapSeq f)).get? c = some o := (Heap.get?_update_other _ _ (Ne.symm hc)).trans e
theorem ZAt.keep {h h' : Heap} {i : Nat} (D : ZipApart z TI TO i1 i2 a b) (st : ZAt h a b z TI TO i1 i2 i) (k : ∀ c o, h.get? c = some o → (c ∈ zfp z TI TO i1 i2 ∨ ∃ x, o = { cls := .type "tuple", data := x }) → h'.get? c = some o)
    : ZAt h' a b z TI TO i1 i2 i := by
  obtain ⟨hTI, h1, h2, ⟨x0, y0, hTO⟩, hz⟩ := st
  refine ⟨k _ _ hTI (.inl (by simp)), h1.at fun o e => k _ o e (.inl (by simp)), h2.at fun o e => k _ o e (.inl (by simp)), ⟨x0, y0, k _ _ hTO (.inl (by simp))⟩, ?_⟩
  rcases hz with hz | ⟨T, f, x, y, hz, hT, r⟩
  · exact .inl (k _ _ hz (.inl (by simp)))
  · exact .inr ⟨T, f, x, y, k _ _ hz (.inl (by simp)), k _ _ hT (.inr ⟨_, rfl⟩), r⟩
variable {A : Around} {R : Result → Shared → Prop} {H0 : Hp} {S : Addr} {xs ys : List V} {n : Nat}
theorem zip_loop (hA : A.handled = none) (D : ZipApart z TI TO i1 i2 a b) (hq1 : SqL X.K H0 a xs) (hq2 : SqL X.K H0 b ys) (hn : n = min xs.length ys.length) (hsz : n ≤ sizeLine) (hS0 : H0 S = none) (hSf : S ∉ zfp z TI TO i1 i2) :
    ∀ (k i : Nat) (s : Shared) (H : Hp) (Ts : List Addr), n - i = k → i ≤ n → Inv X pins σ H s → (∀ c ∈ zfp z TI TO i1 i2, FpOk X pins H c) → ZAt s.heap a b z TI TO i1 i2 i → ZRes H0 H S xs ys i Ts →
    (∀ s' H' Ts', Inv X pins σ H' s' → ZRes H0 H' S xs ys n Ts' → R (.ok (.ret .none)) s') →
    codeAny (model X.prog X.w) A (.builtin "list.extend.loop" ⟨[.ref S, .ref z, .none], []⟩) R s := by
  intro k
  induction k with
  | zero =>
    intro i s H Ts hk hi I hf st zr hR
    have hin : i = n := by omega
    subst hin
    obtain ⟨hTI, h1, h2, ⟨x0, y0, hTO⟩, hz⟩ := st
    obtain ⟨its, rv, p, _⟩ := I.list (sqL_sub zr.sub hq1)
    obtain ⟨its2, rv2, p2, _⟩ := I.list (sqL_sub zr.sub hq2)
    have l1 := rv.length
    have l2 := rv2.length
    have he : its.toArray[i]? = none ∨ its2.toArray[i]? = none := by
      rcases Nat.le_total xs.length ys.length with h | h
      · exact .inl (by simp; omega)
      · exact .inr (by simp; omega)
    refine codeAny_builtin F.entry_extend_loop ?_
    rw [Around.under_plainId F.plain_extend_loop _]
    show wpAny _ A.in1 (pyNext (.ref z) >>= _) _ _ s
    have fin : ∀ h', (∀ c o, c ≠ z → c ≠ i1 → c ≠ i2 → c ≠ TO → s.heap.get? c = some o → h'.get? c = some o) → R (.ok (.ret .none)) { s with heap := h' } := fun h' hk' =>
      hR _ H Ts (I.turnedL (t' := s.toks) (ch := zfp z TI TO i1 i2) (fun c o hb q => hk' c o (fun q' => hb (by simp [q'])) (fun q' => hb (by simp [q'])) (fun q' => hb (by simp [q'])) (fun q' => hb (by simp [q'])) q) hf) zr
    rcases hz with hz | ⟨T, f, x, y, hz, hT, r1, r2, r3⟩
    · exact wpAny_bind (wpAny_pyNext_zip_end hA D hz hTI hTO h1 h2 p.isList p2.isList he fun h' hk' => wpAny_pure (fin h' fun c o c1 c2 c3 c4 e => hk' c o c1 c4 c2 c3 e))
    · exact wpAny_bind (wpAny_pyNext_zip_end_held hA D hz hT hTI h1 h2 p.isList p2.isList he fun h' hk' => wpAny_pure (fin h' fun c o c1 c2 c3 c4 e => hk' c o c1 c2 c3 e))
  | succ k ih =>
    intro i s H Ts hk hi I hf st zr hR
    have hlt : i < n := by omega
    obtain ⟨hTI, h1, h2, ⟨x0, y0, hTO⟩, hz⟩ := st
    obtain ⟨its, rv, p, _⟩ := I.list (sqL_sub zr.sub hq1)
    obtain ⟨its2, rv2, p2, _⟩ := I.list (sqL_sub zr.sub hq2)
    have hxl : i < xs.length := by omega
    have hyl : i < ys.length := by omega
    have hx : xs[i]? = some xs[i] := List.getElem?_eq_getElem hxl
    have hy : ys[i]? = some ys[i] := List.getElem?_eq_getElem hyl
    generalize xs[i] = x at hx
    generalize ys[i] = y at hy
    obtain ⟨u, hu, ru⟩ := rv.get hx
    obtain ⟨u2, hu2, ru2⟩ := rv2.get hy
    refine codeAny_builtin F.entry_extend_loop ?_
    rw [Around.under_plainId F.plain_extend_loop _]
    show wpAny _ A.in1 (pyNext (.ref z) >>= _) _ _ s
    -- the pair has come
    have go : ∀ h', (ZAt h' a b z TI TO i1 i2 (i + 1)) → IsPair h' s.heap.objs.size u u2 → (∀ c o, c ∉ zfp z TI TO i1 i2 → s.heap.get? c = some o → h'.get? c = some o) →
        wpAny (model X.prog X.w) A.in1 (updateSeq S (·.push (.ref s.heap.objs.size)) >>= fun _ => again (.builtin "list.extend.loop" ⟨[.ref S, .ref z, .none], []⟩))
          (fun fin s' => match fin with | .done f => R (.ok f) s' | .again c' => c'.quiet = true ∧ codeAny (model X.prog X.w) A c' R s') (fun e s' => R (.error e) s') { s with heap := h' } := by
      intro h' st' hT hk'
      have new : ObjOk X.prog X.w (L2.upd H s.heap.objs.size (.tup [x, y])) h' s.heap.objs.size (.tup [x, y]) :=
        ⟨by show 2 ≤ sizeLine; exact lim_le (by decide), [u, u2], .cons ru (.cons ru2 .nil), ⟨_, hT, rfl, _, rfl⟩⟩
      have I1 : Inv X pins σ (L2.upd H s.heap.objs.size (.tup [x, y])) { s with heap := h' } := I.turnedNew (t' := s.toks) (ch := zfp z TI TO i1 i2) hk' hf (Nat.le_refl _) new
      have hTn : H s.heap.objs.size = none := I.hok.fresh (Nat.le_refl _)
      have hST : S ≠ s.heap.objs.size := fun q => by
        have := zr.lst
        rw [q, hTn] at this; cases this
      have hS1 : (L2.upd H s.heap.objs.size (.tup [x, y])) S = some (.lst (Ts.map V.ref)) := by rw [upd_ne hST]; exact zr.lst
      obtain ⟨itsS, nS, rS, eS, zS⟩ := I1.lst hS1
      have hlS : itsS.length = i := by rw [← rS.length, List.length_map, zr.len]
      refine wpAny_bind (wpAny_updateSeq eS rfl (wpAny_pure ⟨plainId_quiet F.plain_extend_loop _, ?_⟩) (by rw [List.size_toArray]; omega) (by show (itsS.toArray.push _).size ≤ sizeLine + 1; rw [Array.size_push, List.size_toArray]; omega))
      have I2 := I1.lset (t' := s.toks) (f := (·.push (.ref s.heap.objs.size))) (ys := (Ts ++ [s.heap.objs.size]).map V.ref) (its' := itsS ++ [.ref s.heap.objs.size]) hS1 eS (by simp) (by rw [List.map_append]; exact rS.append (.cons rfl .nil)) (by simp [zr.len]; omega)
      have hne : ∀ c ∈ zfp z TI TO i1 i2, c ≠ s.heap.objs.size := fun c hc q => by
        subst q
        have : ∀ {o}, s.heap.get? s.heap.objs.size = some o → False := fun e => Nat.lt_irrefl _ (Heap.lt_size e)
        have e' : s.heap.objs.size = z ∨ s.heap.objs.size = TI ∨ s.heap.objs.size = TO ∨ s.heap.objs.size = i1 ∨ s.heap.objs.size = i2 := by simpa using hc
        rcases e' with q | q | q | q | q
        · rcases hz with hz | ⟨T, f, x1, y1, hz, _⟩
          · rw [q] at this; exact this hz
          · rw [q] at this; exact this hz
        · rw [q] at this; exact this hTI
        · rw [q] at this; exact this hTO
        · obtain ⟨o, e, _⟩ := h1; rw [q] at this; exact this e
        · obtain ⟨o, e, _⟩ := h2; rw [q] at this; exact this e
      refine ih (i + 1) _ (L2.upd (L2.upd H s.heap.objs.size (.tup [x, y])) S (.lst ((Ts ++ [s.heap.objs.size]).map V.ref))) (Ts ++ [s.heap.objs.size]) (by omega) hlt I2 (fun c hc => ?_) (st'.keep D fun c o e hcc => ?_) ?_ hR
      · refine fpOk_sub (hf c hc) ?_
        have h1 : c ≠ S := fun q => hSf (q ▸ hc)
        rw [upd_ne h1, upd_ne (hne c hc)]
        exact (hf c hc).1
      · refine IsL.upd_other (fun q => ?_) e
        subst q
        rcases hcc with h | ⟨w, h⟩
        · exact hSf h
        · subst h
          rw [eS] at e
          simp at e
      · refine ⟨fun c w hc => ?_, upd_same, fun T hT' => ?_, by simp [zr.len], fun j T x' y' e1 e2 e3 => ?_⟩
        · have h1 : c ≠ S := fun q => by subst q; rw [hS0] at hc; cases hc
          have h2 : c ≠ s.heap.objs.size := fun q => by
            subst q
            rw [zr.sub _ _ hc] at hTn; cases hTn
          rw [upd_ne h1, upd_ne h2]; exact zr.sub c w hc
        · rcases List.mem_append.mp hT' with h | h
          · exact zr.fr T h
          · simp at h
            subst h
            refine ⟨?_, Ne.symm hST⟩
            cases hq : H0 s.heap.objs.size with
            | none => rfl
            | some w => rw [zr.sub _ _ hq] at hTn; cases hTn
        · by_cases hj : j < Ts.length
          · rw [List.getElem?_append_left hj] at e1
            have := zr.pr j T x' y' e1 e2 e3
            have h1 : T ≠ S := (zr.fr T (List.mem_of_getElem? e1)).2
            have h2 : T ≠ s.heap.objs.size := fun q => by subst q; rw [this] at hTn; cases hTn
            rw [upd_ne h1, upd_ne h2]; exact this
          · have hj2 : j = i := by
              have := (List.getElem?_eq_some_iff.mp e1).1
              simp [zr.len] at this
              have := zr.len
              omega
            subst hj2
            rw [List.getElem?_append_right (by rw [zr.len]; exact Nat.le_refl _), zr.len, Nat.sub_self] at e1
            simp at e1
            subst e1
            rw [hx] at e2; cases e2
            rw [hy] at e3; cases e3
            rw [upd_ne (Ne.symm hST), upd_same]
    rcases hz with hz | ⟨T, f, x1, y1, hz, hT, r1, r2, r3⟩
    · refine wpAny_bind (wpAny_pyNext_zip_item D hz hTI hTO h1 h2 p.isList p2.isList (x := u) (y := u2) (by simpa using hu) (by simpa using hu2) fun h' z' TO' h1' h2' hT hsz' hk' => ?_)
      have n0 : ∀ {c o}, s.heap.get? c = some o → s.heap.objs.size ≠ c := fun e => Nat.ne_of_gt (Heap.lt_size e)
      refine go h' ⟨hk' _ _ D.TIz D.TITO D.TIi1 D.TIi2 hTI, h1', h2', ⟨_, _, TO'⟩, .inr ⟨s.heap.objs.size, false, _, _, z', hT, n0 hz, ?_, ?_⟩⟩ hT fun c o hc e => hk' c o (fun q => hc (by simp [q])) (fun q => hc (by simp [q])) (fun q => hc (by simp [q])) (fun q => hc (by simp [q])) e
      · obtain ⟨o, e, _⟩ := h1; exact n0 e
      · obtain ⟨o, e, _⟩ := h2; exact n0 e
    · refine wpAny_bind (wpAny_pyNext_zip_item_held D hz hT hTI h1 h2 p.isList p2.isList (x := u) (y := u2) (by simpa using hu) (by simpa using hu2) fun h' z' h1' h2' hT' hsz' hk' => ?_)
      exact go h' ⟨hk' _ _ D.TIz D.TIi1 D.TIi2 hTI, h1', h2', ⟨x0, y0, hk' _ _ D.TOz D.TOi1 D.TOi2 hTO⟩, .inr ⟨T, true, x1, y1, z', hk' _ _ r1 r2 r3 hT, r1, r2, r3⟩⟩ hT' fun c o hc e => hk' c o (fun q => hc (by simp [q])) (fun q => hc (by simp [q])) (fun q => hc (by simp [q])) e
theorem zip_extend (hA : A.handled = none) (D : ZipApart z TI TO i1 i2 a b) (hq1 : SqL X.K H0 a xs) (hq2 : SqL X.K H0 b ys) (hn : n = min xs.length ys.length) (hsz : n ≤ sizeLine) (hS0 : H0 S = none) (hSf : S ∉ zfp z TI TO i1 i2) {s : Shared} {H : Hp} {c0 : Nat}
    (I : Inv X pins σ H s) (hf : ∀ c ∈ zfp z TI TO i1 i2, FpOk X pins H c) (hz : IsZip s.heap z TI TO .none) (st : ZAt s.heap a b z TI TO i1 i2 0) (hsub : Sub H0 H) (hS : s.heap.get? S = some { cls := .type "list", data := .seq #[] c0 }) (hH : H S = some (.lst []))
    (hR : ∀ s' H' Ts', Inv X pins σ H' s' → ZRes H0 H' S xs ys n Ts' → R (.ok (.ret .none)) s') :
    wpAny (model X.prog X.w) A.in1 (Builtin.List.listExtendWith (.ref S) (.ref z) .none)
      (fun fin s' => match fin with | .done f => R (.ok f) s' | .again c' => c'.quiet = true ∧ codeAny (model X.prog X.w) A c' R s') (fun e s' => R (.error e) s') s := by
  have hSz : S ≠ z := fun e => hSf (by rw [e]; simp)
  have hT : s.TypeIs (.ref z) "zip" := ⟨_, hz, rfl⟩
  unfold Builtin.List.listExtendWith
  refine wpAny_bind (wpAny_typeOf hT ?_)
  have h1 : Builtin.List.listSameRef (.ref S) (.ref z) = false := by simp [Builtin.List.listSameRef, hSz]
  have h2 : (Value.type "zip" == Value.type "list") = false := by decide
  have h3 : (Value.type "zip" == Value.type "tuple") = false := by decide
  simp only [h1, h2, h3, Bool.or_false, Bool.false_eq_true, if_false]
  refine wpAny_bind (wpAny_pyIter_zip hz ?_)
  refine wpAny_bind (wpAny_holding ?_)
  unfold Builtin.List.listLengthHint
  refine wpAny_bind (wpAny_specialOf hT zip_no_len ?_)
  show wpAny _ A.in1 (specialOf (Value.ref z) (Str.ofString "__length_hint__") >>= _) _ _ _
  refine wpAny_bind (wpAny_specialOf hT zip_no_hint ?_)
  refine wpAny_pure ?_
  show wpAny _ A.in1 (rule "list.extend.makes-room" >>= fun _ => Builtin.List.listTouch (.ref S) >>= fun _ =>
    again (.builtin "list.extend.loop" ⟨[.ref S, .ref z, .none], []⟩)) _ _ _
  refine wpAny_bind (wpAny_rule ?_)
  refine wpAny_bind ?_
  show wpAny _ A.in1 (updateSeq S (·.push .none) >>= fun _ => updateSeq S (·.pop)) _ _ _
  refine wpAny_bind (wpAny_updateSeq hS rfl ?_)
  have hS₂ := Heap.get?_update_self (Obj.mapSeq (·.push Value.none)) hS rfl
  refine wpAny_updateSeq (hz := by seq_fits) hS₂ rfl ?_
  have hS₃ := Heap.get?_update_self (Obj.mapSeq (·.pop)) hS₂ rfl
  have oth : ∀ b o, b ≠ S → s.heap.get? b = some o → ((s.heap.update S (Obj.mapSeq (·.push Value.none))).update S (Obj.mapSeq (·.pop))).get? b = some o :=
    fun b o hb e => (Heap.get?_update_other _ _ (Ne.symm hb)).trans ((Heap.get?_update_other _ _ (Ne.symm hb)).trans e)
  have I2 : Inv X pins σ (L2.upd H S (.lst [])) { s with heap := (s.heap.update S (Obj.mapSeq (·.push Value.none))).update S (Obj.mapSeq (·.pop)), toks := s.toks } :=
    I.write (x := S) (e := S) (by rw [hH]; exact trivial) (.inl rfl) (fun c o hc e => oth c o hc e) ⟨_, hS₃⟩ ⟨Nat.zero_le _, [], _, .nil, hS₃⟩
  rw [upd_eq hH] at I2
  refine wpAny_pure ⟨plainId_quiet F.plain_extend_loop _, zip_loop hA D hq1 hq2 hn hsz hS0 hSf n 0 _ H [] rfl (Nat.zero_le _) I2 hf (st.keep D fun c o e hcc => ?_) ⟨hsub, hH, no0, rfl, fun j T x y e => by simp at e⟩ hR⟩
  refine oth c o (fun q => ?_) e
  subst q
  rcases hcc with h | ⟨w, h⟩
  · exact hSf h
  · subst h
    rw [hS] at e
    simp at e
theorem zip_init (hA : A.handled = none) (D : ZipApart z TI TO i1 i2 a b) (hq1 : SqL X.K H0 a xs) (hq2 : SqL X.K H0 b ys) (hn : n = min xs.length ys.length) (hsz : n ≤ sizeLine) (hS0 : H0 S = none) (hSf : S ∉ zfp z TI TO i1 i2) {s : Shared} {H : Hp}
    (I : Inv X pins σ H s) (hf : ∀ c ∈ zfp z TI TO i1 i2, FpOk X pins H c) (hz : IsZip s.heap z TI TO .none) (st : ZAt s.heap a b z TI TO i1 i2 0) (hsub : Sub H0 H) (hS : s.heap.get? S = some { cls := .type "list", data := .seq #[] }) (hH : H S = some (.lst []))
    (hR : ∀ s' H' Ts', Inv X pins σ H' s' → ZRes H0 H' S xs ys n Ts' → R (.ok (.ret .none)) s') :
    wpAny (model X.prog X.w) A.in1 (Builtin.«list.__init__» ⟨[.ref S, .ref z], []⟩)
      (fun fin s' => match fin with | .done f => R (.ok f) s' | .again c' => c'.quiet = true ∧ codeAny (model X.prog X.w) A c' R s') (fun e s' => R (.error e) s') s := by
  show wpAny _ A.in1 (do let old ← Builtin.List.listItems (.ref S); Builtin.List.listUpdate (.ref S) (fun _ => #[]); letGo old.toList.reverse; Builtin.List.listExtendWith (.ref S) (.ref z) .none) _ _ s
  refine wpAny_bind ?_
  unfold Builtin.List.listItems
  refine wpAny_bind (wpAny_seqItems hS rfl (wpAny_pure ?_))
  show wpAny _ A.in1 (updateSeq S (fun _ => #[]) >>= fun _ => letGo (#[] : Array Value).toList.reverse >>= fun _ => Builtin.List.listExtendWith (.ref S) (.ref z) .none) _ _ s
  refine wpAny_bind (wpAny_updateSeq hS rfl ?_)
  have hS₂ := Heap.get?_update_self (Obj.mapSeq (fun _ => (#[] : Array Value))) hS rfl
  have oth : ∀ b o, b ≠ S → s.heap.get? b = some o → (s.heap.update S (Obj.mapSeq (fun _ => (#[] : Array Value)))).get? b = some o :=
    fun b o hb e => (Heap.get?_update_other _ _ (Ne.symm hb)).trans e
  have I2 : Inv X pins σ (L2.upd H S (.lst [])) { s with heap := s.heap.update S (Obj.mapSeq (fun _ => (#[] : Array Value))), toks := s.toks } :=
    I.write (x := S) (e := S) (by rw [hH]; exact trivial) (.inl rfl) (fun c o hc e => oth c o hc e) ⟨_, hS₂⟩ ⟨Nat.zero_le _, [], _, .nil, hS₂⟩
  rw [upd_eq hH] at I2
  have hz' : IsZip (s.heap.update S (Obj.mapSeq (fun _ => (#[] : Array Value)))) z TI TO .none := oth _ _ (fun q => hSf (by rw [← q]; simp)) hz
  refine wpAny_bind (wpAny_letGo ?_)
  refine zip_extend hA D hq1 hq2 hn hsz hS0 hSf I2 hf hz' (st.keep D fun c o e hcc => ?_) hsub hS₂ hH hR
  refine oth c o (fun q => ?_) e
  subst q
  rcases hcc with h | ⟨w, h⟩
  · exact hSf h
  · subst h
    rw [hS] at e
    simp at e
theorem call_list_zip (hA : X.A.handled = none) (D : ZipApart z TI TO i1 i2 a b) {s : Shared} {H : Hp} {Q : VK} (hq1 : SqL X.K H a xs) (hq2 : SqL X.K H b ys) (hsz : min xs.length ys.length ≤ sizeLine)
    (I : Inv X pins σ H s) (hf : ∀ c ∈ zfp z TI TO i1 i2, FpOk X pins H c ∧ c < s.heap.objs.size) (hz : IsZip s.heap z TI TO .none) (st : ZAt s.heap a b z TI TO i1 i2 0)
    (q : ∀ S H' Ts, H S = none → ZRes H H' S xs ys (min xs.length ys.length) Ts → Q (.ref S) H') : wpAny (model X.prog X.w) X.A (call (.type "list") [.ref z]) (EP X pins σ Q) X.xe s := by
  have hSf : s.heap.objs.size ∉ zfp z TI TO i1 i2 := fun hm => Nat.lt_irrefl _ (hf _ hm).2
  have hS0 : H s.heap.objs.size = none := I.hok.fresh (Nat.le_refl _)
  refine callType_codes (Q₁ := fun obj s₁ => obj = .ref s.heap.objs.size ∧ s₁ = { s with heap := s.heap.push { cls := .type "list", data := .seq #[] } }) F.called_list (F.typeCall_list_1 _) F.entry_list_init
    (code_list_new _ ⟨rfl, rfl⟩) fun obj s₁ h₁ => ?_
  obtain ⟨rfl, rfl⟩ := h₁
  have hS : (s.heap.push { cls := .type "list", data := .seq #[] }).get? s.heap.objs.size = some { cls := .type "list", data := .seq #[] } := Heap.get?_push_size _ rfl
  have I1 := I.lnew (ys := []) (its := []) (t' := s.toks) .nil (Nat.zero_le _)
  have kp : ∀ c o, s.heap.get? c = some o → (s.heap.push { cls := .type "list", data := .seq #[] }).get? c = some o := fun c o e => Heap.get?_push_of_some _ e
  refine ⟨⟨_, hS, rfl⟩, F.args_list_init_2 _ _, zip_init (A := X.A.in1) hA D hq1 hq2 rfl hsz hS0 hSf I1 (fun c hc => fpOk_sub (hf c hc).1 ?_) (kp _ _ hz) (st.keep D fun c o e _ => kp c o e) (sub_upd hS0) hS upd_same fun s' H' Ts' I' zr => ?_⟩
  · rw [upd_ne (Nat.ne_of_lt (hf c hc).2)]; exact (hf c hc).1.1
  · exact ⟨rfl, .ref s.heap.objs.size, H', I', rfl, q _ _ _ hS0 zr⟩
end
section
variable {T : Tab} {k : Nat} {cx : Cxt} {X : Cx} {x y z : Expr} {st : Stmt} {pos p2 p3 p4 p5 apos tpos : Pos}
def tLZ (K : PySem.W.Frag) (ta : TA) : TE := fun σ H Q => ta σ H fun vs H1 => ∃ a b xs ys, vs = [.ref a, .ref b] ∧ SqL K H1 a xs ∧ SqL K H1 b ys ∧ min xs.length ys.length ≤ sizeLine ∧ ∀ S H' Ts, H1 S = none → ZRes H1 H' S xs ys (min xs.length ys.length) Ts → Q (.ref S) H'
theorem pe_listZip {ta : TA} (hc : X.calm = true) (hg1 : Gl X "list") (hm1 : X.mg "list" = none) (hg : Gl X "zip") (hm : X.mg "zip" = none) (ha : PA X [x, y] ta) (hs : notStar x = true) (hs2 : notStar y = true) :
    PE X (.Call (.Name "list" p2) [.Call (.Name "zip" p3) [x, y] [] p4] [] pos) (tLZ X.K ta) := by
  refine ⟨fun pins s σ H Q I h => ?_⟩
  refine PyProof.Rows.Call_ (ld_blt I hg1 hm1 PyProof.Rows.boot_list (PyProof.Rows.callWith_type1 (PyProof.Rows.args_cons ?_ rfl) rfl rfl))
  refine PyProof.Rows.Call_ (ld_blt I hg hm PyProof.Rows.boot_zip (PyProof.Rows.callWith_type1 (thn (ha.run p4 pins s σ H _ I h) fun us s1 ⟨vs, H1, I1, r1, q1⟩ => ?_) (star_of hs) (by rw [star_of hs2]; rfl)))
  obtain ⟨a, b, xs, ys, ex, hqx, hqy, hsz, q⟩ := q1
  subst ex
  cases r1 with
  | cons r rr =>
    cases rr with
    | cons r' rr =>
      cases rr
      cases r
      cases r'
      obtain ⟨its, rv, p1, _⟩ := I1.list hqx
      obtain ⟨its2, rv2, p2, _⟩ := I1.list hqy
      have fresh5 : ∀ c, c ∈ [s1.heap.objs.size + 4, s1.heap.objs.size + 2, s1.heap.objs.size + 3, s1.heap.objs.size, s1.heap.objs.size + 1] → FpOk X pins H1 c ∧ c < s1.heap.objs.size + 5 := fun c hcm => by
        have e' : c = s1.heap.objs.size + 4 ∨ c = s1.heap.objs.size + 2 ∨ c = s1.heap.objs.size + 3 ∨ c = s1.heap.objs.size ∨ c = s1.heap.objs.size + 1 := by simpa using hcm
        have hle : s1.heap.objs.size ≤ c ∧ c < s1.heap.objs.size + 5 := by omega
        exact ⟨I1.fpOk hle.1 (I1.hok.fresh hle.1), hle.2⟩
      refine call_zip_2 p1.isList p2.isList fun h' hz hTI hTO h1 h2 hsz' hk => PyProof.Rows.args_nil ?_
      have I2 : Inv X pins σ H1 { s1 with heap := h' } := I1.kept (t' := s1.toks) hk
      refine call_list_zip (I.ok.hd hc) (PySem.W.ktu_apart s1.heap.objs.size a b p1.lt p2.lt) hqx hqy hsz I2 (fun c hcm => ?_) hz ⟨hTI, h1, h2, ⟨_, _, hTO⟩, .inl hz⟩ q
      obtain ⟨k1, k2⟩ := fresh5 c hcm
      refine ⟨k1, ?_⟩
      show c < h'.objs.size
      have e' : c = s1.heap.objs.size + 4 ∨ c = s1.heap.objs.size + 2 ∨ c = s1.heap.objs.size + 3 ∨ c = s1.heap.objs.size ∨ c = s1.heap.objs.size + 1 := by simpa using hcm
      rcases e' with q | q | q | q | q
      · rw [q]; exact Heap.lt_size hz
      · rw [q]; exact Heap.lt_size hTI
      · rw [q]; exact Heap.lt_size hTO
      · rw [q]; obtain ⟨_, e, _⟩ := h1; exact Heap.lt_size e
      · rw [q]; obtain ⟨_, e, _⟩ := h2; exact Heap.lt_size e
theorem zres_alloc {K : PySem.W.Frag} {Z H H' : Hp} {S : Addr} {vs ws : List V} {ps qs : List P} {Ts : List Addr} (s : Sub Z H) (hS : H S = none) (zr : ZRes H H' S vs ws (min vs.length ws.length) Ts) (r1 : RepL K Z vs ps) (r2 : RepL K Z ws qs) :
    ∃ Z', Alloc Z H Z' H' [S] ∧ Own K Z' H' (.l (zipP ps qs)) (.ref S) [S] := by
  have hcl : ∃ Z' : Hp, ∀ c, (c ∈ Ts → Z' c = H' c) ∧ (c ∉ Ts → Z' c = Z c) := ⟨fun c => if c ∈ Ts then H' c else Z c, fun c => ⟨fun h => if_pos h, fun h => if_neg h⟩⟩
  obtain ⟨Z', hZ⟩ := hcl
  have hST : S ∉ Ts := fun h => (zr.fr S h).2 rfl
  have zz : Sub Z Z' := fun c o e => by
    have : c ∉ Ts := fun h => by
      have := (zr.fr c h).1
      rw [s _ _ e] at this; cases this
    rw [(hZ c).2 this]; exact e
  have zs : Z' S = none := by rw [(hZ S).2 hST]; exact z_none s hS
  refine ⟨Z', ⟨zr.sub, zz, fun c o e => ?_, fun c o e => ?_, fun a ha => by simp at ha; subst ha; exact hS⟩, .l zr.lst zs ?_⟩
  · by_cases h : c ∈ Ts
    · rw [(hZ c).1 h] at e; exact e
    · rw [(hZ c).2 h] at e; exact zr.sub _ _ (s _ _ e)
  · by_cases h : c ∈ Ts
    · exact .inr (.inl (zr.fr c h).1)
    · rw [(hZ c).2 h] at e; exact .inl e
  · -- item by item
    have key : ∀ {us : List V} {os : List P}, us.length = os.length → (∀ (j : Nat) v p, us[j]? = some v → os[j]? = some p → Rep K Z' v p) → RepL K Z' us os := by
      intro us
      induction us with
      | nil => intro os h _; cases os with
        | nil => exact .nil
        | cons _ _ => cases h
      | cons u us ih => intro os h hp; cases os with
        | nil => cases h
        | cons o os => exact .cons (hp 0 u o rfl rfl) (ih (by simpa using h) fun j v p e1 e2 => hp (j + 1) v p (by simpa using e1) (by simpa using e2))
    refine key (by rw [List.length_map, zr.len, zipP_len, r1.length, r2.length]) fun j v p e1 e2 => ?_
    rw [List.getElem?_map] at e1
    obtain ⟨T, hT, rfl⟩ := Option.map_eq_some_iff.mp e1
    have hj := (List.getElem?_eq_some_iff.mp hT).1
    rw [zr.len] at hj
    have h1 : vs[j]? = some (vs[j]'(by omega)) := List.getElem?_eq_getElem _
    have h2 : ws[j]? = some (ws[j]'(by omega)) := List.getElem?_eq_getElem _
    obtain ⟨p1, k1, k2⟩ := r1.getV h1
    obtain ⟨p2, k3, k4⟩ := r2.getV h2
    rw [zipP_get k1 k3] at e2
    cases e2
    have ht := zr.pr j T _ _ hT h1 h2
    have hm := List.mem_of_getElem? hT
    exact .tup (.inl (.inl (by rw [(hZ T).1 hm]; exact ht))) (.cons (k2.sub zz) (.cons (k4.sub zz) .nil))
theorem snd_listZip {es : EL} (g : Good T k cx X) (hg1 : glB X.env.scope "list" = true) (hg2 : glB X.env.scope "zip" = true) (ha : PA X [x, y] (TAr X.K cx (evl cx es))) (hs : notStar x = true) (hs2 : notStar y = true) (hn : elLen es = 2) :
    PE X (.Call (.Name "list" p2) [.Call (.Name "zip" p3) [x, y] [] p4] [] pos) (TEx X.K cx (ev cx (.bi .listZip es))) :=
  PE.mono (pe_listZip g.calm (gl_of hg1).1 (g.free _ (by decide +kernel)) (gl_of hg2).1 (g.free _ (by decide +kernel)) ha hs hs2) fun σ H Q ⟨Z, ρ, F, m, ρ', R, e, q⟩ => by
    simp only [ev] at e
    split at e
    · rename_i rs ρ1 e1
      split at e
      · rename_i ms e2
        split at e
        · rename_i m3 e3
          cases e
          refine ⟨Z, ρ, F, rs, _, R, e1, fun Z1 H1 F1 us Gs g1 o1 => ?_⟩
          have ol := o1.own g1.rel e2
          have hl : ms.length = 2 := by rw [rds_len e2, evl_len e1, hn]
          match ms, hl with
          | [m1, m2], _ =>
          cases ol with
          | cons oa ot =>
            cases ot with
            | cons ob ot =>
              cases ot
              have e3 : (match listOf m1, listOf m2 with
                | some x, some y => if min x.length y.length ≤ LIM then some (M.l (zipP x y)) else none
                | _, _ => none) = some m := e3
              split at e3
              · rename_i ps qs k1 k2
                split at e3
                · rename_i hlim
                  cases e3
                  obtain ⟨a, vs, rfl, ha, ra⟩ := lst_any g1.rel.sub oa k1
                  obtain ⟨b, ws, rfl, hb, rb⟩ := lst_any g1.rel.sub ob k2
                  refine ⟨a, b, vs, ws, rfl, .of ha, .of hb, by rw [ra.length, rb.length]; exact lim_le hlim, fun S H' Ts hS zr => ?_⟩
                  obtain ⟨Z2, al, ow⟩ := zres_alloc g1.rel.sub hS zr ra rb
                  exact (ask_done g1 q) Z2 H' _ _ al ow
                · cases e3
              · cases e3
        · cases e
      · cases e
    · cases e
end
end Mn
end
section
set_option maxHeartbeats 200000
namespace Mn
open PySem L2 PySem.Spec
variable [WW]
instance : DecidableEq BOp := fun a b => by cases a <;> cases b <;> first | exact isTrue rfl | exact isFalse (fun h => by cases h)
instance : DecidableEq COp := fun a b => by cases a <;> cases b <;> first | exact isTrue rfl | exact isFalse (fun h => by cases h)
/-- a value's truth is asked as it stands -/
def plainT : Expr → Bool
  | .UnaryOp .Not _ _ => false
  | .BoolOp _ _ _ => false
  | .IfExp _ _ _ _ => false
  | .Compare _ _ _ _ => false
  | _ => true
def notIf : Expr → Bool
  | .IfExp _ _ _ _ => false
  | _ => true
def isBool : Expr → Bool
  | .BoolOp _ _ _ => true
  | _ => false
theorem plainT_of {x : Expr} {env : PySem.Env} (h : plainT x = true) : ∀ whole, PySem.isTrue x env whole = (do let v ← whole; standAt x.pos; holding [v] (truthy v)) := by
  intro whole
  unfold PySem.isTrue
  split <;> first | rfl | (simp [plainT] at h)
def kn0 : E → Bool
  | .kn => true
  | _ => false
def ownN (N : List Str) (own : List Nat) : List (Str × Nat) := own.map fun i => ((N[i]?).getD (Str.ofString ""), i)
def blkB (N : List Str) (sc scope : Scope) (own : List Nat) : Bool :=
  decide (scope.kind = .function) && ((scope.names.all fun y => decide (scope.names.lookup y.1 = some y.2)) && ((own.all fun i => (N[i]?).isSome) &&
    ((scope.names.all fun y => !(decide (y.2 = .free)) || (decide (sc.names.lookup y.1 = some .cell) || decide (sc.names.lookup y.1 = some .free))) &&
      (scope.names.all fun y => !(decide (y.2 = .local) || decide (y.2 = .cell)) || ((own.any fun i => decide (N[i]? = some y.1)) || !(N.any fun n => decide (n = y.1)))))))
theorem blk_of {N : List Str} {sc scope : Scope} {own : List Nat} (h : blkB N sc scope own = true) : BlkOk N sc scope (ownN N own) := by
  unfold blkB at h
  simp only [Bool.and_eq_true, decide_eq_true_eq] at h
  obtain ⟨h1, h2, h3, h4, h5⟩ := h
  refine ⟨h1, fun y hy => ?_, fun p hp => ?_, fun y hy e => ?_, fun y hy e => ?_⟩
  · exact of_decide_eq_true (List.all_eq_true.mp h2 y hy)
  · unfold ownN at hp
    obtain ⟨i, hi, rfl⟩ := List.mem_map.mp hp
    have := List.all_eq_true.mp h3 i hi
    dsimp only
    cases q : N[i]? with
    | none => rw [q] at this; cases this
    | some n => rfl
  · have := List.all_eq_true.mp h4 y hy
    rw [decide_eq_true e, Bool.not_true, Bool.false_or, Bool.or_eq_true, decide_eq_true_eq, decide_eq_true_eq] at this
    exact this
  · have := List.all_eq_true.mp h5 y hy
    have h6 : (decide (y.2 = .local) || decide (y.2 = .cell)) = true := by
      rw [Bool.or_eq_true, decide_eq_true_eq, decide_eq_true_eq]; exact e
    rw [h6, Bool.not_true, Bool.false_or, Bool.or_eq_true, Bool.not_eq_true'] at this
    rcases this with q | q
    · left
      obtain ⟨i, hi, hd⟩ := List.any_eq_true.mp q
      have hd := of_decide_eq_true hd
      unfold ownN
      rw [List.map_map]
      exact List.mem_map.mpr ⟨i, hi, by simp [hd]⟩
    · right
      intro hm
      rw [List.any_eq_false] at q
      exact q y.1 hm (decide_eq_true rfl)
theorem ownN_snd (N : List Str) (own : List Nat) : own = (ownN N own).map (·.2) := by
  unfold ownN
  rw [List.map_map]
  exact (List.map_id own).symm
def elN : EL → Nat := elLen
def nlen (n : Nat) : Bool := Nat.ble n 1000
mutual
def chkTg (N : List Str) (sc : Scope) (lc : List Str → Scope → Nat → Str → Bool) : Tg → Expr → Bool
  | .nm i, .Name n _ => lc N sc i n
  | .tp ts, .Tuple xs _ _ => chkTgs N sc lc ts xs
  | _, _ => false
def chkTgs (N : List Str) (sc : Scope) (lc : List Str → Scope → Nat → Str → Bool) : List Tg → List Expr → Bool
  | [], [] => true
  | t :: ts, x :: xs => chkTg N sc lc t x && (notStar x && chkTgs N sc lc ts xs)
  | _, _ => false
end
def isTupE : Expr → Bool
  | .Tuple _ _ _ => true
  | _ => false
def nameB (N : List Str) (sc : Scope) (i : Nat) : Expr → Bool
  | .Name n _ => nmB N sc i n
  | _ => false
def callee (T : Tab) (sc : Scope) (f : Nat) (n : Str) : Bool := decide ((T.fs[f]?).map (·.name) = some n) && glB sc n
def tyOf : BI → Option Ty
  | .isTup => some .tup | .isList => some .lst | .isStr => some .str | .isBool => some .bl | .isInt => some .int
  | _ => none
def biB (sc : Scope) (b : BI) (es : EL) (n : Str) (xs : List Expr) : Bool := !decide (biArity b = 0) && (decide (elLen es = biArity b) && (decide (n = biName b) && (glB sc n && !xs.isEmpty)))
def getB (m : Str) (x y : Expr) (apos pos : Pos) : Bool := decide (m = Str.ofString "get") && (notCall0 x && (notStar y && (apos.endLine == pos.line)))
/-- no plain variable among them -/
def elVal : EL → Bool
  | .nil => true
  | .cons e r => !isPl e && elVal r
mutual
def chkE (T : Tab) (N : List Str) (sc : Scope) : E → Expr → Bool
  | .pl i, x => nameB N sc i x
  | .tk i, x => nameB N sc i x
  | .mv i, x => nameB N sc i x
  | .g c, x => match x with
    | .Name n _ => glB sc n && decide ((T.gs[c]?).map (·.1) = some n)
    | _ => false
  | .ki i, x => match x with
    | .Constant (.int j) _ _ => decide (i = j)
    | _ => false
  | .kb b, x => match x with
    | .Constant (.bool c) _ _ => decide (b = c)
    | _ => false
  | .kn, x => match x with
    | .Constant .none _ _ => true
    | _ => false
  | .ks s, x => match x with
    | .Constant (.str t) _ _ => decide (s = t) && (PyData.strOk t && nlen t.length)
    | _ => false
  | .tup es, x => match x with
    | .Tuple xs _ _ => chkEL T N sc es xs && nlen (elLen es)
    | _ => false
  | .lst es, x => match x with
    | .List xs _ => chkEL T N sc es xs && nlen (elLen es)
    | _ => false
  | .dnw _, x => match x with
    | .Dict [] [] _ => true
    | _ => false
  | .dd _ es, x => match x with
    | .Dict ks vs _ => chkKv T N sc es ks vs && (!ks.isEmpty && Nat.ble ks.length 15)
    | _ => false
  | .dr a b, x => match x with
    | .Dict [some y] [z] _ => chkE T N sc a y && chkE T N sc b z
    | _ => false
  | .bin op a b, x => match x with
    | .BinOp x o y _ => decide (o = bOp op) && (chkE T N sc a x && chkE T N sc b y)
    | _ => false
  | .neg a, x => match x with
    | .UnaryOp .USub x _ => chkE T N sc a x
    | _ => false
  | .cmp op a b, x => match x with
    | .Compare x [o] [y] _ => decide (o = cOp op) && ((kn0 b || (!decide (op = .isN) && !decide (op = .notN))) && (!(behindInMarks o y) && (chkE T N sc a x && chkE T N sc b y)))
    | _ => false
  | .cmp2 op op2 a b c, x => match x with
    | .Compare x [o, o2] [y, z] _ => decide (o = cOp op) && (decide (o2 = cOp op2) && (chOp op && (chOp op2 && (!(behindInMarks o2 z) && (chkE T N sc a x && (chkE T N sc b y && chkE T N sc c z))))))
    | _ => false
  | .ban a b, x => match x with
    | .BoolOp .And [x, y] _ => (notIf x && chkE T N sc a x) && (notIf y && chkE T N sc b y)
    | .BoolOp .And (x :: y :: z :: rest) p => (notIf x && chkE T N sc a x) && chkE T N sc b (.BoolOp .And (y :: z :: rest) p)
    | _ => false
  | .bor a b, x => match x with
    | .BoolOp .Or [x, y] _ => (notIf x && chkE T N sc a x) && (notIf y && chkE T N sc b y)
    | .BoolOp .Or (x :: y :: z :: rest) p => (notIf x && chkE T N sc a x) && chkE T N sc b (.BoolOp .Or (y :: z :: rest) p)
    | _ => false
  | .nt a, x => match x with
    | .UnaryOp .Not x _ => notIf x && chkE T N sc a x
    | _ => false
  | .ifx c a b, x => match x with
    | .IfExp z x y _ => (notIf z && chkE T N sc c z) && (chkE T N sc a x && chkE T N sc b y)
    | _ => false
  | .slc a lo hi, x => match x with
    | .Subscript x (.Slice l u none _) _ => chkE T N sc a x && ((match l with
      | none => elNo lo
      | some y => !elNo lo && chkE T N sc lo y) && (match u with
      | none => elNo hi
      | some y => !elNo hi && chkE T N sc hi y))
    | _ => false
  | .rev a, x => match x with
    | .Subscript x (.Slice none none (some (.UnaryOp .USub (.Constant (.int 1) _ _) _)) _) _ => chkE T N sc a x
    | _ => false
  | .sub a k, x => match x with
    | .Subscript x y _ => notSlice y && (chkE T N sc a x && chkE T N sc k y)
    | _ => false
  | .call f es, x => match x with
    | .Call (.Name n _) (x :: xs) [] _ => callee T sc f n && chkEL T N sc es (x :: xs)
    | _ => false
  | .bi b es, x => match x with
    | .Call (.Name n _) xs [] _ => match tyOf b with
      | some t => match xs with
        | [x, .Name m _] => decide (n = Str.ofString "isinstance") && (glB sc n && (decide (m = Str.ofString (tyN t)) && (glB sc m && (bnames.any (fun s => decide (s = m)) && chkEL T N sc es [x]))))
        | _ => false
      | none => match xs with
        | [.Call (.Name m _) [x, y] [] _] => match b with
          | .listZip => decide (n = Str.ofString "list") && (glB sc n && (decide (m = Str.ofString "zip") && (glB sc m && chkEL T N sc es [x, y])))
          | _ => biB sc b es n xs && chkEL T N sc es xs
        | _ => biB sc b es n xs && chkEL T N sc es xs
    | _ => false
  | .mt m a es, x => match m with
    | .get => match x with
      | .Call (.Attribute x m apos) [y] [] pos => getB m x y apos pos && (chkE T N sc a x && (elVal es && chkEL T N sc es [y]))
      | .Call (.Attribute x m apos) [y, z] [] pos => getB m x y apos pos && (notStar z && (chkE T N sc a x && (elVal es && chkEL T N sc es [y, z])))
      | _ => false
    | .index => match x with
      | .Call (.Attribute x m apos) [y] [] pos => decide (m = Str.ofString "index") && (notCall0 x && (notStar y && ((apos.endLine == pos.line) && (chkE T N sc a x && chkEL T N sc es [y]))))
      | _ => false
    | _ => false
  | .pop i es, x => match x with
    | .Call (.Attribute x m apos) ys [] pos => decide (m = Str.ofString "pop") && (nameB N sc i x && ((apos.endLine == pos.line) && (Nat.ble ys.length 1 && chkEL T N sc es ys)))
    | _ => false
  | .getf i f j, x => match x with
    | .Call (.Attribute (.Subscript x (.Constant (.str f') _ _) _) m apos) [y] [] pos => decide (m = Str.ofString "get") && (decide (f = f') && (nameB N sc i x && (nameB N sc j y && (apos.endLine == pos.line))))
    | _ => false
  | .getn i k, x => match x with
    | .Call (.Attribute x m apos) [y, .List [] _] [] pos => decide (m = Str.ofString "get") && (nameB N sc i x && (notStar y && ((apos.endLine == pos.line) && chkE T N sc k y)))
    | _ => false
  | .comp own tg it ts e, x => match x with
    | .ListComp z [⟨x, y, ifs, asy⟩] scope _ => decide (asy = 0) && (blkB N sc scope own && ((tgVs tg).all (fun j => own.any fun i => decide (i = j)) && (notSet y && (chkIt T N sc x it y && (chkTg N (relS scope sc) locB tg x && (chkTs T N (relS scope sc) ts ifs && chkE T N (relS scope sc) e z))))))
    | _ => false
  | .no, _ => false
def chkEL (T : Tab) (N : List Str) (sc : Scope) : EL → List Expr → Bool
  | .nil, xs => match xs with
    | [] => true
    | _ => false
  | .cons e r, xs => match xs with
    | x :: xs => (notStar x && chkE T N sc e x) && chkEL T N sc r xs
    | [] => false
def chkKv (T : Tab) (N : List Str) (sc : Scope) : EL → List (Option Expr) → List Expr → Bool
  | .nil, ks, vs => ks.isEmpty && vs.isEmpty
  | .cons f0 (.cons e r), ks, vs => match f0, ks, vs with
    | .ks f, some (.Constant (.str f') _ _) :: ks, v :: vs => decide (f = f') && (PyData.strOk f && (nlen f.length && (chkE T N sc e v && chkKv T N sc r ks vs)))
    | _, _, _ => false
  | .cons _ .nil, _, _ => false
def chkTs (T : Tab) (N : List Str) (sc : Scope) : EL → List Expr → Bool
  | .nil, xs => xs.isEmpty
  | .cons e .nil, xs => match xs with
    | [x] => notIf x && chkE T N sc e x
    | _ => false
  | .cons _ (.cons _ _), _ => false
def chkIt (T : Tab) (N : List Str) (sc : Scope) (tg : Expr) : It → Expr → Bool
  | .of e, x => chkE T N sc e x
  | .lk i, x => nameB N sc i x
  | .vals i, x => match x with
    | .Call (.Attribute x m apos) [] [] pos => decide (m = Str.ofString "values") && (nameB N sc i x && (apos.endLine == pos.line))
    | _ => false
  | .rg es, x => match x with
    | .Call (.Name n _) xs [] _ => decide (n = Str.ofString "range") && (glB sc n && (chkEL T N sc es xs && (Nat.ble 1 xs.length && Nat.ble xs.length 3)))
    | _ => false
  | .en e, x => match x with
    | .Call (.Name n _) [x] [] _ => decide (n = Str.ofString "enumerate") && (glB sc n && (notStar x && (isTupE tg && chkE T N sc e x)))
    | _ => false
  | .zp a b, x => match x with
    | .Call (.Name n _) [x, y] [] _ => decide (n = Str.ofString "zip") && (glB sc n && (notStar x && (notStar y && (isTupE tg && (chkE T N sc a x && chkE T N sc b y)))))
    | _ => false
end
end Mn
end
section
set_option maxHeartbeats 200000
namespace Mn
open PySem L2 PySem.Spec
variable [WW]
structure PB (X : Cx) (cx : Cxt) (e : E) (x : Expr) : Prop where
  pe : PE X x (TEx X.K cx (ev cx e))
  pt : notIf x = true → PT X x (TTs X.K cx (ev cx e))
  pw : isBool x = true → PW X x (TTs X.K cx (ev cx e))
  op : PE X x (TOp X.K cx (opE e (ev cx e)))
section
variable {T : Tab} {k : Nat} {cx : Cxt} {X : Cx} {x y z : Expr} {st : Stmt} {pos p2 p3 p4 p5 apos tpos : Pos}
theorem PB.of {e : E} (hp : isPl e = false) (ht : plainT x = true) (h : PE X x (TEx X.K cx (ev cx e))) : PB X cx e x :=
  ⟨h, fun _ => pt_of h (plainT_of ht), (fun hb => by cases x <;> first | (cases hb; done) | (cases ht; done)), top_ex hp h⟩
theorem nameB_of {i : Nat} (h : nameB X.N X.env.scope i x = true) : PE X x (tVar i) ∧ plainT x = true ∧ notCall0 x = true := by
  unfold nameB at h
  split at h
  · exact ⟨nm_pe h, rfl, rfl⟩
  · cases h
theorem nlen_of {n : Nat} (h : nlen n = true) : n ≤ 1000 := Nat.le_of_ble_eq_true h
theorem keyOk_of {f : Str} (h1 : PyData.strOk f = true) (h2 : nlen f.length = true) : KeyOk (.inr f) := ⟨h1, lim_le (Nat.le_trans (nlen_of h2) (by decide))⟩
theorem bool1 {op : BoolOp} {e : E} (h : PB X cx e y) (hn : notIf y = true) : PE X (.BoolOp op [y] pos) (TEx X.K cx (ev cx e)) ∧ PW X (.BoolOp op [y] pos) (TTs X.K cx (ev cx e)) := by
  cases op with
  | And => exact ⟨pe_one h.pe, pw_and1 (h.pt hn)⟩
  | Or => exact ⟨pe_one h.pe, pw_or1 (h.pt hn)⟩
theorem pb_bool {op : BoolOp} {e : E} {xs : List Expr} (hp : isPl e = false) (h : PE X (.BoolOp op xs pos) (TEx X.K cx (ev cx e)) ∧ PW X (.BoolOp op xs pos) (TTs X.K cx (ev cx e))) : PB X cx e (.BoolOp op xs pos) :=
  ⟨h.1, fun _ => h.2.pt, fun _ => h.2, top_ex hp h.1⟩
theorem pb_cmp {e : E} {x0 : Expr} {ops : List CmpOp} {ys : List Expr} (hp : isPl e = false) (h : PE X (.Compare x0 ops ys pos) (TEx X.K cx (ev cx e)) ∧ PT X (.Compare x0 ops ys pos) (TTs X.K cx (ev cx e))) : PB X cx e (.Compare x0 ops ys pos) :=
  ⟨h.1, fun _ => h.2, (fun hb => by cases hb), top_ex hp h.1⟩
theorem tgt_of {lc : List Str → Scope → Nat → Str → Bool} (hN : X.N.Nodup) (hc : X.calm = true) (hl : ∀ i n, lc X.N X.env.scope i n = true → LocG X i n) : ∀ (tg : Tg) (x : Expr), chkTg X.N X.env.scope lc tg x = true → PG X x (TGt X.K cx tg) := by
  intro tg
  apply Tg.rec (motive_1 := fun tg => ∀ x, chkTg X.N X.env.scope lc tg x = true → PG X x (TGt X.K cx tg)) (motive_2 := fun ts => ∀ xs, chkTgs X.N X.env.scope lc ts xs = true → PGs X xs (TGts X.K cx ts) ∧ xs.all notStar = true ∧ ts.length = xs.length)
  · intro i x h
    unfold chkTg at h
    split at h
    · rename_i h0; cases h0; exact pg_nm hN (hl _ _ h)
    · rename_i h0; cases h0
    · cases h
  · intro ts ih x h
    unfold chkTg at h
    split at h
    · rename_i h0; cases h0
    · rename_i h0
      cases h0
      obtain ⟨h1, h2, h3⟩ := ih _ h
      exact pg_tp hc h1 h2 h3
    · cases h
  · intro xs h
    cases xs with
    | nil => exact ⟨pgs_nilM, rfl, rfl⟩
    | cons _ _ => unfold chkTgs at h; cases h
  · intro t ts ih ih2 xs h
    cases xs with
    | nil => unfold chkTgs at h; cases h
    | cons x xs =>
      unfold chkTgs at h
      simp only [Bool.and_eq_true] at h
      obtain ⟨h1, h2, h3⟩ := ih2 xs h.2.2
      exact ⟨pgs_consM (ih x h.1) h1 h.2.1, by rw [List.all_cons, h.2.1, h2]; rfl, by rw [List.length_cons, List.length_cons, h3]⟩
theorem tup_of {x : Expr} (h : isTupE x = true) : ∃ xs j p, x = .Tuple xs j p := by
  cases x <;> first | exact ⟨_, _, _, rfl⟩ | cases h
end
section
variable {T : Tab} {k : Nat} {cx : Cxt}
theorem own_of {tg : Tg} {own : List Nat} (h : ((tgVs tg).all fun j => own.any fun i => decide (i = j)) = true) : ∀ j ∈ tgVs tg, j ∈ own := fun j hj => by
  obtain ⟨i, hi, e⟩ := List.any_eq_true.mp (List.all_eq_true.mp h j hj)
  have := of_decide_eq_true e
  subst this
  exact hi
theorem callee_of {T : Tab} {sc : Scope} {f : Nat} {n : Str} (h : callee T sc f n = true) : ∃ F, T.fs[f]? = some F ∧ n = F.name ∧ glB sc n = true := by
  unfold callee at h
  rw [Bool.and_eq_true, decide_eq_true_eq] at h
  obtain ⟨F, h1, h2⟩ := Option.map_eq_some_iff.mp h.1
  exact ⟨F, h1, h2.symm, h.2⟩
theorem tyOf_of {b : BI} {t : Ty} (h : tyOf b = some t) : b = tyBI t ∧ tyAsk t = true := by
  cases b <;> first | (cases h; done) | (cases h; exact ⟨rfl, rfl⟩)
theorem elLen0 {es : EL} (h : elLen es = 0) : es = .nil := by
  cases es with
  | nil => rfl
  | cons e r => rw [elLen] at h; omega
theorem elLen1 {es : EL} (h : elLen es = 1) : ∃ a, es = .cons a .nil := by
  cases es with
  | nil => cases h
  | cons e r => rw [elLen] at h; exact ⟨e, by rw [elLen0 (es := r) (by omega)]⟩
theorem elLen2 {es : EL} (h : elLen es = 2) : ∃ a b, es = .cons a (.cons b .nil) := by
  cases es with
  | nil => cases h
  | cons e r =>
    rw [elLen] at h
    obtain ⟨b, hb⟩ := elLen1 (es := r) (by omega)
    exact ⟨e, b, by rw [hb]⟩
theorem line_of {a b : Nat} (h : (a == b) = true) : (a == b) = true := h
theorem bnames_of {X : Cx} {m : Str} (g : Good T k cx X) (h : (bnames.any fun s => decide (s = m)) = true) : X.mg m = none := by
  obtain ⟨s, h1, h2⟩ := List.any_eq_true.mp h
  have := of_decide_eq_true h2
  subst this
  exact g.free _ h1
theorem bi_case {X : Cx} {b : BI} {es : EL} {n : Str} {xs : List Expr} {p2 pos : Pos} (g : Good T k cx X) (h : biB X.env.scope b es n xs = true) (ha : PA X xs (TAr X.K cx (evl cx es))) (hs : xs.all notStar = true) : PE X (.Call (.Name n p2) xs [] pos) (TEx X.K cx (ev cx (.bi b es))) := by
  unfold biB at h
  simp only [Bool.and_eq_true, Bool.not_eq_true', decide_eq_true_eq, decide_eq_false_iff_not] at h
  obtain ⟨h1, h2, h3, h4, h5⟩ := h
  cases xs with
  | nil => cases h5
  | cons x xs =>
    rw [List.all_cons, Bool.and_eq_true] at hs
    exact snd_bi g h1 h2 h3 h4 ha hs.1 hs.2
set_option maxHeartbeats 4000000 in
mutual
theorem sndE : ∀ (e : E) (x : Expr) (X : Cx), Good T k cx X → chkE T X.N X.env.scope e x = true → PB X cx e x
  | .pl i, x, X, g, h => by
    simp only [chkE] at h
    obtain ⟨h1, h2, _⟩ := nameB_of h
    have hv : PE X x (TEx X.K cx (ev cx (.pl i))) := PE.mono h1 fun σ H Q ⟨Z, ρ, F, m, ρ', R, e, q⟩ => by simp only [ev] at e; cases e
    exact ⟨hv, fun _ => pt_of hv (plainT_of h2), (fun hb => by cases x <;> first | (cases hb; done) | (cases h2; done)), top_pl h1⟩
  | .tk i, x, X, g, h => by
    simp only [chkE] at h
    obtain ⟨h1, h2, _⟩ := nameB_of h
    exact .of rfl h2 (snd_tk h1)
  | .mv i, x, X, g, h => by
    simp only [chkE] at h
    obtain ⟨h1, h2, _⟩ := nameB_of h
    exact .of rfl h2 (snd_mv h1)
  | .g c, x, X, g, h => by
    simp only [chkE] at h
    split at h
    · rw [Bool.and_eq_true, decide_eq_true_eq] at h
      exact .of rfl rfl (snd_g g h.1 h.2)
    · cases h
  | .ki i, x, X, g, h => by
    simp only [chkE] at h
    split at h
    · have := of_decide_eq_true h
      subst this
      exact .of rfl rfl snd_ki
    · cases h
  | .kb b, x, X, g, h => by
    simp only [chkE] at h
    split at h
    · have := of_decide_eq_true h
      subst this
      exact .of rfl rfl snd_kb
    · cases h
  | .kn, x, X, g, h => by
    simp only [chkE] at h
    split at h
    · exact .of rfl rfl snd_kn
    · cases h
  | .ks s, x, X, g, h => by
    simp only [chkE] at h
    split at h
    · simp only [Bool.and_eq_true, decide_eq_true_eq] at h
      obtain ⟨rfl, h1, h2⟩ := h
      exact .of rfl rfl (snd_ks h1 (keyOk_of h1 h2).2)
    · cases h
  | .tup es, x, X, g, h => by
    simp only [chkE] at h
    split at h
    · rw [Bool.and_eq_true] at h
      obtain ⟨h1, _, _, _⟩ := sndEL es _ X g h.1
      exact .of rfl rfl (snd_tup h1 (nlen_of h.2))
    · cases h
  | .lst es, x, X, g, h => by
    simp only [chkE] at h
    split at h
    · rw [Bool.and_eq_true] at h
      obtain ⟨h1, _, _, _⟩ := sndEL es _ X g h.1
      exact .of rfl rfl (snd_lst h1 (nlen_of h.2))
    · cases h
  | .dnw t, x, X, g, h => by
    simp only [chkE] at h
    split at h
    · exact .of rfl rfl snd_dnw
    · cases h
  | .dd t es, x, X, g, h => by
    simp only [chkE] at h
    split at h
    · rename_i ks vs p
      simp only [Bool.and_eq_true, Bool.not_eq_true'] at h
      obtain ⟨h1, h2, h3⟩ := h
      obtain ⟨trs, h4⟩ := sndKv (pos := p) es ks vs X g h1
      exact .of rfl rfl (snd_dd h4 (fun z => by rw [z] at h2; cases h2) (Nat.le_of_ble_eq_true h3))
    · cases h
  | .dr a b, x, X, g, h => by
    simp only [chkE] at h
    split at h
    · simp only [Bool.and_eq_true] at h
      obtain ⟨h1, h2⟩ := h
      exact .of rfl rfl (snd_dr g (sndE a _ X g h1).pe (sndE b _ X g h2).pe)
    · cases h
  | .bin op a b, x, X, g, h => by
    simp only [chkE] at h
    split at h
    · simp only [Bool.and_eq_true, decide_eq_true_eq] at h
      obtain ⟨rfl, h1, h2⟩ := h
      exact .of rfl rfl (snd_bin (sndE a _ X g h1).op (sndE b _ X g h2).op)
    · cases h
  | .neg a, x, X, g, h => by
    simp only [chkE] at h
    split at h
    · exact .of rfl rfl (snd_neg (sndE a _ X g h).pe)
    · cases h
  | .cmp op a b, x, X, g, h => by
    simp only [chkE] at h
    split at h
    · simp only [Bool.and_eq_true, Bool.or_eq_true, Bool.not_eq_true', decide_eq_true_eq, decide_eq_false_iff_not] at h
      obtain ⟨rfl, h1, h2, h3, h4⟩ := h
      refine pb_cmp rfl (snd_cmp g (sndE a _ X g h3).op (sndE b _ X g h4).op (fun hq => ?_) h2)
      rcases h1 with h1 | h1
      · cases b <;> first | rfl | cases h1
      · rcases hq with q | q
        · exact (h1.1 q).elim
        · exact (h1.2 q).elim
    · cases h
  | .cmp2 op op2 a b c, x, X, g, h => by
    simp only [chkE] at h
    split at h
    · simp only [Bool.and_eq_true, Bool.not_eq_true', decide_eq_true_eq] at h
      obtain ⟨rfl, rfl, h1, h2, h3, h4, h5, h6⟩ := h
      exact pb_cmp rfl (snd_cmp2 g (sndE a _ X g h4).pe (sndE b _ X g h5).pe (sndE c _ X g h6).pe h1 h2 h3)
    · cases h
  | .ban a b, x, X, g, h => by
    simp only [chkE] at h
    split at h
    · simp only [Bool.and_eq_true] at h
      have ha := sndE a _ X g h.1.2
      have hb := bool1 (op := .And) (pos := ‹Pos›) (sndE b _ X g h.2.2) h.2.1
      exact pb_bool rfl (snd_ban ha.pe (ha.pt h.1.1) hb.1 hb.2)
    · simp only [Bool.and_eq_true] at h
      have ha := sndE a _ X g h.1.2
      have hb := sndE b _ X g h.2
      exact pb_bool rfl (snd_ban ha.pe (ha.pt h.1.1) hb.pe (hb.pw rfl))
    · cases h
  | .bor a b, x, X, g, h => by
    simp only [chkE] at h
    split at h
    · simp only [Bool.and_eq_true] at h
      have ha := sndE a _ X g h.1.2
      have hb := bool1 (op := .Or) (pos := ‹Pos›) (sndE b _ X g h.2.2) h.2.1
      exact pb_bool rfl (snd_bor ha.pe (ha.pt h.1.1) hb.1 hb.2)
    · simp only [Bool.and_eq_true] at h
      have ha := sndE a _ X g h.1.2
      have hb := sndE b _ X g h.2
      exact pb_bool rfl (snd_bor ha.pe (ha.pt h.1.1) hb.pe (hb.pw rfl))
    · cases h
  | .nt a, x, X, g, h => by
    simp only [chkE] at h
    split at h
    · rw [Bool.and_eq_true] at h
      have ha := sndE a _ X g h.2
      have hn := snd_nt (pos := ‹Pos›) ha.pe (ha.pt h.1)
      exact ⟨hn.1, fun _ => hn.2, (fun hb => by cases hb), top_ex rfl hn.1⟩
    · cases h
  | .ifx c a b, x, X, g, h => by
    simp only [chkE] at h
    split at h
    · simp only [Bool.and_eq_true] at h
      have hp := snd_ifx (pos := ‹Pos›) ((sndE c _ X g h.1.2).pt h.1.1) (sndE a _ X g h.2.1).pe (sndE b _ X g h.2.2).pe
      exact ⟨hp, (fun z => by cases z), (fun hb => by cases hb), top_ex rfl hp⟩
    · cases h
  | .sub a k0, x, X, g, h => by
    simp only [chkE] at h
    split at h
    · simp only [Bool.and_eq_true] at h
      exact .of rfl rfl (snd_sub g (sndE a _ X g h.2.1).op (sndE k0 _ X g h.2.2).pe h.1)
    · cases h
  | .slc a lo hi, x, X, g, h => by
    simp only [chkE] at h
    split at h
    · rename_i x1 l u p1 p2
      simp only [Bool.and_eq_true] at h
      obtain ⟨h1, h2, h3⟩ := h
      have hl : PO X l (TPo X.K cx (poG cx lo)) := by
        cases l with
        | none => exact snd_no h2
        | some y =>
          have h2 : (!elNo lo && chkE T X.N X.env.scope lo y) = true := h2
          rw [Bool.and_eq_true, Bool.not_eq_true'] at h2
          exact snd_part h2.1 (sndE lo y X g h2.2).pe
      have hu : PO X u (TPo X.K cx (poG cx hi)) := by
        cases u with
        | none => exact snd_no h3
        | some y =>
          have h3 : (!elNo hi && chkE T X.N X.env.scope hi y) = true := h3
          rw [Bool.and_eq_true, Bool.not_eq_true'] at h3
          exact snd_part h3.1 (sndE hi y X g h3.2).pe
      exact .of rfl rfl (snd_slc (sndE a _ X g h1).op hl hu)
    · cases h
  | .rev a, x, X, g, h => by
    simp only [chkE] at h
    split at h
    · exact .of rfl rfl (snd_rev (sndE a _ X g h).op)
    · cases h
  | .no, x, X, g, h => by
    simp only [chkE] at h
    cases h
  | .call f es, x, X, g, h => by
    simp only [chkE] at h
    split at h
    · rw [Bool.and_eq_true] at h
      obtain ⟨F, h1, h2, h3⟩ := callee_of h.1
      obtain ⟨_, h4, h5, _⟩ := sndEL es _ X g h.2
      rw [List.all_cons, Bool.and_eq_true] at h5
      exact .of rfl rfl (snd_call g h1 h2 h3 h4 h5.1 h5.2)
    · cases h
  | .bi b es, x, X, g, h => by
    simp only [chkE] at h
    split at h
    · rename_i n p2 xs p
      split at h
      · rename_i t ht
        split at h
        · rename_i x1 m p3
          simp only [Bool.and_eq_true, decide_eq_true_eq] at h
          obtain ⟨rfl, h2, rfl, h4, h5, h6⟩ := h
          obtain ⟨hb, hk⟩ := tyOf_of ht
          subst hb
          cases es with
          | nil => simp only [chkEL] at h6; cases h6
          | cons a r =>
            simp only [chkEL, Bool.and_eq_true] at h6
            cases r with
            | nil => exact .of rfl rfl (snd_is g hk (sndE a _ X g h6.1.2).op h2 rfl h4 (bnames_of g h5) h6.1.1)
            | cons _ _ => simp only [chkEL] at h6; cases h6.2
        · cases h
      · rename_i ht
        split at h
        · rename_i m p3 x1 y1 p4
          split at h
          · simp only [Bool.and_eq_true, decide_eq_true_eq] at h
            obtain ⟨rfl, h2, rfl, h4, h5⟩ := h
            obtain ⟨_, h6, h7, h8⟩ := sndEL es _ X g h5
            simp only [List.all_cons, List.all_nil, Bool.and_true, Bool.and_eq_true] at h7
            exact .of rfl rfl (snd_listZip g h2 h4 h6 h7.1 h7.2 h8)
          · rw [Bool.and_eq_true] at h
            obtain ⟨_, h6, h7, h8⟩ := sndEL es _ X g h.2
            exact .of rfl rfl (bi_case g h.1 h6 h7)
        · rw [Bool.and_eq_true] at h
          obtain ⟨_, h6, h7, h8⟩ := sndEL es _ X g h.2
          exact .of rfl rfl (bi_case g h.1 h6 h7)
    · cases h
  | .mt m a es, x, X, g, h => by
    simp only [chkE] at h
    split at h
    · split at h
      · rename_i x1 m1 apos y p
        unfold getB at h
        simp only [Bool.and_eq_true, decide_eq_true_eq] at h
        obtain ⟨⟨rfl, h0, h1, h2⟩, h3, h4, h5⟩ := h
        cases es with
        | nil => simp only [chkEL] at h5; cases h5
        | cons b r =>
          simp only [chkEL, Bool.and_eq_true] at h5
          simp only [elVal, Bool.and_eq_true, Bool.not_eq_true'] at h4
          cases r with
          | nil => exact .of rfl rfl (snd_get1 g (sndE a _ X g h3).op (sndE b _ X g h5.1.2).pe h4.1 h0 h1 h2)
          | cons _ _ => simp only [chkEL] at h5; cases h5.2
      · rename_i x1 m1 apos y z p
        unfold getB at h
        simp only [Bool.and_eq_true, decide_eq_true_eq] at h
        obtain ⟨⟨rfl, h0, h1, h2⟩, hz, h3, h4, h5⟩ := h
        cases es with
        | nil => simp only [chkEL] at h5; cases h5
        | cons b r =>
          simp only [chkEL, Bool.and_eq_true] at h5
          simp only [elVal, Bool.and_eq_true, Bool.not_eq_true'] at h4
          cases r with
          | nil => simp only [chkEL] at h5; cases h5.2
          | cons d r2 =>
            simp only [chkEL, Bool.and_eq_true] at h5
            simp only [elVal, Bool.and_eq_true, Bool.not_eq_true'] at h4
            cases r2 with
            | nil => exact .of rfl rfl (snd_get2 g (sndE a _ X g h3).op (sndE b _ X g h5.1.2).pe (sndE d _ X g h5.2.1.2).pe h4.1 h4.2.1 h0 h1 hz h2)
            | cons _ _ => simp only [chkEL] at h5; cases h5.2.2
      · cases h
    · split at h
      · simp only [Bool.and_eq_true, decide_eq_true_eq] at h
        obtain ⟨rfl, h0, h1, h2, h3, h4⟩ := h
        exact .of rfl rfl (snd_index (sndE a _ X g h3).op (sndEL es _ X g h4).2.1 h1 h0 h2)
      · cases h
    · cases h
  | .pop i es, x, X, g, h => by
    simp only [chkE] at h
    split at h
    · rename_i x1 m1 apos ys p
      simp only [Bool.and_eq_true, decide_eq_true_eq] at h
      obtain ⟨rfl, h1, h2, h3, h4⟩ := h
      obtain ⟨n1, n2, n3⟩ := nameB_of h1
      obtain ⟨_, h6, h7, h8⟩ := sndEL es _ X g h4
      match ys, h6, h7, h8, h3 with
      | [], h6, h7, h8, _ =>
        have := elLen0 h8
        subst this
        exact .of rfl rfl (snd_pop0 n1 n3 h2)
      | [y], h6, h7, h8, _ =>
        rw [List.all_cons, Bool.and_eq_true] at h7
        exact .of rfl rfl (snd_pop1 n1 h6 h7.1 n3 h2 h8)
      | _ :: _ :: _, _, _, _, h3 => exact absurd (Nat.le_of_ble_eq_true h3) (by simp)
    · cases h
  | .getf i f j, x, X, g, h => by
    simp only [chkE] at h
    split at h
    · simp only [Bool.and_eq_true, decide_eq_true_eq] at h
      obtain ⟨rfl, rfl, h1, h2, h3⟩ := h
      obtain ⟨n1, _, _⟩ := nameB_of h1
      obtain ⟨m1, _, m3⟩ := nameB_of h2
      refine .of rfl rfl (snd_getf g n1 m1 h3 ?_)
      unfold nameB at h2
      split at h2
      · rfl
      · cases h2
    · cases h
  | .getn i k0, x, X, g, h => by
    simp only [chkE] at h
    split at h
    · simp only [Bool.and_eq_true, decide_eq_true_eq] at h
      obtain ⟨rfl, h1, h2, h3, h4⟩ := h
      obtain ⟨n1, _, n3⟩ := nameB_of h1
      exact .of rfl rfl (snd_getn (jj := 0) g n1 (sndE k0 _ X g h4).pe h3 h2 n3)
    · cases h
  | .comp own tg it ts e, x, X, g, h => by
    simp only [chkE] at h
    split at h
    · simp only [Bool.and_eq_true, decide_eq_true_eq] at h
      obtain ⟨rfl, h1, h2, h3, h4, h5, h6, h7⟩ := h
      exact .of rfl rfl (snd_comp g (sndIt it _ _ X g h4) (blk_of h1) (ownN_snd _ _) (own_of h2) (fun X' g' e1 _ e3 => tgt_of g'.nd g'.calm (fun i n hl => LocG.of hl) tg _ (by rw [e1, e3]; exact h5))
        (fun X' g' e1 _ e3 => sndTs ts _ X' g' (by rw [e1, e3]; exact h6)) (fun X' g' e1 _ e3 => (sndE e _ X' g' (by rw [e1, e3]; exact h7)).pe) h3)
    · cases h
theorem sndEL : ∀ (es : EL) (xs : List Expr) (X : Cx), Good T k cx X → chkEL T X.N X.env.scope es xs = true → PA X xs (TPs X.K cx (evp cx es)) ∧ PA X xs (TAr X.K cx (evl cx es)) ∧ xs.all notStar = true ∧ elLen es = xs.length
  | .nil, xs, X, g, h => by
    cases xs with
    | nil => exact ⟨ps_nil, ar_nil, rfl, rfl⟩
    | cons _ _ => simp only [chkEL] at h; cases h
  | .cons e r, xs, X, g, h => by
    cases xs with
    | nil => simp only [chkEL] at h; cases h
    | cons x xs =>
      simp only [chkEL, Bool.and_eq_true] at h
      have ih := sndE e x X g h.1.2
      obtain ⟨h1, h2, h3, h4⟩ := sndEL r xs X g h.2
      exact ⟨ps_cons ih.pe h1 (star_of h.1.1), ar_cons ih.op h2 h.1.1, by rw [List.all_cons, h.1.1, h3]; rfl, by rw [List.length_cons, elLen, h4]⟩
theorem sndKv {pos : Pos} : ∀ (es : EL) (ks : List (Option Expr)) (vs : List Expr) (X : Cx), Good T k cx X → chkKv T X.N X.env.scope es ks vs = true → ∃ trs, KvOk X cx pos es ks vs trs
  | .nil, ks, vs, X, g, h => by
    simp only [chkKv, Bool.and_eq_true, List.isEmpty_iff] at h
    obtain ⟨rfl, rfl⟩ := h
    exact ⟨[], .nil⟩
  | .cons f0 .nil, ks, vs, X, g, h => by
    simp only [chkKv] at h
    cases h
  | .cons f0 (.cons e r), ks, vs, X, g, h => by
    simp only [chkKv] at h
    split at h
    · simp only [Bool.and_eq_true, decide_eq_true_eq] at h
      obtain ⟨rfl, h1, h2, h3, h4⟩ := h
      obtain ⟨trs, h5⟩ := sndKv (pos := pos) r _ _ X g h4
      exact ⟨_, .cons (keyOk_of h1 h2) (sndE e _ X g h3).pe h5⟩
    · cases h
theorem sndTs : ∀ (es : EL) (xs : List Expr) (X : Cx), Good T k cx X → chkTs T X.N X.env.scope es xs = true → PTs X xs (TTt X.K cx (evt cx es))
  | .nil, xs, X, g, h => by
    simp only [chkTs, List.isEmpty_iff] at h
    subst h
    exact ts_nil
  | .cons e .nil, xs, X, g, h => by
    simp only [chkTs] at h
    split at h
    · rw [Bool.and_eq_true] at h
      exact ts_one ((sndE e _ X g h.2).pt h.1)
    · cases h
  | .cons _ (.cons _ _), xs, X, g, h => by
    simp only [chkTs] at h
    cases h
theorem sndIt : ∀ (it : It) (tg x : Expr) (X : Cx), Good T k cx X → chkIt T X.N X.env.scope tg it x = true → PI X tg x (TIt X.K cx (evit cx it))
  | .of e, tg, x, X, g, h => by
    simp only [chkIt] at h
    exact pi_of (sndE e x X g h).pe
  | .lk i, tg, x, X, g, h => by
    simp only [chkIt] at h
    exact pi_lk (nameB_of h).1
  | .vals i, tg, x, X, g, h => by
    simp only [chkIt] at h
    split at h
    · simp only [Bool.and_eq_true, decide_eq_true_eq] at h
      obtain ⟨rfl, h1, h2⟩ := h
      obtain ⟨n1, _, n3⟩ := nameB_of h1
      exact pi_vals n1 n3 h2
    · cases h
  | .rg es, tg, x, X, g, h => by
    simp only [chkIt] at h
    split at h
    · rename_i n p2 xs p
      simp only [Bool.and_eq_true, decide_eq_true_eq] at h
      obtain ⟨rfl, h1, h2, h3, h4⟩ := h
      obtain ⟨_, h6, h7, h8⟩ := sndEL es _ X g h2
      match xs, h6, h7, h8, h3, h4 with
      | [], _, _, _, h3, _ => cases h3
      | [x1], h6, h7, h8, _, _ =>
        rw [List.all_cons, Bool.and_eq_true] at h7
        exact pi_rg1 g h1 h6 h7.1 h8
      | [x1, y1], h6, h7, h8, _, _ =>
        simp only [List.all_cons, List.all_nil, Bool.and_true, Bool.and_eq_true] at h7
        exact pi_rg2 g h1 h6 h7.1 h7.2 h8
      | [x1, y1, z1], h6, h7, h8, _, _ =>
        rw [List.all_cons, Bool.and_eq_true] at h7
        exact pi_rg3 g h1 h6 h7.1 h7.2 h8
      | _ :: _ :: _ :: _ :: _, _, _, _, _, h4 => exact absurd (Nat.le_of_ble_eq_true h4) (by simp)
    · cases h
  | .en e, tg, x, X, g, h => by
    simp only [chkIt] at h
    split at h
    · simp only [Bool.and_eq_true, decide_eq_true_eq] at h
      obtain ⟨rfl, h1, h2, h3, h4⟩ := h
      obtain ⟨xs, j, p, rfl⟩ := tup_of h3
      exact pi_en g h1 (sndE e _ X g h4).pe h2
    · cases h
  | .zp a b, tg, x, X, g, h => by
    simp only [chkIt] at h
    split at h
    · simp only [Bool.and_eq_true, decide_eq_true_eq] at h
      obtain ⟨rfl, h1, h2, h3, h4, h5, h6⟩ := h
      obtain ⟨xs, j, p, rfl⟩ := tup_of h4
      exact pi_zp g h1 (sndE a _ X g h5).pe (sndE b _ X g h6).pe h2 h3
    · cases h
end
end
end Mn
end
section
set_option maxHeartbeats 200000
namespace Mn
open PySem L2 PySem.Spec
variable [WW]
def notLocB (sc : Scope) (n : Str) : Bool := !(sc.names.lookup n == some .local)
/-- how a name is stored: 0 by its value alone, 1 by a comprehension on the name's own row -/
def setB (N : List Str) (sc : Scope) (i : Nat) (n : Str) (p2 : Pos) (z : Expr) : Bool := locC N sc i n && (notComp z || (match z with
  | .ListComp _ _ scope p3 => notLocB sc n || (!(p2.line == p3.line) || (scope.names.any fun (n', k) => n' == n && (k == .local || k == .cell)))
  | _ => false))
def setLcB (N : List Str) (sc : Scope) (i : Nat) (n : Str) (p2 : Pos) (z : Expr) : Bool := locB N sc i n && (match z with
  | .ListComp _ _ scope p3 => (p2.line == p3.line) && !(scope.names.any fun (n', k) => n' == n && (k == .local || k == .cell))
  | _ => false)
def bodyDoc : List Stmt → List Stmt
  | .Expr (.Constant (.str _) _ _) _ :: r => r
  | l => l
mutual
def chkS (T : Tab) (N : List Str) (sc : Scope) : S → Stmt → Bool
  | .asg tg e, s => match tg with
    | .nm i => match s with
      | .Assign [.Name n p2] z _ => (setB N sc i n p2 z || setLcB N sc i n p2 z) && chkE T N sc e z
      | _ => false
    | .tp ts => match s with
      | .Assign [.Tuple xs k p2] z _ => notComp z && (notTupE z && (chkTg N sc locC (.tp ts) (.Tuple xs k p2) && chkE T N sc e z))
      | _ => false
  | .par i j a b, s => match s with
    | .Assign [.Tuple [.Name n1 p1, .Name n2 p2] _ _] (.Tuple [x, y] _ _) _ => locB N sc i n1 && (locB N sc j n2 && (!(decide (i = j)) && (parB sc n1 n2 p1 p2 x y && (chkE T N sc a x && chkE T N sc b y))))
    | _ => false
  | .sto i k e, s => match s with
    | .Assign [.Subscript x y _] z _ => nameB N sc i x && (notTupE z && (notSlice y && (chkE T N sc k y && chkE T N sc e z)))
    | _ => false
  | .stn i k e, s => match s with
    | .Assign [.Subscript x y _] z _ => nameB N sc i x && (chkE T N sc k y && chkE T N sc e z)
    | _ => false
  | .stt i ks e, s => match s with
    | .Assign [.Subscript x (.Tuple ys _ _) _] z _ => nameB N sc i x && (nlen (elLen ks) && (chkEL T N sc ks ys && chkE T N sc e z))
    | _ => false
  | .stf i f k e, s => match s with
    | .Assign [.Subscript (.Subscript x (.Constant (.str f') _ _) _) y _] z _ => decide (f = f') && (nameB N sc i x && (chkE T N sc k y && chkE T N sc e z))
    | _ => false
  | .app i e, s => match s with
    | .Expr (.Call (.Attribute x m apos) [y] [] p2) _ => decide (m = Str.ofString "append") && (nameB N sc i x && (notStar y && ((apos.endLine == p2.line) && chkE T N sc e y)))
    | _ => false
  | .ext i e, s => match s with
    | .Expr (.Call (.Attribute x m apos) [y] [] p2) _ => decide (m = Str.ofString "extend") && (nameB N sc i x && (notStar y && ((apos.endLine == p2.line) && chkE T N sc e y)))
    | _ => false
  | .upd _ _, _ => false
  | .sda i k e, s => match s with
    | .Expr (.Call (.Attribute (.Call (.Attribute x m apos) [y, .List [] _] [] cpos) m2 apos2) [z] [] p2) _ => decide (m = Str.ofString "setdefault") && (decide (m2 = Str.ofString "append") && (nameB N sc i x && (notStar y && (notStar z && ((apos.endLine == cpos.line) && ((apos2.endLine == p2.line) && (chkE T N sc k y && chkE T N sc e z)))))))
    | _ => false
  | .expr e, s => match s with
    | .Expr x _ => notComp x && chkE T N sc e x
    | _ => false
  | .aug i op e, s => match s with
    | .AugAssign (.Name n _) o x _ => locC N sc i n && (decide (o = bOp op) && chkE T N sc e x)
    | _ => false
  | .ifs c a b, s => match s with
    | .If x p q _ => (notIf x && chkE T N sc c x) && (chkSL T N sc a p && chkSL T N sc b q)
    | _ => false
  | .fr tg it b, s => match s with
    | .For x y p [] _ => notSet y && (chkIt T N sc x it y && (chkTg N sc locC tg x && chkSL T N sc b p))
    | _ => false
  | .wh c b, s => match s with
    | .While x p [] _ => (notIf x && chkE T N sc c x) && chkSL T N sc b p
    | _ => false
  | .ret e, s => match s with
    | .Return (some x) _ => chkE T N sc e x
    | _ => false
  | .ret0, s => match s with
    | .Return none _ => true
    | _ => false
  | .cont, s => match s with
    | .Continue _ => true
    | _ => false
  | .brk, s => match s with
    | .Break _ => true
    | _ => false
  | .pass, s => match s with
    | .Pass _ => true
    | _ => false
def chkSL (T : Tab) (N : List Str) (sc : Scope) : SL → List Stmt → Bool
  | .nil, l => l.isEmpty
  | .cons s r, l => match l with
    | x :: xs => chkS T N sc s x && chkSL T N sc r xs
    | [] => false
end
section
variable {T : Tab} {k : Nat} {cx : Cxt}
theorem ops_of {op : BOp} {o : Operator} {x : Expr} {X : Cx} {t : TS} {tg : Expr} {p : Pos} (h : o = bOp op) (hp : PS X (.AugAssign tg (bOp op) x p) t) : PS X (.AugAssign tg o x p) t := by subst h; exact hp
set_option maxHeartbeats 4000000 in
mutual
theorem sndS : ∀ (s : S) (x : Stmt) (X : Cx), Good T k cx X → (∀ n, X.fn n = true) → X.env.scope.kind = .function → chkS T X.N X.env.scope s x = true → PS X x (TSt X.K cx (evs cx s))
  | .asg tg e, x, X, g, fn, hk, h => by
    simp only [chkS] at h
    split at h
    · rename_i i
      split at h
      · rename_i n p2 z p
        simp only [Bool.and_eq_true, Bool.or_eq_true] at h
        obtain ⟨h1, h2⟩ := h
        rcases h1 with h1 | h1
        · unfold setB at h1
          simp only [Bool.and_eq_true, Bool.or_eq_true] at h1
          obtain ⟨h3, h4⟩ := h1
          refine snd_set g (LocG.ofC (fun n _ => fn n) h3) (sndE e z X g h2).pe ?_
          rcases h4 with h4 | h4
          · exact swaps_of h4
          · split at h4
            · rename_i e1 gs scope p3
              unfold swapsWith
              simp only [Bool.or_eq_true, Bool.not_eq_true'] at h4
              unfold notLocB at h4
              have key : (X.env.blockKind == .function && X.env.kindOf n == some .local && p2.line == (Expr.ListComp e1 gs scope p3).pos.line && !(scope.names.any fun (n', k) => n' == n && (k == .local || k == .cell))) = false := by
                rcases h4 with h4 | h4 | h4
                · have : (X.env.kindOf n == some .local) = false := by
                    show (X.env.scope.names.lookup n == some .local) = false
                    rw [Bool.not_eq_true'] at h4
                    exact h4
                  rw [this]; simp
                · have : (p2.line == (Expr.ListComp e1 gs scope p3).pos.line) = false := h4
                  rw [this]; simp
                · rw [h4]; simp
              show pure _ = _
              exact congrArg pure key
            · cases h4
        · unfold setLcB at h1
          simp only [Bool.and_eq_true] at h1
          obtain ⟨h3, h4⟩ := h1
          split at h4
          · rename_i e1 gs scope p3
            simp only [Bool.and_eq_true, Bool.not_eq_true'] at h4
            cases e with
            | comp own tg it ts e0 =>
              simp only [chkE] at h2
              split at h2
              · rename_i z0 x0 y0 ifs asy sc0 p0 hq
                cases hq
                simp only [Bool.and_eq_true, decide_eq_true_eq] at h2
                obtain ⟨rfl, k1, k2, k3, k4, k5, k6, k7⟩ := h2
                exact snd_setLc g h3 (sndIt it _ _ X g k4) (blk_of k1) (ownN_snd _ _) (own_of k2) (fun X' g' e1 _ e3 => tgt_of g'.nd g'.calm (fun i n hl => LocG.of hl) tg _ (by rw [e1, e3]; exact k5))
                  (fun X' g' e1 _ e3 => sndTs ts _ X' g' (by rw [e1, e3]; exact k6)) (fun X' g' e1 _ e3 => (sndE e0 _ X' g' (by rw [e1, e3]; exact k7)).pe) k3 hk h4.1 h4.2
              · cases h2
            | _ => simp only [chkE, nameB] at h2; (try (split at h2 <;> first | cases h2 | (rename_i hq; cases hq))); all_goals cases h2
          · cases h4
      · cases h
    · rename_i ts
      split at h
      · rename_i xs j p2 z p
        simp only [Bool.and_eq_true] at h
        obtain ⟨h1, h2, h3, h4⟩ := h
        exact snd_asgT g (sndE e z X g h4).pe (tgt_of g.nd g.calm (fun i n hl => LocG.ofC (fun n _ => fn n) hl) _ _ h3) h1 h2
      · cases h
  | .par i j a b, x, X, g, fn, hk, h => by
    simp only [chkS] at h
    split at h
    · simp only [Bool.and_eq_true, Bool.not_eq_true', decide_eq_false_iff_not] at h
      obtain ⟨h1, h2, h3, h4, h5, h6⟩ := h
      exact snd_par g h1 h2 h3 h4 (sndE a _ X g h5).pe (sndE b _ X g h6).pe
    · cases h
  | .sto i k0 e, x, X, g, fn, hk, h => by
    simp only [chkS] at h
    split at h
    · simp only [Bool.and_eq_true] at h
      obtain ⟨h1, h3, h4, h5, h6⟩ := h
      exact snd_sto g (nameB_of h1).1 (sndE k0 _ X g h5).pe (sndE e _ X g h6).pe h3 h4
    · cases h
  | .stn i k0 e, x, X, g, fn, hk, h => by
    simp only [chkS] at h
    split at h
    · simp only [Bool.and_eq_true] at h
      obtain ⟨h1, h5, h6⟩ := h
      exact snd_stn g (nameB_of h1).1 (sndE k0 _ X g h5).pe (sndE e _ X g h6).pe
    · cases h
  | .stt i ks e, x, X, g, fn, hk, h => by
    simp only [chkS] at h
    split at h
    · simp only [Bool.and_eq_true] at h
      obtain ⟨h1, h3, h4, h5⟩ := h
      exact snd_stt g (nameB_of h1).1 (sndEL ks _ X g h4).1 (sndE e _ X g h5).pe (nlen_of h3)
    · cases h
  | .stf i f k0 e, x, X, g, fn, hk, h => by
    simp only [chkS] at h
    split at h
    · simp only [Bool.and_eq_true, decide_eq_true_eq] at h
      obtain ⟨rfl, h1, h3, h4⟩ := h
      exact snd_stf g (nameB_of h1).1 (sndE k0 _ X g h3).pe (sndE e _ X g h4).pe
    · cases h
  | .app i e, x, X, g, fn, hk, h => by
    simp only [chkS] at h
    split at h
    · simp only [Bool.and_eq_true, decide_eq_true_eq] at h
      obtain ⟨rfl, h1, h2, h3, h4⟩ := h
      obtain ⟨n1, _, n3⟩ := nameB_of h1
      exact snd_app n1 (sndE e _ X g h4).pe n3 h2 h3
    · cases h
  | .ext i e, x, X, g, fn, hk, h => by
    simp only [chkS] at h
    split at h
    · simp only [Bool.and_eq_true, decide_eq_true_eq] at h
      obtain ⟨rfl, h1, h2, h3, h4⟩ := h
      obtain ⟨n1, _, n3⟩ := nameB_of h1
      exact snd_ext n1 (sndE e _ X g h4).pe n3 h2 h3
    · cases h
  | .upd i e, x, X, g, fn, hk, h => by simp only [chkS] at h; cases h
  | .sda i k0 e, x, X, g, fn, hk, h => by
    simp only [chkS] at h
    split at h
    · simp only [Bool.and_eq_true, decide_eq_true_eq] at h
      obtain ⟨rfl, rfl, h1, h2, h3, h4, h5, h6, h7⟩ := h
      obtain ⟨n1, _, n3⟩ := nameB_of h1
      exact snd_sda n1 (sndE k0 _ X g h6).pe (sndE e _ X g h7).pe n3 h2 h3 h4 h5
    · cases h
  | .expr e, x, X, g, fn, hk, h => by
    simp only [chkS] at h
    split at h
    · rw [Bool.and_eq_true] at h
      exact snd_expr (sndE e _ X g h.2).pe h.1
    · cases h
  | .aug i op e, x, X, g, fn, hk, h => by
    simp only [chkS] at h
    split at h
    · simp only [Bool.and_eq_true, decide_eq_true_eq] at h
      obtain ⟨h1, h2, h3⟩ := h
      exact ops_of h2 (snd_aug g (LocG.ofC (fun n _ => fn n) h1) (sndE e _ X g h3).pe)
    · cases h
  | .ifs c a b, x, X, g, fn, hk, h => by
    simp only [chkS] at h
    split at h
    · simp only [Bool.and_eq_true] at h
      exact snd_if ((sndE c _ X g h.1.2).pt h.1.1) (sndSL a _ X g fn hk h.2.1) (sndSL b _ X g fn hk h.2.2)
    · cases h
  | .fr tg it b, x, X, g, fn, hk, h => by
    simp only [chkS] at h
    split at h
    · simp only [Bool.and_eq_true] at h
      obtain ⟨h1, h2, h3, h4⟩ := h
      exact snd_fr g (sndIt it _ _ X g h2) (tgt_of g.nd g.calm (fun i n hl => LocG.ofC (fun n _ => fn n) hl) _ _ h3) (sndSL b _ X g fn hk h4) h1
    · cases h
  | .wh c b, x, X, g, fn, hk, h => by
    simp only [chkS] at h
    split at h
    · simp only [Bool.and_eq_true] at h
      exact snd_wh g ((sndE c _ X g h.1.2).pt h.1.1) (sndSL b _ X g fn hk h.2)
    · cases h
  | .ret e, x, X, g, fn, hk, h => by
    simp only [chkS] at h
    split at h
    · exact snd_ret (sndE e _ X g h).pe
    · cases h
  | .ret0, x, X, g, fn, hk, h => by
    simp only [chkS] at h
    split at h
    · exact snd_ret0
    · cases h
  | .cont, x, X, g, fn, hk, h => by
    simp only [chkS] at h
    split at h
    · exact snd_cont
    · cases h
  | .brk, x, X, g, fn, hk, h => by
    simp only [chkS] at h
    split at h
    · exact snd_brk
    · cases h
  | .pass, x, X, g, fn, hk, h => by
    simp only [chkS] at h
    split at h
    · exact snd_pass
    · cases h
theorem sndSL : ∀ (s : SL) (xs : List Stmt) (X : Cx), Good T k cx X → (∀ n, X.fn n = true) → X.env.scope.kind = .function → chkSL T X.N X.env.scope s xs = true → PSs X xs (TSt X.K cx (evss cx s))
  | .nil, xs, X, g, fn, hk, h => by
    simp only [chkSL, List.isEmpty_iff] at h
    subst h
    exact ss_nil
  | .cons s r, xs, X, g, fn, hk, h => by
    cases xs with
    | nil => simp only [chkSL] at h; cases h
    | cons x xs =>
      simp only [chkSL, Bool.and_eq_true] at h
      exact ss_cons (sndS s x X g fn hk h.1) (sndSL r xs X g fn hk h.2)
end
end
end Mn
end
section
set_option maxHeartbeats 200000
namespace Mn
open PySem L2 PySem.Spec
variable [WW]
section
variable {K : PySem.W.Frag} {Z H Z' H' : Hp}
/-- what the variables own at a def's entry -/
def fpOf (Gs : List (List Addr)) (i : Nat) : List Addr := (Gs[i]?).getD []
theorem inL_fp {Gs : List (List Addr)} {a : Addr} : inL Gs a ↔ U (fpOf Gs) a := by
  constructor
  · rintro ⟨G, hG, ha⟩
    obtain ⟨i, hi⟩ := List.mem_iff_getElem?.mp hG
    exact ⟨i, by unfold fpOf; rw [hi]; exact ha⟩
  · rintro ⟨i, ha⟩
    unfold fpOf at ha
    cases h : Gs[i]? with
    | none => rw [h] at ha; cases ha
    | some G => rw [h] at ha; exact ⟨G, List.mem_of_getElem? h, ha⟩
theorem ArgO.lens {ms : List M} {vs : List V} {Gs : List (List Addr)} (a : ArgO K Z H ms vs Gs) : vs.length = ms.length ∧ Gs.length = ms.length := by
  induction a with
  | nil => exact ⟨rfl, rfl⟩
  | cons _ _ _ ih => exact ⟨by rw [List.length_cons, List.length_cons, ih.1], by rw [List.length_cons, List.length_cons, ih.2]⟩
theorem ArgO.get {ms : List M} {vs : List V} {Gs : List (List Addr)} (a : ArgO K Z H ms vs Gs) : ∀ {i : Nat} {m : M}, ms[i]? = some m → ∃ v, vs[i]? = some v ∧ Own K Z H m v (fpOf Gs i) := by
  induction a with
  | nil => intro i m h; simp at h
  | @cons m0 v0 G0 ms vs Gs o _ _ ih =>
    intro i m h
    cases i with
    | zero => simp at h; subst h; exact ⟨v0, rfl, o⟩
    | succ i =>
      obtain ⟨v, h1, h2⟩ := ih (i := i) (m := m) (by simpa using h)
      exact ⟨v, by simpa using h1, by simpa [fpOf] using h2⟩
theorem ArgO.dj {ms : List M} {vs : List V} {Gs : List (List Addr)} (a : ArgO K Z H ms vs Gs) : ∀ {i j : Nat} {x : Addr}, x ∈ fpOf Gs i → x ∈ fpOf Gs j → i = j := by
  induction a with
  | nil => intro i j x h; simp [fpOf] at h
  | @cons m0 v0 G0 ms vs Gs o _ d ih =>
    have key : ∀ {j : Nat} {x : Addr}, x ∈ G0 → x ∈ fpOf (G0 :: Gs) (j + 1) → False := fun {j x} h1 h2 => by
      have h2 : x ∈ fpOf Gs j := by simpa [fpOf] using h2
      obtain ⟨G, hG, hx⟩ := inL_fp.mpr ⟨j, h2⟩
      exact d x h1 G hG hx
    intro i j x h1 h2
    cases i with
    | zero =>
      cases j with
      | zero => rfl
      | succ j => exact (key (by simpa [fpOf] using h1) h2).elim
    | succ i =>
      cases j with
      | zero => exact (key (by simpa [fpOf] using h2) h1).elim
      | succ j => rw [ih (i := i) (j := j) (by simpa [fpOf] using h1) (by simpa [fpOf] using h2)]
def rho0 (ms : List M) (n : Nat) : Env := ms.map some ++ List.replicate (n - ms.length) none
theorem rho0_slot {ms : List M} {n i : Nat} : slot (rho0 ms n) i = ms[i]? := by
  unfold slot rho0
  by_cases h : i < ms.length
  · rw [List.getElem?_append_left (by simpa using h), List.getElem?_map, List.getElem?_eq_getElem h]; rfl
  · rw [List.getElem?_append_right (by simpa using h), List.getElem?_replicate, List.getElem?_eq_none (by omega : ms.length ≤ i)]
    split <;> rfl
theorem start_get {N : List Str} {vs : List V} {i : Nat} {v : V} (h : vs[i]? = some v) : (L2.start N vs)[i]? = some (some v) := by
  unfold L2.start
  have hi := (List.getElem?_eq_some_iff.mp h).1
  rw [List.getElem?_append_left (by simpa using hi), List.getElem?_map, h]
  rfl
theorem entry_rel {N : List Str} {ms : List M} {vs : List V} {Gs : List (List Addr)} (s : Sub Z H) (a : ArgO K Z H ms vs Gs) (hl : ms.length ≤ N.length) : Rel K Z H (L2.start N vs) (rho0 ms N.length) (fpOf Gs) := by
  obtain ⟨l1, l2⟩ := a.lens
  refine ⟨s, ?_, fun i m e => ?_, fun i e => ?_, fun i j x h1 h2 => a.dj h1 h2⟩
  · unfold L2.start rho0
    simp [l1]
  · rw [rho0_slot] at e
    obtain ⟨v, h1, h2⟩ := a.get e
    exact ⟨v, start_get h1, h2⟩
  · rw [rho0_slot] at e
    unfold fpOf
    have : ms.length ≤ i := by
      rcases Nat.lt_or_ge i ms.length with h | h
      · rw [List.getElem?_eq_getElem h] at e; cases e
      · exact h
    rw [List.getElem?_eq_none (by omega)]
    rfl
/-- the arguments behind: those that were mutable -/
def outG (F : Nat → List Addr) : List M → Nat → List (List Addr)
  | [], _ => []
  | m :: ms, j => (if isMut m = true then F j else []) :: outG F ms (j + 1)
theorem outG_mem {F : Nat → List Addr} {a : Addr} : ∀ {ms : List M} {j : Nat}, inL (outG F ms j) a → ∃ i, j ≤ i ∧ a ∈ F i
  | [], _, ⟨_, h, _⟩ => by cases h
  | m :: ms, j, ⟨G, h, ha⟩ => by
    unfold outG at h
    rcases List.mem_cons.mp h with e | h
    · subst e
      split at ha
      · exact ⟨j, Nat.le_refl _, ha⟩
      · cases ha
    · obtain ⟨i, h1, h2⟩ := outG_mem ⟨G, h, ha⟩
      exact ⟨i, by omega, h2⟩
theorem outs_len : ∀ {ms : List M} {ρ : Env}, (outs ms ρ).length = ms.length
  | [], _ => rfl
  | m :: ms, ρ => by unfold outs; rw [List.length_cons, List.length_cons, outs_len]
theorem outs_ok {Zb Hb : Hp} : ∀ {ms : List M} {vs : List V} {Gs : List (List Addr)} {ρ : Env} {F : Nat → List Addr} {j : Nat}, ArgO K Zb Hb ms vs Gs → Sub Zb Z' → (∀ i m, ms[i]? = some m → isMut m = true → ∃ x, slot ρ i = some x ∧ ∃ v, vs[i]? = some v ∧ Own K Z' H' x v (F (j + i))) → (∀ a b x, x ∈ F a → x ∈ F b → a = b) →
    ArgO K Z' H' (outs ms ρ) vs (outG F ms j)
  | [], _, _, ρ, F, j, .nil, _, _, _ => .nil
  | m :: ms, _, _, ρ, F, j, .cons (v := v) (vs := vs) (Gs := Gs) o as d, s, hm, dj => by
    have ht : ArgO K Z' H' (outs ms ρ.tail) vs (outG F ms (j + 1)) := outs_ok as s (fun i m0 e hmut => by
      obtain ⟨x, h1, w, h2, h3⟩ := hm (i + 1) m0 (by simpa using e) hmut
      refine ⟨x, ?_, w, by simpa using h2, ?_⟩
      · cases ρ with
        | nil => cases h1
        | cons r ρ => simpa [slot] using h1
      · have : j + 1 + i = j + (i + 1) := by omega
        rw [this]; exact h3) dj
    unfold outs outG
    cases hmut : isMut m with
    | true =>
      obtain ⟨x, h1, w, h2, h3⟩ := hm 0 m rfl hmut
      have hw : w = v := by simpa using h2.symm
      subst hw
      rw [if_pos rfl]
      have : headOr m true ρ = x := by
        clear hm ht
        cases ρ with
        | nil => cases h1
        | cons r ρ =>
          cases r with
          | none => cases h1
          | some r => cases h1; rfl
      rw [this]
      refine .cons h3 ht fun a ha G hG hx => ?_
      obtain ⟨i, h4, h5⟩ := outG_mem ⟨G, hG, hx⟩
      have := dj _ _ _ ha h5
      omega
    | false =>
      have : headOr m false ρ = m := by clear hm ht; cases ρ <;> rfl
      rw [this, if_neg Bool.false_ne_true]
      cases m with
      | v p =>
        have o' : Own K Z' H' (.v p) v [] := by
          cases o with
          | v rp => exact .v (rp.sub s)
        exact .cons o' ht (fun a ha => by cases ha)
      | _ => cases hmut
theorem outs_lk : ∀ {ms : List M} {ρ : Env}, (∀ i m, ms[i]? = some (.k m) → slot ρ i = some (.k m)) → ∀ (i : Nat) (m : M), ms[i]? = some (.k m) → (outs ms ρ)[i]? = some (.k m)
  | [], _, _, i, m, e => by simp at e
  | m0 :: ms, ρ, h, i, m, e => by
    unfold outs
    cases i with
    | zero =>
      simp at e
      subst e
      have h1 := h 0 m rfl
      cases ρ with
      | nil => cases h1
      | cons r ρ =>
        cases r with
        | none => cases h1
        | some r => cases h1; rfl
    | succ i =>
      rw [List.getElem?_cons_succ]
      refine outs_lk (fun i m e => ?_) i m (by simpa using e)
      have h1 := h (i + 1) m (by simpa using e)
      cases ρ with
      | nil => cases h1
      | cons r ρ => simpa [slot] using h1
theorem slot_tail {ρ : Env} {i : Nat} : slot ρ.tail i = slot ρ (i + 1) := by
  cases ρ <;> simp [slot]
end
/-- one def's text and its small text -/
structure DefOk (T : Tab) (F : Fn) (params : Arguments) (body : List Stmt) (scope : Scope) : Prop where
  sc : FnScope F.N (F.N.take F.np) scope
  np : F.np ≤ F.N.length
  chk : chkSL T F.N scope F.body body = true
/-- a table's defs in a given state -/
structure TabIn (T : Tab) (K : PySem.W.Frag) (mg : Str → Option Value) : Prop where
  free : ∀ x ∈ bnames, mg x = none
  fns : ∀ (f : Nat) (F : Fn), T.fs[f]? = some F → ∃ a fd params body scope, mg F.name = some (.ref a) ∧ FunD K F.name F.name params body scope [] [] a fd ∧ Binds K fd (F.N.take F.np) [] ∧ DefOk T F params body scope
  gs : ∀ (c : Nat) (p : P), (T.gs[c]?).map (·.2) = some p → ∃ x u v, (T.gs[c]?).map (·.1) = some x ∧ mg x = some u ∧ RelV v u ∧ Rep K (fun _ => none) v p
section
variable {T : Tab} {Pr : Program} {w : World} {K : PySem.W.Frag} {mg : Str → Option Value} {base : Heap}
theorem run_def {C : FnS} {F : Fn} {k : Nat} {params : Arguments} {body : List Stmt} {scope : Scope} {X : Cx} {vs : List V} {H : Hp} {Q : VK} {Z : Hp} {ds ds' : List M} {d : M} {Gs : List (List Addr)} (D : DefOk T F params body scope) (hN : X.N = F.N) (hsc : X.env.scope = scope) (hfn : ∀ n, X.fn n = true) (hK : X.K = K)
    (g : Good T k (cxt T C ds) X) (e : runF T C F ds = some (d, ds')) (s : Sub Z H) (as : ArgO K Z H ds vs Gs)
    (q : ∀ Z' H' v G Gs', Sub Z' H' → Step Z H Z' H' (inL Gs) (inL (G :: Gs')) → Own K Z' H' d v G → ArgO K Z' H' ds' vs Gs' → (∀ a ∈ G, ¬ inL Gs' a) → LkA ds ds' → Q v H') :
    PSs X body (TSt X.K (cxt T C ds) (evss (cxt T C ds) F.body)) ∧ TSt X.K (cxt T C ds) (evss (cxt T C ds) F.body) { nx := fun _ H' => Q .non H', rt := Q } (L2.start F.N vs) H := by
  subst hK
  refine ⟨sndSL F.body body X g hfn (by rw [hsc]; exact D.sc.kind) (by rw [hN, hsc]; exact D.chk), ?_⟩
  unfold runF at e
  split at e
  · rename_i hlen
    split at e
    · rename_i f ρ e1
      split at e
      · rename_i m em
        cases e
        have R0 := entry_rel (N := F.N) s as (by rw [hlen]; exact D.np)
        refine ⟨Z, rho0 ds F.N.length, fpOf Gs, f, ρ, R0, e1, fun σ' Z' H' F' gs => ?_⟩
        have mut_ok : ∀ i m, ds[i]? = some m → isMut m = true → ∃ x, slot ρ i = some x ∧ ∃ v, vs[i]? = some v ∧ Own X.K Z' H' x v (F' (0 + i)) := fun i m0 e0 hm => by
          have hp : pmAt (cxt T C ds) i = true := by
            unfold pmAt cxt
            rw [List.getElem?_map, e0]
            exact hm
          have hn : slot ρ i ≠ none := gs.lk.pm i hp (by rw [rho0_slot, e0]; exact fun z => by cases z)
          cases hx : slot ρ i with
          | none => exact (hn hx).elim
          | some x =>
            obtain ⟨v, h1, h2⟩ := gs.rel.own i x hx
            rw [gs.pg i hp] at h1
            obtain ⟨w, h3, _⟩ := as.get e0
            rw [start_get h3] at h1
            cases h1
            exact ⟨x, rfl, _, h3, by rw [Nat.zero_add]; exact h2⟩
        have a2 := outs_ok as gs.st.zz mut_ok gs.rel.dj
        have lka : LkA ds (outs ds ρ) := ⟨outs_len, fun j m0 e0 => outs_lk (fun i m1 e1 => gs.lk.lk i m1 (by rw [rho0_slot]; exact e1)) j m0 e0⟩
        have fin : ∀ {v : V} {G : List Addr}, Own X.K Z' H' d v G → (∀ a ∈ G, ¬ U F' a) → (∀ a ∈ G, U (fpOf Gs) a ∨ H a = none) → Q v H' := fun {v G} ow ap nw => by
          refine q Z' H' v G (outG F' ds 0) gs.rel.sub ⟨fun a o h n => gs.st.fr a o h fun z => n (inL_fp.mpr z), gs.st.zz, fun a o h => ?_, fun a h => ?_, gs.st.fz⟩ ow a2 (fun a ha h => ?_) lka
          · rcases gs.st.zn a o h with h | h | h | h
            · exact .inl h
            · exact .inr (.inl (inL_fp.mpr h))
            · exact .inr (.inr (.inl h))
            · exact .inr (.inr (.inr h))
          · obtain ⟨G2, hg, ha⟩ := h
            rcases List.mem_cons.mp hg with z | z
            · subst z
              rcases nw a ha with z | z
              · exact .inl (inL_fp.mpr z)
              · exact .inr z
            · obtain ⟨i, _, h2⟩ := outG_mem ⟨G2, z, ha⟩
              rcases gs.st.an a ⟨i, h2⟩ with z | z
              · exact .inl (inL_fp.mpr z)
              · exact .inr z
          · obtain ⟨i, _, h2⟩ := outG_mem h
            exact ap a ha ⟨i, h2⟩
        cases f with
        | nx => cases em; exact fin (.v .non) no0 no0
        | rt m0 => cases em; exact fun v G r => fin r.own r.ap r.nw
        | ct => cases em
        | bk => cases em
      · cases e
    · cases e
  · cases e
/-- every def does what the small table answers -/
theorem fns_ok (hP : Pr = WW.P) (hw : w = WW.w) (tab : TabIn T K mg) : ∀ (k f : Nat) (F : Fn), T.fs[f]? = some F → ∃ a fd, mg F.name = some (.ref a) ∧ PySem.W.keepIn K (.ref a) = true ∧ Binds K fd (F.N.take F.np) [] ∧ FnOk Pr w K mg base CX0 k a fd (F.N.take F.np) (spF K (callF T k) f)
  | 0, f, F, hF => by
    obtain ⟨a, fd, params, body, scope, h1, h2, h3, h4⟩ := tab.fns f F hF
    refine ⟨a, fd, h1, h2.kp, h3, ⟨fun vs H Q E h => ?_, fun A outer s H args us vs Q E _ _ _ _ h => ?_⟩⟩
    · obtain ⟨Z, ds, d, ds', Gs, e, _⟩ := h
      simp only [callF] at e
      cases e
    · obtain ⟨Z, ds, d, ds', Gs, e, _⟩ := h
      simp only [callF] at e
      cases e
  | k + 1, f, F, hF => by
    obtain ⟨a, fd, params, body, scope, h1, h2, h3, h4⟩ := tab.fns f F hF
    refine ⟨a, fd, h1, h2.kp, h3, h2.ok h4.sc (fun vs H Q E h => ?_) fun cdv A outer s H vs Q E hr h => ?_⟩
    · obtain ⟨Z, ds, d, ds', Gs, e, _, as, _⟩ := h
      have : ds.length = F.np := by
        simp only [callF, hF] at e
        unfold runF at e
        split at e
        · assumption
        · cases e
      rw [as.lens.1, this, List.length_take, Nat.min_eq_left h4.np]
    · obtain ⟨Z, ds, d, ds', Gs, e, sb, as, q⟩ := h
      have e : runF T (callF T k) F ds = some (d, ds') := by simpa only [callF, hF] using e
      have good : Good T k (cxt T (callF T k) ds) (cxOf CX0 Pr w K mg base F.N F.name scope a cdv A outer s H E).nox := ⟨rfl, h4.sc.nd, hr, fun f' F' hF' => by
        obtain ⟨a', fd', k1, k2, k3, k4⟩ := fns_ok hP hw tab k f' F' hF'
        exact ⟨a', fd', k1, k2, k3, k4⟩, tab.free, tab.gs, rfl, ⟨hP, hw⟩⟩
      obtain ⟨r1, r2⟩ := run_def (X := (cxOf CX0 Pr w K mg base F.N F.name scope a cdv A outer s H E).nox) h4 rfl rfl (fun _ => rfl) rfl good e sb as q
      exact ⟨_, PSs.nox r1, r2⟩
/-- what the law is asked: the script's list, an end by True -/
def spLaw (K : PySem.W.Frag) : Sp := fun vs H Q _ => ∃ (a : Addr) (ns : List Int), vs = [.ref a] ∧ SqL K H a (ns.map V.int) ∧ ns.length ≤ 63 ∧ ∀ H', Q (.bl true) H'
/-- one def, its callees as they are -/
theorem def_ok (hP : Pr = WW.P) (hw : w = WW.w) (tab : TabIn T K mg) {k f : Nat} {F : Fn} (hF : T.fs[f]? = some F) {a : Addr} {fd : FuncData} {params : Arguments} {body : List Stmt} {scope : Scope} (h2 : FunD K F.name F.name params body scope [] [] a fd) (h4 : DefOk T F params body scope) :
    FnOk Pr w K mg base CX0 (k + 1) a fd (F.N.take F.np) (spF K (callF T (k + 1)) f) := by
  refine h2.ok h4.sc (fun vs H Q E h => ?_) fun cdv A outer s H vs Q E hr h => ?_
  · obtain ⟨Z, ds, d, ds', Gs, e, _, as, _⟩ := h
    have : ds.length = F.np := by
      simp only [callF, hF] at e
      unfold runF at e
      split at e
      · assumption
      · cases e
    rw [as.lens.1, this, List.length_take, Nat.min_eq_left h4.np]
  · obtain ⟨Z, ds, d, ds', Gs, e, sb, as, q⟩ := h
    have e : runF T (callF T k) F ds = some (d, ds') := by simpa only [callF, hF] using e
    have good : Good T k (cxt T (callF T k) ds) (cxOf CX0 Pr w K mg base F.N F.name scope a cdv A outer s H E).nox := ⟨rfl, h4.sc.nd, hr, fun f' F' hF' => fns_ok hP hw tab k f' F' hF', tab.free, tab.gs, rfl, ⟨hP, hw⟩⟩
    obtain ⟨r1, r2⟩ := run_def (X := (cxOf CX0 Pr w K mg base F.N F.name scope a cdv A outer s H E).nox) h4 rfl rfl (fun _ => rfl) rfl good e sb as q
    exact ⟨_, PSs.nox r1, r2⟩
theorem law_ok (hP : Pr = WW.P) (hw : w = WW.w) (tab : TabIn T K mg) {k f : Nat} {F : Fn} (hF : T.fs[f]? = some F) {a : Addr} {fd : FuncData} {params : Arguments} {body : List Stmt} {scope : Scope} (h2 : FunD K F.name F.name params body scope [] [] a fd) (h4 : DefOk T F params body scope)
    (h : ∀ ns : List Int, ns.length ≤ 63 → ∃ ds, callF T (k + 1) f [.s ns] = some (.v (.bool true), ds)) : FnOk Pr w K mg base CX0 (k + 1) a fd (F.N.take F.np) (spLaw K) := by
  refine (def_ok (Pr := Pr) (w := w) (base := base) hP hw tab hF h2 h4).imp fun vs H Q E ⟨b, ns, ev, hs, hl, q⟩ => ?_
  subst ev
  obtain ⟨ds, e⟩ := h ns hl
  have hz : ∃ Z : Hp, Sub Z H ∧ SqL K Z b (ns.map V.int) := by
    rcases hs with (hs | ⟨o, hs⟩) | hs
    · refine ⟨fun c => if c = b then H c else none, fun c o e => ?_, .inl (.inl (by show (if b = b then H b else none) = _; rw [if_pos rfl]; exact hs))⟩
      have e : (if c = b then H c else none) = some o := e
      by_cases hc : c = b
      · rw [if_pos hc] at e; exact e
      · rw [if_neg hc] at e; cases e
    · refine ⟨fun c => if c = b then H c else none, fun c o e => ?_, .inl (.inr ⟨o, by show (if b = b then H b else none) = _; rw [if_pos rfl]; exact hs⟩)⟩
      have e : (if c = b then H c else none) = some o := e
      by_cases hc : c = b
      · rw [if_pos hc] at e; exact e
      · rw [if_neg hc] at e; cases e
    · exact ⟨fun _ => none, fun _ _ e => (by cases e), .inr hs⟩
  obtain ⟨Z, sz, sq⟩ := hz
  refine ⟨Z, [.s ns], _, ds, [[]], e, sz, .cons (.s sq (Nat.le_trans hl (lim_le (by decide)))) .nil (fun a ha => by cases ha), fun Z' H' v G Gs' _ _ ow _ _ _ => ?_⟩
  have := (Own.view ow).bl
  subst this
  exact q H'
end
end Mn
end
section
set_option maxHeartbeats 200000
namespace Mn
open PySem L2 PySem.Spec
mutual
/-- the value stands for the plain one -/
def conB (K : PySem.W.Frag) : Value → P → Bool
  | .none, .none => true
  | .bool b, .bool c => b == c
  | .int i _, .int j => decide (i = j)
  | .str x _, .str y => decide (x = y) && (PyData.strOk y && Nat.ble y.length sizeLine)
  | .ref a, .tuple ps => (match K.lookup a with
    | some ⟨.type c, _, .seq its _, _⟩ => decide (c = "tuple") && (decide (its.size ≤ sizeLine) && conBL K its.toList ps)
    | _ => false)
  | _, _ => false
def conBL (K : PySem.W.Frag) : List Value → List P → Bool
  | [], [] => true
  | u :: us, p :: ps => conB K u p && conBL K us ps
  | _, _ => false
end
mutual
theorem conB_ok {K : PySem.W.Frag} {Z : Hp} : ∀ {u : Value} {p : P}, conB K u p = true → ∃ v, RelV v u ∧ Rep K Z v p
  | u, .none, h => by
    cases u with
    | none => exact ⟨.non, rfl, .non⟩
    | _ => simp [conB] at h
  | u, .bool c, h => by
    cases u with
    | bool b =>
      have h : (b == c) = true := by simpa [conB] using h
      have e : b = c := eq_of_beq h
      subst e
      exact ⟨.bl b, rfl, .bl b⟩
    | _ => simp [conB] at h
  | u, .int j, h => by
    cases u with
    | int i t =>
      have e : i = j := by simpa [conB] using h
      subst e
      exact ⟨.int i, ⟨t, rfl⟩, .int i⟩
    | _ => simp [conB] at h
  | u, .str y, h => by
    cases u with
    | str x t =>
      have h : (decide (x = y) && (PyData.strOk y && Nat.ble y.length sizeLine)) = true := by simpa only [conB] using h
      obtain ⟨h1, h2⟩ := He.ba h
      obtain ⟨h3, h4⟩ := He.ba h2
      have e : x = y := of_decide_eq_true h1
      subst e
      exact ⟨.str x, ⟨t, rfl⟩, .str x h3 (Nat.le_of_ble_eq_true h4)⟩
    | _ => simp [conB] at h
  | u, .tuple ps, h => by
    cases u with
    | ref a =>
      unfold conB at h
      cases q : K.lookup a with
      | none =>
        rw [q] at h
        cases h
      | some o =>
        obtain ⟨oc, od, dt, osl⟩ := o
        rw [q] at h
        cases oc with
        | type c =>
          cases dt with
          | seq its n =>
            have h : (decide (c = "tuple") && (decide (its.size ≤ sizeLine) && conBL K its.toList ps)) = true := h
            obtain ⟨h1, h2⟩ := He.ba h
            obtain ⟨h3, h4⟩ := He.ba h2
            obtain ⟨vs, e1, e2⟩ := conBL_ok (Z := Z) h4
            exact ⟨.ref a, rfl, .tup (.inr ⟨_, its, n, q, congrArg Value.type (of_decide_eq_true h1), rfl, of_decide_eq_true h3, e1⟩) e2⟩
          | _ => cases h
        | _ => cases dt <;> cases h
    | _ => simp [conB] at h
  | u, .list _, h => by cases u <;> simp [conB] at h
  | u, .dict _, h => by cases u <;> simp [conB] at h
theorem conBL_ok {K : PySem.W.Frag} {Z : Hp} : ∀ {us : List Value} {ps : List P}, conBL K us ps = true → ∃ vs, Vals vs us ∧ RepL K Z vs ps
  | [], [], _ => ⟨[], .nil, .nil⟩
  | [], _ :: _, h => by simp [conBL] at h
  | _ :: _, [], h => by simp [conBL] at h
  | u :: us, p :: ps, h => by
    have h : (conB K u p && conBL K us ps) = true := by simpa only [conBL] using h
    obtain ⟨h1, h2⟩ := He.ba h
    obtain ⟨v, a1, a2⟩ := conB_ok (Z := Z) h1
    obtain ⟨vs, b1, b2⟩ := conBL_ok (Z := Z) h2
    exact ⟨v :: vs, .cons a1 b1, .cons a2 b2⟩
end
def gloB (K : PySem.W.Frag) (t : Str × P) : Bool := match PySem.W.nsIn K mainGlobals t.1 with
  | some (some u) => conB K u t.2
  | _ => false
theorem gloB_ok {K : PySem.W.Frag} {h : Heap} {mg : Str → Option Value} {t : Str × P} (X : K.In h) (G : h.Ns mainGlobals mg) (c : gloB K t = true) : ∃ u v, mg t.1 = some u ∧ RelV v u ∧ Rep K (fun _ => none) v t.2 := by
  unfold gloB at c
  cases e : PySem.W.nsIn K mainGlobals t.1 with
  | none =>
    rw [e] at c
    cases c
  | some o =>
    rw [e] at c
    cases o with
    | none => cases c
    | some u =>
      obtain ⟨v, h1, h2⟩ := conB_ok (Z := fun _ => none) c
      exact ⟨u, v, PySem.W.mg_of X G e, h1, h2⟩
abbrev AlP : Type := He.AlD × Bool
def obsP (fa : List He.Fa) (fn : List He.DefD) (tb : List (Str × P)) (K : PySem.W.Frag) : AlP := (He.obsD fa fn K, tb.all fun t => gloB K t)
def obsPG (n : Nat) (fa : List He.Fa) (fn : List He.DefD) (tb : List (Str × P)) (g : Addr → Option Obj) : AlP := obsP fa fn tb (He.frG g (He.asD g n))
structure SaysP (fa : List He.Fa) (fn : List He.DefD) (tb : List (Str × P)) (K : PySem.W.Frag) : Prop where
  eq : obsP fa fn tb K = (He.valD fn, true)
def hookP (n : Nat) (fa : List He.Fa) (fn : List He.DefD) (tb : List (Str × P)) : PySem.W.Hook where
  α := AlP
  obs := fun s => obsPG n fa fn tb s.heap.get?
  val := fun _ => (He.valD fn, true)
  says := fun _ h => ∃ K : PySem.W.Frag, K.In h ∧ SaysP fa fn tb K
  of := fun _ _ e => ⟨_, He.frG_in, ⟨e⟩⟩
  keeps := fun _ _ _ ⟨K, hK, c⟩ k => ⟨K, PySem.W.Frag.In.keeps hK k, c⟩
theorem obsPG_eq {n : Nat} {fa : List He.Fa} {fn : List He.DefD} {tb : List (Str × P)} {g : Addr → Option Obj} {s : Shared} (h : ∀ a, g a = s.heap.get? a) : obsPG n fa fn tb g = (hookP n fa fn tb).obs s := by
  have e : g = s.heap.get? := funext h
  rw [e] <;> rfl
section
variable {fa : List He.Fa} {fn : List He.DefD} {tb : List (Str × P)} {K : PySem.W.Frag}
theorem SaysP.d (c : SaysP fa fn tb K) : He.SaysD fa fn K := congrArg (fun z : AlP => z.1) c.eq
theorem SaysP.fact (c : SaysP fa fn tb K) (i : Nat) {f : He.Fa} (h : fa[i]? = some f := by rfl) : f.ok K = true := c.d.fact i h
theorem SaysP.def_ (c : SaysP fa fn tb K) (i : Nat) {d : He.DefD} (h : fn[i]? = some d := by rfl) : ∃ fd, L2.FunD K d.name d.qual d.params d.body d.scope (d.dvs K) (d.kws K) (He.fAd K d.at_) fd := c.d.def_ i h
theorem SaysP.gs {h : Heap} {mg : Str → Option Value} {T : Tab} (ht : T.gs = tb) (X : K.In h) (G : h.Ns mainGlobals mg) (c : SaysP fa fn tb K) : ∀ (i : Nat) (p : P), (T.gs[i]?).map (·.2) = some p → ∃ x u v, (T.gs[i]?).map (·.1) = some x ∧ mg x = some u ∧ RelV v u ∧ Rep K (fun _ => none) v p := by
  subst ht
  intro i p hp
  have c2 : (T.gs.all fun t => gloB K t) = true := congrArg (fun z : AlP => z.2) c.eq
  cases e : T.gs[i]? with
  | none => rw [e] at hp; cases hp
  | some t =>
    rw [e] at hp
    have hp : t.2 = p := Option.some.inj hp
    subst hp
    obtain ⟨u, v, h1, h2, h3⟩ := gloB_ok X G (List.all_eq_true.mp c2 t (List.mem_of_getElem? e))
    exact ⟨t.1, u, v, rfl, h1, h2, h3⟩
end
end Mn
end
section
set_option maxHeartbeats 200000
namespace Mn
open PySem
def plE : E → Bool
  | .pl _ => true
  | _ => false
/-- behind a lock -/
def unl (lk : Option (Nat × M)) (ρ : Env) : Env := match lk with
  | none => ρ
  | some (i, m) => ρ.set i (some m)
def WE (X : Cxt) (e : E) (ρ : Env) (Q : M → Env → Prop) : Prop := ∃ m ρ', ev X e ρ = some (m, ρ') ∧ Q m ρ'
def WO (X : Cxt) (e : E) (ρ : Env) (Q : R → Env → Prop) : Prop := ∃ r ρ', opE e (ev X e) ρ = some (r, ρ') ∧ Q r ρ'
def WP (X : Cxt) (es : EL) (ρ : Env) (Q : List P → Env → Prop) : Prop := ∃ ps ρ', evp X es ρ = some (ps, ρ') ∧ Q ps ρ'
def WL (X : Cxt) (es : EL) (ρ : Env) (Q : List R → Env → Prop) : Prop := ∃ rs ρ', evl X es ρ = some (rs, ρ') ∧ Q rs ρ'
def WB (X : Cxt) (e : E) (ρ : Env) (Q : Bool → Env → Prop) : Prop := WE X e ρ fun m ρ1 => ∃ b, m = .v (.bool b) ∧ Q b ρ1
def WI (X : Cxt) (it : It) (ρ : Env) (Q : List P → Env → Prop) : Prop := ∃ ps ρ', evit X it ρ = some (ps, ρ') ∧ Q ps ρ'
def WS (X : Cxt) (s : S) (ρ : Env) (N : Env → Prop) (Q : Fl → Env → Prop) : Prop := ∃ f ρ', evs X s ρ = some (f, ρ') ∧ match f with
  | .nx => N ρ'
  | f => Q f ρ'
def WSS (X : Cxt) (s : SL) (ρ : Env) (N : Env → Prop) (Q : Fl → Env → Prop) : Prop := ∃ f ρ', evss X s ρ = some (f, ρ') ∧ match f with
  | .nx => N ρ'
  | f => Q f ρ'
section
variable {X : Cxt} {ρ : Env} {Q : M → Env → Prop} {QR : R → Env → Prop} {QP : List P → Env → Prop} {QL : List R → Env → Prop} {QB : Bool → Env → Prop} {N : Env → Prop} {QF : Fl → Env → Prop}
theorem we_ki {i : Int} (h : Q (.v (.int i)) ρ) : WE X (.ki i) ρ Q := ⟨_, _, by simp only [ev], h⟩
theorem we_kb {i : Bool} (h : Q (.v (.bool i)) ρ) : WE X (.kb i) ρ Q := ⟨_, _, by simp only [ev], h⟩
theorem we_kn (h : Q (.v .none) ρ) : WE X .kn ρ Q := ⟨_, _, by simp only [ev], h⟩
theorem we_ks {s : Str} (h : Q (.v (.str s)) ρ) : WE X (.ks s) ρ Q := ⟨_, _, by simp only [ev], h⟩
theorem we_g {c : Nat} {p : P} (hc : X.gs c = some p) (h : Q (.v p) ρ) : WE X (.g c) ρ Q := ⟨_, _, by simp only [ev, hc], h⟩
theorem we_tk {i : Nat} {m : M} {ρ1 : Env} (e : take ρ i = some (m, ρ1)) (h : Q m ρ1) : WE X (.tk i) ρ Q := ⟨m, ρ1, by simp only [ev, e], h⟩
theorem we_mv {i : Nat} {m : M} (e1 : (pmAt X i || isLk (slot ρ i)) = false) (e : slot ρ i = some m) (h : Q m (ρ.set i none)) : WE X (.mv i) ρ Q := ⟨m, _, by
  simp only [ev]
  rw [Bool.or_eq_false_iff] at e1
  rw [if_neg (by rw [e1.1, e1.2]; simp), e], h⟩
theorem wo_pl {i : Nat} {m : M} (e : slot ρ i = some m) (h : QR (.pl i) ρ) : WO X (.pl i) ρ QR := ⟨_, _, by simp only [opE, e], h⟩
theorem opE_no {e : E} (he : plE e = false) (g : Env → Option (M × Env)) : opE e g ρ = match g ρ with
    | some (m, ρ) => some (.vl m, ρ)
    | none => none := by
  cases e <;> first | rfl | cases he
theorem wo_vl {e : E} (h : WE X e ρ fun m ρ1 => QR (.vl m) ρ1) (he : plE e = false := by rfl) : WO X e ρ QR := by
  obtain ⟨m, ρ1, e1, h⟩ := h
  exact ⟨_, _, by rw [opE_no he, e1], h⟩
theorem we_tup {es : EL} (h : WP X es ρ fun ps ρ1 => Q (.v (.tuple ps)) ρ1) : WE X (.tup es) ρ Q := by
  obtain ⟨ps, ρ1, e, h⟩ := h
  exact ⟨_, _, by simp only [ev, e], h⟩
theorem we_lst {es : EL} (h : WP X es ρ fun ps ρ1 => Q (.l ps) ρ1) : WE X (.lst es) ρ Q := by
  obtain ⟨ps, ρ1, e, h⟩ := h
  exact ⟨_, _, by simp only [ev, e], h⟩
theorem wp_nil (h : QP [] ρ) : WP X .nil ρ QP := ⟨_, _, by simp only [evp], h⟩
theorem wp_cons {e : E} {r : EL} (h : WE X e ρ fun m ρ1 => ∃ p, toP m = some p ∧ WP X r ρ1 fun ps ρ2 => QP (p :: ps) ρ2) : WP X (.cons e r) ρ QP := by
  obtain ⟨m, ρ1, e1, p, e2, ps, ρ2, e3, h⟩ := h
  exact ⟨_, _, by simp only [evp, e1, e2, e3], h⟩
theorem wl_nil (h : QL [] ρ) : WL X .nil ρ QL := ⟨_, _, by simp only [evl], h⟩
theorem wl_cons {e : E} {r : EL} (h : WO X e ρ fun m ρ1 => WL X r ρ1 fun ps ρ2 => QL (m :: ps) ρ2) : WL X (.cons e r) ρ QL := by
  obtain ⟨m, ρ1, e1, ps, ρ2, e3, h⟩ := h
  exact ⟨_, _, by simp only [evl, e1, e3], h⟩
theorem we_dnw0 (h : Q (.d []) ρ) : WE X (.dnw 0) ρ Q := ⟨_, _, by simp only [ev], h⟩
theorem we_dnw1 (h : Q (.t []) ρ) : WE X (.dnw 1) ρ Q := ⟨_, _, by simp only [ev], h⟩
theorem we_dnw2 (h : Q (.n []) ρ) : WE X (.dnw 2) ρ Q := ⟨_, _, by simp only [ev], h⟩
theorem we_bin {op : BOp} {a b : E} (h : WO X a ρ fun r1 ρ1 => WO X b ρ1 fun r2 ρ2 => ∃ m1 m2 m, rd ρ2 r1 = some m1 ∧ rd ρ2 r2 = some m2 ∧ binM op m1 m2 = some m ∧ Q m ρ2) : WE X (.bin op a b) ρ Q := by
  obtain ⟨r1, ρ1, e1, r2, ρ2, e2, m1, m2, m, e3, e4, e5, h⟩ := h
  exact ⟨_, _, by simp only [ev, e1, e2, e3, e4, e5], h⟩
theorem we_neg {a : E} (h : WE X a ρ fun m ρ1 => ∃ i, m = .v (.int i) ∧ Q (.v (.int (-i))) ρ1) : WE X (.neg a) ρ Q := by
  obtain ⟨m, ρ1, e1, i, rfl, h⟩ := h
  exact ⟨_, _, by simp only [ev, e1], h⟩
theorem we_cmp {op : COp} {a b : E} (h : WO X a ρ fun r1 ρ1 => WO X b ρ1 fun r2 ρ2 => ∃ m1 m2 m, rd ρ2 r1 = some m1 ∧ rd ρ2 r2 = some m2 ∧ cmpM op m1 m2 = some m ∧ Q m ρ2) : WE X (.cmp op a b) ρ Q := by
  obtain ⟨r1, ρ1, e1, r2, ρ2, e2, m1, m2, m, e3, e4, e5, h⟩ := h
  exact ⟨_, _, by simp only [ev, e1, e2, e3, e4, e5], h⟩
theorem we_ban {a b : E} (h : WB X a ρ fun c ρ1 => (c = true → WE X b ρ1 Q) ∧ (c = false → Q (.v (.bool false)) ρ1)) : WE X (.ban a b) ρ Q := by
  obtain ⟨m, ρ1, e1, c, rfl, h1, h2⟩ := h
  cases c with
  | true =>
    obtain ⟨m, ρ2, e2, h⟩ := h1 rfl
    exact ⟨_, _, by simp only [ev, e1, if_true, e2], h⟩
  | false => exact ⟨_, _, by simp only [ev, e1, Bool.false_eq_true, if_false], h2 rfl⟩
theorem we_bor {a b : E} (h : WB X a ρ fun c ρ1 => (c = true → Q (.v (.bool true)) ρ1) ∧ (c = false → WE X b ρ1 Q)) : WE X (.bor a b) ρ Q := by
  obtain ⟨m, ρ1, e1, c, rfl, h1, h2⟩ := h
  cases c with
  | false =>
    obtain ⟨m, ρ2, e2, h⟩ := h2 rfl
    exact ⟨_, _, by simp only [ev, e1, Bool.false_eq_true, if_false, e2], h⟩
  | true => exact ⟨_, _, by simp only [ev, e1, if_true], h1 rfl⟩
theorem we_nt {a : E} (h : WB X a ρ fun c ρ1 => Q (.v (.bool (!c))) ρ1) : WE X (.nt a) ρ Q := by
  obtain ⟨m, ρ1, e1, c, rfl, h⟩ := h
  exact ⟨_, _, by simp only [ev, e1], h⟩
theorem we_ifx {c a b : E} (h : WB X c ρ fun t ρ1 => (t = true → WE X a ρ1 Q) ∧ (t = false → WE X b ρ1 Q)) : WE X (.ifx c a b) ρ Q := by
  obtain ⟨m, ρ1, e1, c, rfl, h1, h2⟩ := h
  cases c with
  | false =>
    obtain ⟨m, ρ2, e2, h⟩ := h2 rfl
    exact ⟨_, _, by simp only [ev, e1, Bool.false_eq_true, if_false, e2], h⟩
  | true =>
    obtain ⟨m, ρ2, e2, h⟩ := h1 rfl
    exact ⟨_, _, by simp only [ev, e1, if_true, e2], h⟩
theorem we_sub {a k : E} (h : WO X a ρ fun r1 ρ1 => WE X k ρ1 fun m2 ρ2 => ∃ m1 m, rd ρ2 r1 = some m1 ∧ subM m1 m2 = some m ∧ Q m ρ2) : WE X (.sub a k) ρ Q := by
  obtain ⟨r1, ρ1, e1, m2, ρ2, e2, m1, m, e3, e4, h⟩ := h
  exact ⟨_, _, by simp only [ev, e1, e2, e3, e4], h⟩
def WPo (X : Cxt) (e : E) (ρ : Env) (Q : Option Int → Env → Prop) : Prop := if elNo e = true then Q none ρ else WE X e ρ fun m ρ1 => ∃ i, m = .v (.int i) ∧ Q (some i) ρ1
theorem we_slc {a lo hi : E} (h : WO X a ρ fun r1 ρ1 => WPo X lo ρ1 fun x ρ2 => WPo X hi ρ2 fun y ρ3 => ∃ m1 m, rd ρ3 r1 = some m1 ∧ slcM m1 x y = some m ∧ Q m ρ3) : WE X (.slc a lo hi) ρ Q := by
  obtain ⟨r1, ρ1, e1, h⟩ := h
  unfold WPo at h
  by_cases h1 : elNo lo = true
  · rw [if_pos h1] at h
    by_cases h2 : elNo hi = true
    · rw [if_pos h2] at h
      obtain ⟨m1, m, e3, e4, h⟩ := h
      exact ⟨_, _, by simp only [ev, e1, h1, h2, if_true, e3, e4], h⟩
    · rw [if_neg h2] at h
      obtain ⟨mm, ρ3, e2, i, rfl, m1, m, e3, e4, h⟩ := h
      exact ⟨_, _, by simp only [ev, e1, h1, h2, if_true, Bool.false_eq_true, if_false, e2, e3, e4], h⟩
  · rw [if_neg h1] at h
    obtain ⟨mm, ρ2, e2, i, rfl, h⟩ := h
    by_cases h2 : elNo hi = true
    · rw [if_pos h2] at h
      obtain ⟨m1, m, e3, e4, h⟩ := h
      exact ⟨_, _, by simp only [ev, e1, h1, h2, if_true, Bool.false_eq_true, if_false, e2, e3, e4], h⟩
    · rw [if_neg h2] at h
      obtain ⟨mm, ρ3, e5, j, rfl, m1, m, e3, e4, h⟩ := h
      exact ⟨_, _, by simp only [ev, e1, h1, h2, if_true, Bool.false_eq_true, if_false, e2, e5, e3, e4], h⟩
theorem wpo_no {Q : Option Int → Env → Prop} (h : Q none ρ) : WPo X .no ρ Q := by have h0 : elNo .no = true := rfl; unfold WPo; simp only [h0, if_true]; exact h
theorem wpo_e {e : E} {Q : Option Int → Env → Prop} (h : WE X e ρ fun m ρ1 => ∃ i, m = .v (.int i) ∧ Q (some i) ρ1) (he : elNo e = false := by rfl) : WPo X e ρ Q := by unfold WPo; rw [if_neg (by rw [he]; exact Bool.false_ne_true)]; exact h
theorem we_rev {a : E} (h : WO X a ρ fun r1 ρ1 => ∃ m1 ps, rd ρ1 r1 = some m1 ∧ listOf m1 = some ps ∧ Q (.l ps.reverse) ρ1) : WE X (.rev a) ρ Q := by
  obtain ⟨r1, ρ1, e1, m1, ps, e3, e4, h⟩ := h
  exact ⟨_, _, by simp only [ev, e1, e3, revM, e4, Option.map], h⟩
theorem we_call {f : Nat} {es : EL} (h : WL X es ρ fun rs ρ1 => ∃ ms ρ2, pull rs ρ1 = some (ms, ρ2) ∧ ∃ m ms1, X.C f ms = some (m, ms1) ∧ Q m (putBack rs ms1 ρ2)) : WE X (.call f es) ρ Q := by
  obtain ⟨rs, ρ1, e1, ms, ρ2, e2, m, ms1, e3, h⟩ := h
  exact ⟨_, _, by simp only [ev, e1, e2, e3], h⟩
theorem we_bi {b : BI} {es : EL} (h : WL X es ρ fun rs ρ1 => ∃ ms m, rds ρ1 rs = some ms ∧ biM b ms = some m ∧ Q m ρ1) : WE X (.bi b es) ρ Q := by
  obtain ⟨rs, ρ1, e1, ms, m, e2, e3, h⟩ := h
  exact ⟨_, _, by simp only [ev, e1, e2, e3], h⟩
theorem we_mt {m : MT} {a : E} {es : EL} (h : WO X a ρ fun r1 ρ1 => mtBase m (rd ρ1 r1) = true ∧ WL X es ρ1 fun rs ρ2 => ∃ m1 ms x, rd ρ2 r1 = some m1 ∧ rds ρ2 rs = some ms ∧ mtM m m1 ms = some x ∧ Q x ρ2) : WE X (.mt m a es) ρ Q := by
  obtain ⟨r1, ρ1, e1, hb, rs, ρ2, e2, m1, ms, x, e3, e4, e5, h⟩ := h
  exact ⟨_, _, by simp only [ev, e1, hb, if_true, e2, e3, e4, e5], h⟩
theorem we_getf {i j : Nat} {f : Str} {m : M} {p : P} {kvs : List (Key × P)} {k : Key} (e1 : slot ρ i = some m) (e2 : slot ρ j = some (.v p)) (e3 : field m f = some (.d kvs)) (e4 : keyOf p = some k) (h : Q (.v ((getA kvs k).getD .none)) ρ) : WE X (.getf i f j) ρ Q :=
  ⟨_, _, by simp only [ev, e1, e2, e3, e4], h⟩
theorem wss_nil (h : N ρ) : WSS X .nil ρ N QF := ⟨.nx, ρ, by simp only [evss], h⟩
theorem wss_cons {s : S} {r : SL} (h : WS X s ρ (fun ρ1 => WSS X r ρ1 N QF) QF) : WSS X (.cons s r) ρ N QF := by
  obtain ⟨f, ρ1, e, h⟩ := h
  cases f with
  | nx =>
    obtain ⟨f, ρ2, e2, h⟩ := h
    exact ⟨f, ρ2, by simp only [evss, e, e2], h⟩
  | ct => exact ⟨.ct, ρ1, by simp only [evss, e], h⟩
  | bk => exact ⟨.bk, ρ1, by simp only [evss, e], h⟩
  | rt m => exact ⟨.rt m, ρ1, by simp only [evss, e], h⟩
theorem ws_asg {i : Nat} {e : E} (h : WE X e ρ fun m ρ1 => ∃ ρ2, sto X i m ρ1 = some ρ2 ∧ N ρ2) : WS X (.asg (.nm i) e) ρ N QF := by
  obtain ⟨m, ρ1, e1, ρ2, e2, h⟩ := h
  exact ⟨.nx, ρ2, by simp only [evs, e1, e2, Option.map], h⟩
theorem ws_asgT {ts : List Tg} {e : E} (h : WE X e ρ fun m ρ1 => ∃ p ρ2, m = .v p ∧ bindT X (.tp ts) p ρ1 = some ρ2 ∧ N ρ2) : WS X (.asg (.tp ts) e) ρ N QF := by
  obtain ⟨m, ρ1, e1, p, ρ2, rfl, e2, h⟩ := h
  exact ⟨.nx, ρ2, by simp only [evs, e1, e2, Option.map], h⟩
theorem ws_par {i j : Nat} {a b : E} (h : WE X a ρ fun m1 ρ1 => WE X b ρ1 fun m2 ρ2 => ∃ ρ3 ρ4, sto X i m1 ρ2 = some ρ3 ∧ sto X j m2 ρ3 = some ρ4 ∧ N ρ4) : WS X (.par i j a b) ρ N QF := by
  obtain ⟨m1, ρ1, e1, m2, ρ2, e2, ρ3, ρ4, e3, e4, h⟩ := h
  exact ⟨.nx, ρ4, by simp only [evs, e1, e2, e3, e4], h⟩
theorem ws_sto {i : Nat} {k e : E} (h0 : (slot ρ i).isSome = true) (h : WE X e ρ fun m ρ1 => ∃ x, toP m = some x ∧ WE X k ρ1 fun m2 ρ2 => ∃ p c c2, m2 = .v p ∧ slot ρ2 i = some c ∧ putM c p x = some c2 ∧ N (ρ2.set i (some c2))) : WS X (.sto i k e) ρ N QF := by
  obtain ⟨m, ρ1, e1, x, e2, m2, ρ2, e3, p, c, c2, rfl, e4, e5, h⟩ := h
  exact ⟨.nx, _, by simp only [evs, h0, Bool.true_eq_false, if_false, e1, e2, e3, e4, e5], h⟩
theorem ws_stt {i : Nat} {ks : EL} {e : E} (h0 : (slot ρ i).isSome = true) (h : WE X e ρ fun m ρ1 => ∃ x, toP m = some x ∧ WP X ks ρ1 fun ps ρ2 => ∃ kvs k, slot ρ2 i = some (.t kvs) ∧ keysAll ps = some k ∧ kvs.length < LIM ∧ N (ρ2.set i (some (.t (putA kvs k x))))) : WS X (.stt i ks e) ρ N QF := by
  obtain ⟨m, ρ1, e1, x, e2, ps, ρ2, e3, kvs, k, e4, e5, e6, h⟩ := h
  exact ⟨.nx, _, by simp only [evs, h0, Bool.true_eq_false, if_false, e1, e2, e3, e4, e5, e6, if_true], h⟩
theorem ws_app {i : Nat} {e : E} (h0 : isL (slot ρ i) = true) (h : WE X e ρ fun m ρ1 => ∃ p ps, toP m = some p ∧ slot ρ1 i = some (.l ps) ∧ ps.length < LIM ∧ N (ρ1.set i (some (.l (ps ++ [p]))))) : WS X (.app i e) ρ N QF := by
  obtain ⟨m, ρ1, e1, p, ps, e2, e3, e4, h⟩ := h
  exact ⟨.nx, _, by simp only [evs, h0, Bool.true_eq_false, if_false, e1, e2, e3, e4, if_true], h⟩
theorem ws_ext {i : Nat} {e : E} (h0 : isL (slot ρ i) = true) (h : WE X e ρ fun m ρ1 => ∃ qs ps, toP m = some (.list qs) ∧ slot ρ1 i = some (.l ps) ∧ ps.length + qs.length ≤ LIM ∧ N (ρ1.set i (some (.l (ps ++ qs))))) : WS X (.ext i e) ρ N QF := by
  obtain ⟨m, ρ1, e1, qs, ps, e2, e3, e4, h⟩ := h
  exact ⟨.nx, _, by simp only [evs, h0, Bool.true_eq_false, if_false, e1, e2, e3, e4, if_true], h⟩
theorem ws_expr {e : E} (h : WE X e ρ fun _ ρ1 => N ρ1) : WS X (.expr e) ρ N QF := by
  obtain ⟨m, ρ1, e1, h⟩ := h
  exact ⟨.nx, _, by simp only [evs, e1], h⟩
theorem ws_ifs {c : E} {a b : SL} (h : WB X c ρ fun t ρ1 => (t = true → WSS X a ρ1 N QF) ∧ (t = false → WSS X b ρ1 N QF)) : WS X (.ifs c a b) ρ N QF := by
  obtain ⟨m, ρ1, e1, t, rfl, h1, h2⟩ := h
  cases t with
  | true =>
    obtain ⟨f, ρ2, e2, h⟩ := h1 rfl
    exact ⟨f, ρ2, by simp only [evs, e1, ofB, if_true, e2], h⟩
  | false =>
    obtain ⟨f, ρ2, e2, h⟩ := h2 rfl
    exact ⟨f, ρ2, by simp only [evs, e1, ofB, Bool.false_eq_true, if_false, e2], h⟩
theorem ws_ret {e : E} (h : WE X e ρ fun m ρ1 => QF (.rt m) ρ1) : WS X (.ret e) ρ N QF := by
  obtain ⟨m, ρ1, e1, h⟩ := h
  exact ⟨.rt m, ρ1, by simp only [evs, e1], h⟩
theorem ws_ret0 (h : QF (.rt (.v .none)) ρ) : WS X .ret0 ρ N QF := ⟨.rt (.v .none), ρ, by simp only [evs], h⟩
theorem ws_cont (h : QF .ct ρ) : WS X .cont ρ N QF := ⟨.ct, ρ, by simp only [evs], h⟩
theorem ws_brk (h : QF .bk ρ) : WS X .brk ρ N QF := ⟨.bk, ρ, by simp only [evs], h⟩
theorem ws_pass (h : N ρ) : WS X .pass ρ N QF := ⟨.nx, ρ, by simp only [evs], h⟩
/-- a loop: I by the items that are done -/
theorem forL_inv {bd : P → Env → Option Env} {body : Env → Option (Fl × Env)} (I : Nat → Env → Prop) : ∀ (ps : List P) (i : Nat) (ρ : Env), I i ρ →
    (∀ (j : Nat) p ρ, ps[j]? = some p → I (i + j) ρ → ∃ ρ1, bd p ρ = some ρ1 ∧ ∃ f ρ2, body ρ1 = some (f, ρ2) ∧ match f with
      | .nx => I (i + j + 1) ρ2
      | .ct => I (i + j + 1) ρ2
      | .bk => N ρ2
      | .rt m => QF (.rt m) ρ2) → (∀ ρ, I (i + ps.length) ρ → N ρ) →
    ∃ f ρ', forL bd body ps ρ = some (f, ρ') ∧ match f with
      | .nx => N ρ'
      | f => QF f ρ'
  | [], i, ρ, h, _, hn => ⟨.nx, ρ, rfl, hn ρ (by simpa using h)⟩
  | p :: ps, i, ρ, h, hs, hn => by
    obtain ⟨ρ1, e1, f, ρ2, e2, h2⟩ := hs 0 p ρ rfl h
    have next : I (i + 1) ρ2 → ∃ f ρ', forL bd body ps ρ2 = some (f, ρ') ∧ match f with
      | .nx => N ρ'
      | f => QF f ρ' := fun h3 => forL_inv I ps (i + 1) ρ2 h3 (fun j p ρ e hI => by
        have e3 : i + 1 + j = i + (j + 1) := by omega
        rw [e3] at hI
        obtain ⟨ρ3, k1, f3, ρ4, k2, k3⟩ := hs (j + 1) p ρ (by simpa using e) hI
        rw [e3]
        exact ⟨ρ3, k1, f3, ρ4, k2, k3⟩) (fun ρ hI => hn ρ (by
          have e3 : i + 1 + ps.length = i + (ps.length + 1) := by omega
          rw [e3] at hI
          exact hI))
    cases f with
    | nx =>
      obtain ⟨f, ρ', e3, h3⟩ := next h2
      exact ⟨f, ρ', by simp only [forL, e1, e2, e3], h3⟩
    | ct =>
      obtain ⟨f, ρ', e3, h3⟩ := next h2
      exact ⟨f, ρ', by simp only [forL, e1, e2, e3], h3⟩
    | bk => exact ⟨.nx, ρ2, by simp only [forL, e1, e2], h2⟩
    | rt m => exact ⟨.rt m, ρ2, by simp only [forL, e1, e2], h2⟩
theorem ws_fr {tg : Tg} {it : It} {b : SL} {lk : Option (Nat × M)} {ρ0 : Env} (I : Nat → Env → Prop) (hl : lockE it ρ = some (lk, ρ0)) (h : WI X it ρ0 fun ps ρ1 => I 0 ρ1 ∧
    (∀ (j : Nat) p ρ2, ps[j]? = some p → I j ρ2 → ∃ ρ3, bindT X tg p ρ2 = some ρ3 ∧ WSS X b ρ3 (I (j + 1)) fun f ρ4 => match f with
      | .nx => False
      | .ct => I (j + 1) ρ4
      | .bk => N (unl lk ρ4)
      | .rt m => QF (.rt m) (unl lk ρ4)) ∧
    (∀ ρ2, I ps.length ρ2 → N (unl lk ρ2))) : WS X (.fr tg it b) ρ N QF := by
  obtain ⟨ps, ρ1, e1, h0, hs, hn⟩ := h
  obtain ⟨f, ρ2, e2, h2⟩ := forL_inv (bd := bindT X tg) (body := evss X b) (N := fun ρ => N (unl lk ρ)) (QF := fun f ρ => QF f (unl lk ρ)) I ps 0 ρ1 h0 (fun j p ρ e hI => by
    rw [Nat.zero_add] at hI ⊢
    obtain ⟨ρ3, k1, f3, ρ4, k2, k3⟩ := hs j p ρ e hI
    refine ⟨ρ3, k1, f3, ρ4, k2, ?_⟩
    cases f3 with
    | nx => exact k3
    | ct => exact k3
    | bk => exact k3
    | rt m => exact k3) (fun ρ hI => hn ρ (by rw [Nat.zero_add] at hI; exact hI))
  cases lk with
  | none => exact ⟨f, ρ2, by simp only [evs, hl, e1, e2], h2⟩
  | some im =>
    obtain ⟨i, m⟩ := im
    exact ⟨f, _, by simp only [evs, hl, e1, e2]; rfl, h2⟩
/-- a while with a measure -/
theorem whL_inv {c : Env → Option (Bool × Env)} {body : Env → Option (Fl × Env)} (I : Nat → Env → Prop)
    (hs : ∀ n ρ, I n ρ → ∃ b ρ1, c ρ = some (b, ρ1) ∧ (b = false → N ρ1) ∧ (b = true → ∃ f ρ2, body ρ1 = some (f, ρ2) ∧ match f with
      | .nx => ∃ k, k < n ∧ I k ρ2
      | .ct => ∃ k, k < n ∧ I k ρ2
      | .bk => N ρ2
      | .rt m => QF (.rt m) ρ2)) : ∀ (n fuel : Nat) (ρ : Env), n < fuel → I n ρ →
    ∃ f ρ', whL c body fuel ρ = some (f, ρ') ∧ match f with
      | .nx => N ρ'
      | f => QF f ρ' := by
  intro n
  induction n using Nat.strongRecOn with
  | _ n ih =>
    intro fuel ρ hf h
    obtain ⟨b, ρ1, e1, h1, h2⟩ := hs n ρ h
    cases fuel with
    | zero => omega
    | succ fuel =>
      cases b with
      | false => exact ⟨.nx, ρ1, by simp only [whL, e1], h1 rfl⟩
      | true =>
        obtain ⟨f, ρ2, e2, h3⟩ := h2 rfl
        cases f with
        | nx =>
          obtain ⟨k, hk, hI⟩ := h3
          obtain ⟨f, ρ', e3, h4⟩ := ih k hk fuel ρ2 (by omega) hI
          exact ⟨f, ρ', by simp only [whL, e1, e2, e3], h4⟩
        | ct =>
          obtain ⟨k, hk, hI⟩ := h3
          obtain ⟨f, ρ', e3, h4⟩ := ih k hk fuel ρ2 (by omega) hI
          exact ⟨f, ρ', by simp only [whL, e1, e2, e3], h4⟩
        | bk => exact ⟨.nx, ρ2, by simp only [whL, e1, e2], h3⟩
        | rt m => exact ⟨.rt m, ρ2, by simp only [whL, e1, e2], h3⟩
theorem ws_wh {c : E} {b : SL} (I : Nat → Env → Prop) (n : Nat) (hn : n < 2 ^ 40) (h0 : I n ρ) (hs : ∀ n ρ, I n ρ → WB X c ρ fun t ρ1 => (t = false → N ρ1) ∧ (t = true → WSS X b ρ1 (fun ρ2 => ∃ k, k < n ∧ I k ρ2) fun f ρ2 => match f with
      | .nx => False
      | .ct => ∃ k, k < n ∧ I k ρ2
      | .bk => N ρ2
      | .rt m => QF (.rt m) ρ2)) : WS X (.wh c b) ρ N QF := by
  obtain ⟨f, ρ', e, h⟩ := whL_inv (c := fun ρ => ofB (ev X c ρ)) (body := evss X b) (N := N) (QF := QF) I (fun n ρ hI => by
    obtain ⟨m, ρ1, e1, t, rfl, h1, h2⟩ := hs n ρ hI
    refine ⟨t, ρ1, by simp only [e1, ofB], h1, fun ht => ?_⟩
    obtain ⟨f, ρ2, e2, h3⟩ := h2 ht
    refine ⟨f, ρ2, e2, ?_⟩
    cases f with
    | nx => exact h3
    | ct => exact h3
    | bk => exact h3
    | rt m => exact h3) n WF ρ hn h0
  exact ⟨f, ρ', by simp only [evs, e], h⟩
theorem wi_of {e : E} {QP : List P → Env → Prop} (h : WE X e ρ fun m ρ1 => ∃ ps, itemsM m = some ps ∧ QP ps ρ1) : WI X (.of e) ρ QP := by
  obtain ⟨m, ρ1, e1, ps, e2, h⟩ := h
  exact ⟨_, _, by simp only [evit, e1, e2], h⟩
theorem wi_lkv {i : Nat} {p : P} {ps : List P} {QP : List P → Env → Prop} (e1 : slot ρ i = some (.v p)) (e2 : itemsP p = some ps) (h : QP ps ρ) : WI X (.lk i) ρ QP := ⟨_, _, by simp only [evit, e1, e2], h⟩
theorem wi_lkk {i : Nat} {m : M} {ps : List P} {QP : List P → Env → Prop} (e1 : slot ρ i = some (.k m)) (e2 : lkItems m = some ps) (h : QP ps ρ) : WI X (.lk i) ρ QP := ⟨_, _, by simp only [evit, e1, e2], h⟩
theorem wi_vals {i : Nat} {m : M} {ps : List P} {QP : List P → Env → Prop} (e1 : slot ρ i = some (.k m)) (e2 : valItems m = some ps) (h : QP ps ρ) : WI X (.vals i) ρ QP := ⟨_, _, by simp only [evit, e1, e2], h⟩
theorem wi_rg {es : EL} {QP : List P → Env → Prop} (h : WL X es ρ fun rs ρ1 => ∃ ms ps, rds ρ1 rs = some ms ∧ rgItems ms = some ps ∧ QP ps ρ1) : WI X (.rg es) ρ QP := by
  obtain ⟨rs, ρ1, e1, ms, ps, e2, e3, h⟩ := h
  exact ⟨_, _, by simp only [evit, e1, e2, e3], h⟩
theorem wi_en {e : E} {QP : List P → Env → Prop} (h : WE X e ρ fun m ρ1 => ∃ ps, toP m = some (.list ps) ∧ QP (enumP ps) ρ1) : WI X (.en e) ρ QP := by
  obtain ⟨m, ρ1, e1, ps, e2, h⟩ := h
  exact ⟨_, _, by simp only [evit, e1, e2], h⟩
theorem wi_zp {a b : E} {QP : List P → Env → Prop} (h : WE X a ρ fun m1 ρ1 => WE X b ρ1 fun m2 ρ2 => ∃ ps, zipM m1 m2 = some ps ∧ QP ps ρ2) : WI X (.zp a b) ρ QP := by
  obtain ⟨m1, ρ1, e1, m2, ρ2, e2, ps, e3, h⟩ := h
  exact ⟨_, _, by simp only [evit, e1, e2, e3], h⟩
def WT (X : Cxt) (ts : EL) (ρ : Env) (Q : Bool → Env → Prop) : Prop := ∃ b ρ', evt X ts ρ = some (b, ρ') ∧ Q b ρ'
theorem wt_nil {Q : Bool → Env → Prop} (h : Q true ρ) : WT X .nil ρ Q := ⟨_, _, by simp only [evt], h⟩
theorem wt_one {e : E} {Q : Bool → Env → Prop} (h : WB X e ρ Q) : WT X (.cons e .nil) ρ Q := by
  obtain ⟨m, ρ1, e1, b, rfl, h⟩ := h
  exact ⟨_, _, by simp only [evt, e1], h⟩
theorem compL_inv {bd : P → Env → Option Env} {tst : Env → Option (Bool × Env)} {elt : Env → Option (P × Env)} {own : List Nat} (I : Nat → Env → List P → Prop) : ∀ (ps : List P) (i : Nat) (ρ : Env) (acc : List P), I i ρ acc →
    (∀ (j : Nat) p ρ acc, ps[j]? = some p → I (i + j) ρ acc → ∃ ρ1, bd p (wipeE ρ own) = some ρ1 ∧ ∃ t ρ2, tst ρ1 = some (t, ρ2) ∧ (t = false → I (i + j + 1) ρ2 acc) ∧ (t = true → ∃ q ρ3, elt ρ2 = some (q, ρ3) ∧ acc.length < LIM ∧ I (i + j + 1) ρ3 (acc ++ [q]))) →
    ∃ qs ρ', compL bd tst elt own ps ρ acc = some (qs, ρ') ∧ I (i + ps.length) ρ' qs
  | [], i, ρ, acc, h, _ => ⟨acc, ρ, rfl, by simpa using h⟩
  | p :: ps, i, ρ, acc, h, hs => by
    obtain ⟨ρ1, e1, t, ρ2, e2, h1, h2⟩ := hs 0 p ρ acc rfl h
    have hs' : ∀ (j : Nat) p ρ acc, ps[j]? = some p → I (i + 1 + j) ρ acc → ∃ ρ1, bd p (wipeE ρ own) = some ρ1 ∧ ∃ t ρ2, tst ρ1 = some (t, ρ2) ∧ (t = false → I (i + 1 + j + 1) ρ2 acc) ∧ (t = true → ∃ q ρ3, elt ρ2 = some (q, ρ3) ∧ acc.length < LIM ∧ I (i + 1 + j + 1) ρ3 (acc ++ [q])) := fun j p ρ acc e hI => by
      have e3 : i + 1 + j = i + (j + 1) := by omega
      rw [e3] at hI ⊢
      exact hs (j + 1) p ρ acc (by simpa using e) hI
    have e3 : i + 1 + ps.length = i + (p :: ps).length := by rw [List.length_cons]; omega
    cases t with
    | false =>
      obtain ⟨qs, ρ', e4, h4⟩ := compL_inv I ps (i + 1) ρ2 acc (h1 rfl) hs'
      rw [e3] at h4
      exact ⟨qs, ρ', by simp only [compL, e1, e2, e4], h4⟩
    | true =>
      obtain ⟨q, ρ3, e5, hl, h5⟩ := h2 rfl
      obtain ⟨qs, ρ', e4, h4⟩ := compL_inv I ps (i + 1) ρ3 (acc ++ [q]) h5 hs'
      rw [e3] at h4
      exact ⟨qs, ρ', by simp only [compL, e1, e2, e5, hl, if_true, e4], h4⟩
theorem we_comp {own : List Nat} {tg : Tg} {it : It} {ts : EL} {e : E} {lk : Option (Nat × M)} {ρ0 : Env} (I : Nat → Env → List P → Prop) (hl : lockE it ρ = some (lk, ρ0)) (h : WI X it ρ0 fun ps ρ1 => ownOk X ρ1 own = true ∧ I 0 ρ1 [] ∧
    (∀ (j : Nat) p ρ2 acc, ps[j]? = some p → I j ρ2 acc → ∃ ρ3, bindT X tg p (wipeE ρ2 own) = some ρ3 ∧ WT X ts ρ3 fun t ρ4 => (t = false → I (j + 1) ρ4 acc) ∧ (t = true → WE X e ρ4 fun m ρ5 => ∃ q, toP m = some q ∧ acc.length < LIM ∧ I (j + 1) ρ5 (acc ++ [q]))) ∧
    ∀ ρ2 qs, I ps.length ρ2 qs → Q (.l qs) (unl lk (backE ρ1 ρ2 own))) : WE X (.comp own tg it ts e) ρ Q := by
  obtain ⟨ps, ρ1, e1, ok, h0, hs, hn⟩ := h
  obtain ⟨qs, ρ2, e2, h2⟩ := compL_inv (bd := bindT X tg) (tst := evt X ts) (elt := toPg (ev X e)) (own := own) I ps 0 ρ1 [] h0 (fun j p ρ acc e hI => by
    rw [Nat.zero_add] at hI ⊢
    obtain ⟨ρ3, k1, t, ρ4, k2, k3, k4⟩ := hs j p ρ acc e hI
    refine ⟨ρ3, k1, t, ρ4, k2, k3, fun ht => ?_⟩
    obtain ⟨m, ρ5, k5, q, k6, k7, k8⟩ := k4 ht
    exact ⟨q, ρ5, by simp only [toPg, k5, k6], k7, k8⟩)
  rw [Nat.zero_add] at h2
  have h3 := hn ρ2 qs h2
  cases lk with
  | none => exact ⟨.l qs, _, by simp only [ev, hl, e1, ok, Bool.true_eq_false, if_false, e2]; rfl, h3⟩
  | some im =>
    obtain ⟨i, m⟩ := im
    exact ⟨.l qs, _, by simp only [ev, hl, e1, ok, Bool.true_eq_false, if_false, e2]; rfl, h3⟩
end
/-- a def -/
theorem run_of {T : Tab} {C : Nat → List M → Option (M × List M)} {F : Fn} {ms : List M} {Pq : M → List M → Prop} (hl : ms.length = F.np) (h : WSS (cxt T C ms) F.body (ms.map some ++ List.replicate (F.N.length - ms.length) none) (fun ρ => Pq (.v .none) (outs ms ρ)) fun f ρ => match f with
    | .rt m => Pq m (outs ms ρ)
    | _ => False) : ∃ m ms1, runF T C F ms = some (m, ms1) ∧ Pq m ms1 := by
  obtain ⟨f, ρ, e, h⟩ := h
  cases f with
  | nx => exact ⟨_, _, by unfold runF; rw [if_pos hl, e]; rfl, h⟩
  | rt m => exact ⟨_, _, by unfold runF; rw [if_pos hl, e]; rfl, h⟩
  | ct => exact h.elim
  | bk => exact h.elim
end Mn
end
section
set_option maxHeartbeats 200000
open PySem
namespace Mn
section
variable {r1 r2 : R} {ρ : Env} {m1 m2 m : M} {Q : M → Prop}
theorem wb_of {X : Cxt} {e : E} {QB : Bool → Env → Prop} (h : WE X e ρ fun m ρ1 => ∃ b, m = .v (.bool b) ∧ QB b ρ1) : WB X e ρ QB := h
theorem lf_bin {op : BOp} (e1 : rd ρ r1 = some m1) (e2 : rd ρ r2 = some m2) (e3 : binM op m1 m2 = some m) (h : Q m) : ∃ m1 m2 m, rd ρ r1 = some m1 ∧ rd ρ r2 = some m2 ∧ binM op m1 m2 = some m ∧ Q m := ⟨m1, m2, m, e1, e2, e3, h⟩
theorem lf_cmp {op : COp} (e1 : rd ρ r1 = some m1) (e2 : rd ρ r2 = some m2) (e3 : cmpM op m1 m2 = some m) (h : Q m) : ∃ m1 m2 m, rd ρ r1 = some m1 ∧ rd ρ r2 = some m2 ∧ cmpM op m1 m2 = some m ∧ Q m := ⟨m1, m2, m, e1, e2, e3, h⟩
theorem lf_sub (e1 : rd ρ r1 = some m1) (e3 : subM m1 m2 = some m) (h : Q m) : ∃ m1 m, rd ρ r1 = some m1 ∧ subM m1 m2 = some m ∧ Q m := ⟨m1, m, e1, e3, h⟩
theorem lf_slc {x y : Option Int} (e1 : rd ρ r1 = some m1) (e3 : slcM m1 x y = some m) (h : Q m) : ∃ m1 m, rd ρ r1 = some m1 ∧ slcM m1 x y = some m ∧ Q m := ⟨m1, m, e1, e3, h⟩
theorem lf_ex1 {α β : Type} {f g : α → β} {N : α → Prop} {a : α} (e : f a = g a) (h : N a) : ∃ a, f a = g a ∧ N a := ⟨a, e, h⟩
theorem lf_sto {i : Nat} {p x : P} {c c2 : M} (e1 : m2 = .v p) (e2 : slot ρ i = some c) (e3 : putM c p x = some c2) (h : Q c2) : ∃ p c c2, m2 = .v p ∧ slot ρ i = some c ∧ putM c p x = some c2 ∧ Q c2 := ⟨p, c, c2, e1, e2, e3, h⟩
theorem lf_pull {rs : List R} {ms : List M} {ρ2 : Env} {N : List M → Env → Prop} (e : pull rs ρ = some (ms, ρ2)) (h : N ms ρ2) : ∃ ms ρ2, pull rs ρ = some (ms, ρ2) ∧ N ms ρ2 := ⟨ms, ρ2, e, h⟩
theorem lf_bi {rs : List R} {b : BI} {ms : List M} (e1 : rds ρ rs = some ms) (e3 : biM b ms = some m) (h : Q m) : ∃ ms m, rds ρ rs = some ms ∧ biM b ms = some m ∧ Q m := ⟨ms, m, e1, e3, h⟩
theorem lf_app {i : Nat} {p : P} {ps : List P} {N : P → List P → Prop} (e1 : toP m = some p) (e2 : slot ρ i = some (.l ps)) (e3 : ps.length < LIM) (h : N p ps) : ∃ p ps, toP m = some p ∧ slot ρ i = some (.l ps) ∧ ps.length < LIM ∧ N p ps := ⟨p, ps, e1, e2, e3, h⟩
theorem wo_g {X : Cxt} {e : E} {QR : R → Env → Prop} (h : WO X e ρ QR) : WO X e ρ QR := h
theorem wpo_g {X : Cxt} {e : E} {Q : Option Int → Env → Prop} (h : WPo X e ρ Q) : WPo X e ρ Q := h
theorem ws_g {X : Cxt} {e : S} {N : Env → Prop} {Q : Fl → Env → Prop} (h : WS X e ρ N Q) : WS X e ρ N Q := h
theorem we_g1 {X : Cxt} {e : E} {Q : M → Env → Prop} (h : WE X e ρ Q) : WE X e ρ Q := h
theorem lf_bin_g {op : BOp} (h : ∃ m1 m2 m, rd ρ r1 = some m1 ∧ rd ρ r2 = some m2 ∧ binM op m1 m2 = some m ∧ Q m) : ∃ m1 m2 m, rd ρ r1 = some m1 ∧ rd ρ r2 = some m2 ∧ binM op m1 m2 = some m ∧ Q m := h
theorem lf_cmp_g {op : COp} (h : ∃ m1 m2 m, rd ρ r1 = some m1 ∧ rd ρ r2 = some m2 ∧ cmpM op m1 m2 = some m ∧ Q m) : ∃ m1 m2 m, rd ρ r1 = some m1 ∧ rd ρ r2 = some m2 ∧ cmpM op m1 m2 = some m ∧ Q m := h
theorem lf_sub_g (h : ∃ m1 m, rd ρ r1 = some m1 ∧ subM m1 m2 = some m ∧ Q m) : ∃ m1 m, rd ρ r1 = some m1 ∧ subM m1 m2 = some m ∧ Q m := h
theorem lf_slc_g {x y : Option Int} (h : ∃ m1 m, rd ρ r1 = some m1 ∧ slcM m1 x y = some m ∧ Q m) : ∃ m1 m, rd ρ r1 = some m1 ∧ slcM m1 x y = some m ∧ Q m := h
theorem lf_ex1_g {α β : Type} {f g : α → β} {N : α → Prop} (h : ∃ a, f a = g a ∧ N a) : ∃ a, f a = g a ∧ N a := h
theorem lf_sto_g {i : Nat} {x : P} {Q : P → M → M → Prop} (h : ∃ p c c2, m2 = .v p ∧ slot ρ i = some c ∧ putM c p x = some c2 ∧ Q p c c2) : ∃ p c c2, m2 = .v p ∧ slot ρ i = some c ∧ putM c p x = some c2 ∧ Q p c c2 := h
theorem lf_pull_g {rs : List R} {N : List M → Env → Prop} (h : ∃ ms ρ2, pull rs ρ = some (ms, ρ2) ∧ N ms ρ2) : ∃ ms ρ2, pull rs ρ = some (ms, ρ2) ∧ N ms ρ2 := h
theorem lf_bi_g {rs : List R} {b : BI} (h : ∃ ms m, rds ρ rs = some ms ∧ biM b ms = some m ∧ Q m) : ∃ ms m, rds ρ rs = some ms ∧ biM b ms = some m ∧ Q m := h
theorem wo_vl1 {X : Cxt} {e : E} {QR : R → Env → Prop} (he : plE e = false) (h : WE X e ρ fun m ρ1 => QR (.vl m) ρ1) : WO X e ρ QR := wo_vl h he
theorem wpo_e1 {X : Cxt} {e : E} {Q : Option Int → Env → Prop} (he : elNo e = false) (h : WE X e ρ fun m ρ1 => ∃ i, m = .v (.int i) ∧ Q (some i) ρ1) : WPo X e ρ Q := wpo_e h he
end
theorem ws_cut {X : Cxt} {s : S} {ρ : Env} {N : Env → Prop} {QF : Fl → Env → Prop} (I : Env → Prop) (h : WS X s ρ I QF) (k : ∀ ρ1, I ρ1 → N ρ1) : WS X s ρ N QF := by
  obtain ⟨f, ρ1, e, h⟩ := h
  refine ⟨f, ρ1, e, ?_⟩
  cases f with
  | nx => exact k _ h
  | ct => exact h
  | bk => exact h
  | rt m => exact h
theorem lf_ff {A N : Prop} (h : N) : (false = true → A) ∧ (false = false → N) := ⟨fun h => by (cases h), fun _ => h⟩
theorem lf_tt {A N : Prop} (h : N) : (true = true → N) ∧ (true = false → A) := ⟨fun _ => h, fun h => by (cases h)⟩
theorem lf_ff2 {A N : Prop} (h : N) : (false = false → N) ∧ (false = true → A) := ⟨fun _ => h, fun h => by (cases h)⟩
theorem lf_tt2 {A N : Prop} (h : N) : (true = false → A) ∧ (true = true → N) := ⟨fun h => by (cases h), fun _ => h⟩
theorem slot_z (a : Option M) (l : Env) : slot (a :: l) 0 = a := rfl
theorem slot_s (a : Option M) (l : Env) (n : Nat) : slot (a :: l) (n + 1) = slot l n := rfl
theorem lf_mtb_g {m : MT} {a : Option M} {A : Prop} (h : mtBase m a = true ∧ A) : mtBase m a = true ∧ A := h
theorem lf_mtb {m : MT} {a : Option M} {A : Prop} (e : mtBase m a = true) (h : A) : mtBase m a = true ∧ A := ⟨e, h⟩
theorem lf_mt {ρ : Env} {r1 : R} {rs : List R} {m : MT} {m1 x : M} {ms : List M} {Q : M → Prop} (e1 : rd ρ r1 = some m1) (e2 : rds ρ rs = some ms) (e3 : mtM m m1 ms = some x) (h : Q x) : ∃ m1 ms x, rd ρ r1 = some m1 ∧ rds ρ rs = some ms ∧ mtM m m1 ms = some x ∧ Q x := ⟨_, _, _, e1, e2, e3, h⟩
theorem putM_d {kvs : List (Key × P)} {s : Str} {x : P} (h : kvs.length < LIM) : putM (.d kvs) (.str s) x = some (.d (putA kvs (.inr s) x)) := if_pos h
theorem sto_go {X : Cxt} {i : Nat} {m : M} {ρ : Env} (h1 : isLk (slot ρ i) = false) (h2 : pmAt X i = false) (h3 : i < ρ.length) : sto X i m ρ = some (ρ.set i (some m)) := if_neg (by rw [h1, h2]; simp; omega)
section
variable {X : Cxt} {ρ : Env} {Q : M → Env → Prop} {N : Env → Prop} {QF : Fl → Env → Prop}
def WKV (X : Cxt) (es : EL) (ρ : Env) (Q : List (Key × M) → Env → Prop) : Prop := ∃ xs ρ', evkv X es ρ = some (xs, ρ') ∧ Q xs ρ'
theorem wkv_nil {Q : List (Key × M) → Env → Prop} (h : Q [] ρ) : WKV X .nil ρ Q := ⟨_, _, by simp only [evkv], h⟩
theorem wkv_cons {k : Str} {e : E} {r : EL} {Q : List (Key × M) → Env → Prop} (h : WE X e ρ fun m ρ1 => WKV X r ρ1 fun xs ρ2 => (getA xs (.inr k)).isSome = false ∧ Q ((.inr k, frzL m) :: xs) ρ2) : WKV X (.cons (.ks k) (.cons e r)) ρ Q := by
  obtain ⟨m, ρ1, e1, xs, ρ2, e2, e3, h⟩ := h
  exact ⟨_, _, by simp only [evkv, e1, e2, e3, Bool.false_eq_true, if_false], h⟩
theorem we_dd {t : Nat} {kvs : EL} (h : WKV X kvs ρ fun xs ρ1 => Q (.n xs) ρ1) : WE X (.dd t kvs) ρ Q := by
  obtain ⟨xs, ρ1, e1, h⟩ := h
  exact ⟨_, _, by simp only [ev, e1], h⟩
theorem we_getn {i : Nat} {k : E} (h0 : isNd (slot ρ i) = true) (h : WE X k ρ fun m ρ1 => ∃ p, m = .v p ∧ ∃ x ρ2, getN ρ1 i p = some (x, ρ2) ∧ Q x ρ2) : WE X (.getn i k) ρ Q := by
  obtain ⟨m, ρ1, e1, p, rfl, x, ρ2, e2, h⟩ := h
  exact ⟨_, _, by simp only [ev, h0, Bool.true_eq_false, if_false, e1, e2], h⟩
theorem we_pop1 {i : Nat} {e : E} (h0 : isL (slot ρ i) = true) (h : WO X e ρ fun r ρ1 => ∃ ps j p, slot ρ1 i = some (.l ps) ∧ rd ρ1 r = some (.v (.int j)) ∧ (0 ≤ j ∧ j < ps.length ∧ ps.length ≤ LIM) ∧ ps[j.toNat]? = some p ∧ Q (.v p) (ρ1.set i (some (.l (ps.eraseIdx j.toNat))))) : WE X (.pop i (.cons e .nil)) ρ Q := by
  obtain ⟨r, ρ1, e1, ps, j, p, e2, e3, e4, e5, h⟩ := h
  exact ⟨_, _, by simp only [ev, h0, Bool.true_eq_false, if_false, evl, e1, e2, rds, e3, e4, and_self, if_true, e5], h⟩
theorem ws_stf {i : Nat} {f : Str} {k e : E} (h0 : isNd (slot ρ i) = true) (h : WE X e ρ fun m ρ1 => ∃ x kvs kv2, toP m = some x ∧ slot ρ1 i = some (.n kvs) ∧ getA kvs (.inr f) = some (.d kv2) ∧ WE X k (ρ1.set i none) fun m2 ρ2 => ∃ p kk, m2 = .v p ∧ slot ρ2 i = none ∧ keyOf p = some kk ∧ kv2.length < LIM ∧ N (ρ2.set i (some (.n (putA kvs (.inr f) (.d (putA kv2 kk x))))))) : WS X (.stf i f k e) ρ N QF := by
  obtain ⟨m, ρ1, e1, x, kvs, kv2, e2, e3, e4, m2, ρ2, e5, p, kk, rfl, e6, e7, e8, h⟩ := h
  exact ⟨.nx, _, by simp only [evs, h0, Bool.true_eq_false, if_false, e1, e2, e3, e4, e5, e6, e7, e8, if_true], h⟩
theorem ws_sda {i : Nat} {k e : E} (h0 : isNd (slot ρ i) = true) (h : WE X k ρ fun m ρ1 => ∃ p kvs kk ps, m = .v p ∧ slot ρ1 i = some (.n kvs) ∧ keyOf p = some kk ∧ sdN kvs kk = some ps ∧ WE X e (ρ1.set i none) fun m2 ρ2 => ∃ x, toP m2 = some x ∧ slot ρ2 i = none ∧ N (ρ2.set i (some (.n (putA kvs kk (.l (ps ++ [x]))))))) : WS X (.sda i k e) ρ N QF := by
  obtain ⟨m, ρ1, e1, p, kvs, kk, ps, rfl, e2, e3, e4, m2, ρ2, e5, x, e6, e7, h⟩ := h
  exact ⟨.nx, _, by simp only [evs, h0, Bool.true_eq_false, if_false, e1, e2, e3, e4, e5, e6, e7], h⟩
end
section
variable {X : Cxt} {ρ : Env} {Q : M → Env → Prop} {N : Env → Prop} {QF : Fl → Env → Prop}
theorem we_dr {k e : E} (h : WE X k ρ fun m ρ1 => ∃ p kk, m = .v p ∧ rkOf p = some kk ∧ rkN kk = true ∧ WE X e ρ1 fun m2 ρ2 => ∃ x, toP m2 = some x ∧ Q (.r [(kk, x)]) ρ2) : WE X (.dr k e) ρ Q := by
  obtain ⟨m, ρ1, e1, p, kk, rfl, e2, e3, m2, ρ2, e4, x, e5, h⟩ := h
  exact ⟨_, _, by simp only [ev, e1, e2, e4, e5, e3, if_true], h⟩
theorem ws_stn {i : Nat} {k e : E} (h0 : (slot ρ i).isSome = true) (h : WE X e ρ fun m ρ1 => ∃ x, toP m = some x ∧ WE X k ρ1 fun m2 ρ2 => ∃ p kvs kk, m2 = .v p ∧ slot ρ2 i = some (.r kvs) ∧ rkOf p = some kk ∧ (kvs.length < LIM ∧ kvs.isEmpty = false ∧ rkN kk = true ∧ (kvs.all fun kv => rkN kv.1) = true) ∧ N (ρ2.set i (some (.r (putA kvs kk x))))) : WS X (.stn i k e) ρ N QF := by
  obtain ⟨m, ρ1, e1, x, e2, m2, ρ2, e3, p, kvs, kk, rfl, e4, e5, e6, h⟩ := h
  exact ⟨.nx, _, by simp only [evs, h0, Bool.true_eq_false, if_false, e1, e2, e3, e4, e5]; rw [if_pos e6], h⟩
end
theorem modM {i j : Int} (h : 0 < j) : binM .mod (.v (.int i)) (.v (.int j)) = some (.v (.int (i % j))) := if_pos h
theorem divM {i j : Int} (h : 0 < j ∧ j < 1073741824) : binM .div (.v (.int i)) (.v (.int j)) = some (.v (.int (i / j))) := if_pos h
theorem mulM {i j : Int} (h : mulOk i j = true) : binM .mul (.v (.int i)) (.v (.int j)) = some (.v (.int (i * j))) := if_pos h
theorem mulOk1 {i j : Int} (h : -(2 ^ 64) < i ∧ i < 2 ^ 64) : mulOk i j = true := by
  unfold mulOk
  rw [decide_eq_true h.1, decide_eq_true h.2]; rfl
theorem mulOk2 {i j : Int} (h : -(2 ^ 64) < j ∧ j < 2 ^ 64) : mulOk i j = true := by
  unfold mulOk
  rw [decide_eq_true h.1, decide_eq_true h.2]; simp
end Mn
end
section
set_option maxHeartbeats 4000000
open PySem Mn
local macro_rules | `(tactic| walk_at "mn") => `(tactic| (dsimp only [List.set, putBack, unl, wipeE]))
local macro_rules | `(tactic| walk_at "mo") => `(tactic| (dsimp only [unl, backE, wipeE, List.set, slot_z, slot_s]))
local macro_rules | `(tactic| walk_at "mB") => `(tactic| (first | with_reducible refine wss_cons ?_ | with_reducible refine wss_nil ?_ | with_reducible refine ws_asg ?_ | with_reducible refine ws_ret ?_ | with_reducible refine ws_expr ?_ | with_reducible refine ws_asgT ?_ | with_reducible refine ws_par ?_ | with_reducible refine ws_ret0 ?_ | with_reducible refine ws_cont ?_ | with_reducible refine ws_brk ?_ | with_reducible refine ws_pass ?_ | with_reducible refine we_ki ?_ | with_reducible refine we_kb ?_ | with_reducible refine we_kn ?_ | with_reducible refine we_ks ?_ | with_reducible refine we_bin ?_ | with_reducible refine we_cmp ?_ | with_reducible refine we_sub ?_ | with_reducible refine we_ban ?_ | with_reducible refine we_bor ?_ | with_reducible refine we_nt ?_ | with_reducible refine we_ifx ?_ | with_reducible refine we_neg ?_ | with_reducible refine we_tup ?_ | with_reducible refine we_lst ?_ | with_reducible refine we_dnw0 ?_ | with_reducible refine we_dnw1 ?_ | with_reducible refine we_dnw2 ?_ | with_reducible refine we_slc ?_ | with_reducible refine we_rev ?_ | with_reducible refine we_call ?_ | with_reducible refine we_bi ?_ | with_reducible refine we_mt ?_ | with_reducible refine wb_of ?_ | with_reducible refine wp_nil ?_ | with_reducible refine wp_cons ?_ | with_reducible refine wl_nil ?_ | with_reducible refine wl_cons ?_ | with_reducible refine wpo_no ?_ | with_reducible refine wt_nil ?_ | with_reducible refine wt_one ?_ | with_reducible refine we_dd ?_ | with_reducible refine wkv_cons ?_ | with_reducible refine wkv_nil ?_ | with_reducible refine lf_ff ?_ | with_reducible refine lf_tt ?_ | with_reducible refine lf_ff2 ?_ | with_reducible refine lf_tt2 ?_ | (with_reducible refine wo_g ?_; refine wo_vl1 rfl ?_) | (with_reducible refine wo_g ?_; refine wo_pl rfl ?_) | (with_reducible refine wpo_g ?_; refine wpo_e1 rfl ?_) | (with_reducible refine ws_g ?_; refine ws_app rfl ?_) | (with_reducible refine ws_g ?_; refine ws_stt rfl ?_) | (with_reducible refine ws_g ?_; refine ws_sto rfl ?_) | (with_reducible refine ws_g ?_; refine ws_ext rfl ?_) | (with_reducible refine we_g1 ?_; refine we_tk rfl ?_; (try dsimp only [List.set, putBack, unl, wipeE])) | (with_reducible refine we_g1 ?_; refine we_mv rfl rfl ?_; (try dsimp only [List.set, putBack, unl, wipeE])) | (with_reducible refine lf_sub_g ?_; refine lf_sub rfl rfl ?_) | (with_reducible refine lf_cmp_g ?_; refine lf_cmp rfl rfl rfl ?_) | (with_reducible refine lf_bi_g ?_; refine lf_bi rfl rfl ?_) | (with_reducible refine lf_sto_g ?_; refine lf_sto rfl rfl rfl ?_; (try dsimp only [List.set, putBack, unl, wipeE])) | (with_reducible refine lf_pull_g ?_; refine lf_pull rfl ?_; (try dsimp only [List.set, putBack, unl, wipeE])) | (with_reducible refine lf_ex1_g ?_; refine lf_ex1 rfl ?_; (try dsimp only [List.set, putBack, unl, wipeE])) | (with_reducible refine lf_mtb_g ?_; refine lf_mtb rfl ?_) | (with_reducible refine lf_ex1_g ?_; refine lf_ex1 (sto_go (by assumption) rfl (Nat.le_of_ble_eq_true rfl)) ?_; (try dsimp only [List.set, putBack, unl, wipeE]))))
local macro_rules | `(tactic| walk_at "mN") => `(tactic| (first | walk_at "mB" | with_reducible refine ws_ifs ?_))
local macro_rules | `(tactic| walk_at "mS") => `(tactic| (first | walk_at "mN" | (with_reducible refine lf_bin_g ?_; refine lf_bin rfl rfl rfl ?_) | (with_reducible refine lf_slc_g ?_; refine lf_slc rfl rfl ?_)))
local macro_rules | `(tactic| walk_at "mC") => `(tactic| (first | walk_at "mB" | (with_reducible refine lf_bin_g ?_; refine lf_bin rfl rfl rfl ?_) | (with_reducible refine lf_slc_g ?_; refine lf_slc rfl rfl ?_)))
open PySem
namespace Mn
structure Ix where
  l_hand : Nat
  l_take : Nat
  l_of : Nat
  l_words : Nat
  l_tree : Nat
  l_world : Nat
  l_line : Nat
  l_has : Nat
  l_variable : Nat
  l_target : Nat
  l_make : Nat
  l_args : Nat
  l_call : Nat
  l_field : Nat
  l_row : Nat
  l_rows : Nat
  l_deed : Nat
  l_program : Nat
  nm_up : Str
  nm_by : Str
def F_law_hand (ix : Ix) : Fn := ⟨(Str.ofString "_law_hand"), 2, [(Str.ofString "_law_script"), (Str.ofString "_law_k"), (Str.ofString "_law_cell")], (.cons (.asg (.nm 2) (.ki 0)) (.cons (.ifs (.cmp .lt (.pl 1) (.bi .len (.cons (.pl 0) .nil))) (.cons (.asg (.nm 2) (.bi .abs (.cons (.sub (.pl 0) (.tk 1)) .nil))) .nil) .nil) (.cons (.ret (.lst (.cons (.bin .mul (.pl 2) (.bi .int (.cons (.cmp .ge (.pl 2) (.bin .pow (.ki 10) (.ki 18))) .nil))) (.cons (.bin .add (.bin .add (.bin .mod (.pl 2) (.ki 2305843009213693951)) (.bin .mul (.ki 7919) (.pl 1))) (.ki 11)) (.cons (.ki 0) (.cons (.ki 0) .nil)))))) .nil)))⟩
def F_law_take (ix : Ix) : Fn := ⟨(Str.ofString "_law_take"), 2, [(Str.ofString "_law_hand_here"), (Str.ofString "_law_many"), (Str.ofString "_law_turn"), (Str.ofString "_law_mixed"), (Str.ofString "_law_digit")], (.cons (.ifs (.cmp .gt (.sub (.pl 0) (.ki 0)) (.ki 0)) (.cons (.asg (.nm 4) (.bin .mod (.sub (.pl 0) (.ki 0)) (.pl 1))) (.cons (.sto 0 (.ki 0) (.bin .div (.sub (.pl 0) (.ki 0)) (.pl 1))) (.cons (.ret (.mv 4)) .nil))) .nil) (.cons (.sto 0 (.ki 2) (.bin .add (.sub (.pl 0) (.ki 2)) (.ki 1))) (.cons (.asg (.nm 2) (.sub (.pl 0) (.ki 2))) (.cons (.asg (.nm 3) (.bin .mod (.bin .mul (.bin .add (.sub (.pl 0) (.ki 1)) (.bin .mul (.ki 39373) (.pl 2))) (.bin .add (.ki 48271) (.bin .mul (.pl 2) (.pl 2)))) (.ki 2305843009213693921))) (.cons (.sto 0 (.ki 1) (.bin .mod (.bin .mul (.pl 3) (.bin .add (.bin .mod (.pl 3) (.ki 1000003)) (.ki 17))) (.ki 2305843009213693907))) (.cons (.ret (.bin .mod (.bin .div (.sub (.pl 0) (.ki 1)) (.ki 131071)) (.pl 1))) .nil))))))⟩
def F_law_of (ix : Ix) : Fn := ⟨(Str.ofString "_law_of"), 2, [(Str.ofString "_law_hand_here"), (Str.ofString "_law_some")], (.cons (.ret (.sub (.pl 1) (.call ix.l_take (.cons (.pl 0) (.cons (.bi .len (.cons (.pl 1) .nil)) .nil))))) .nil)⟩
abbrev FnC := Nat → List M → Option (M × List M)
/-- a hand: t bounds the turns, d is what is left of rows -/
def Hd (t d : Int) (h : M) : Prop := ∃ a b c, h = .l [.int a, .int b, .int c, .int d] ∧ (0 ≤ b ∧ b < 2 ^ 62) ∧ 0 ≤ c ∧ c ≤ t
theorem Hd.mono {t t' d : Int} {h : M} (x : Hd t d h) (l : t ≤ t') : Hd t' d h := by
  obtain ⟨a, b, c, h1, h2, h3, h4⟩ := x
  exact ⟨a, b, c, h1, h2, h3, by omega⟩
def LT : Int := 500000
theorem modM1 {i j : Int} (h : 0 < j) : binM .mod (.v (.int i)) (.v (.int j)) = some (.v (.int (i % j))) := if_pos h
def SpHand (C : FnC) (i : Nat) : Prop := ∀ (ns : List Int) (k : Nat), ns.length ≤ 63 → k < 100 → ∃ h, C i [.s ns, .v (.int k)] = some (h, [.s ns, .v (.int k)]) ∧ Hd 0 0 h
def SpTake (C : FnC) (i : Nat) : Prop := ∀ (t d : Int) (h : M) (m : Int), Hd t d h → t ≤ LT → 0 < m ∧ m < 1073741824 → ∃ r h', C i [h, .v (.int m)] = some (.v (.int r), [h', .v (.int m)]) ∧ 0 ≤ r ∧ r < m ∧ Hd (t + 1) d h'
def SpOf (C : FnC) (i : Nat) : Prop := ∀ (t d : Int) (h : M) (l : M) (ps : List P), Hd t d h → t ≤ LT → (l = .l ps ∨ l = .v (.list ps)) → 0 < ps.length → ps.length < 1000000 → ∃ p h', C i [h, l] = some (.v p, [h', l]) ∧ p ∈ ps ∧ Hd (t + 1) d h'
theorem hand_ok (ix : Ix) (T : Tab) (C : FnC) : ∀ (ns : List Int) (k : Nat), ns.length ≤ 63 → k < 100 → ∃ h, runF T C (F_law_hand ix) [.s ns, .v (.int k)] = some (h, [.s ns, .v (.int k)]) ∧ Hd 0 0 h := by
  intro ns k hl hk
  have fin : ∀ (cell : Int), (0 ≤ cell % 2305843009213693951 + 7919 * (k : Int) + 11 ∧ cell % 2305843009213693951 + 7919 * (k : Int) + 11 < 2 ^ 62) := fun cell => by omega
  have key : ∃ r ms, runF T C (F_law_hand ix) [.s ns, .v (.int k)] = some (r, ms) ∧ ∃ a b, r = .l [.int a, .int b, .int 0, .int 0] ∧ ms = [.s ns, .v (.int k)] ∧ (0 ≤ b ∧ b < 2 ^ 62) := by
    apply run_of rfl
    unfold F_law_hand
    dsimp only
    (try walk_at "mn"); repeat walk_at "mS"
    refine ⟨fun h => ?_, fun h => ?_⟩
    · have hlt : k < ns.length := by simpa using h
      (try walk_at "mn"); repeat walk_at "mS"
      refine lf_sub (m1 := .s ns) rfl (m := .v (.int ns[k])) (by
        show (L2.atI ns (k : Int)).map (fun n => M.v (.int n)) = _
        unfold L2.atI L2.ixN
        rw [if_pos (by omega), if_pos (by omega)]
        simp [hlt]) ?_
      (try walk_at "mn"); repeat walk_at "mS"
      refine lf_bin rfl rfl (mulM (mulOk2 (by split <;> omega))) ?_
      (try walk_at "mn"); repeat walk_at "mS"
      exact ⟨_, _, rfl, rfl, fin _⟩
    · (try walk_at "mn"); repeat walk_at "mS"
      exact ⟨_, _, rfl, rfl, fin _⟩
  obtain ⟨r, ms, e, a, b, rfl, rfl, h1⟩ := key
  exact ⟨_, e, a, b, 0, rfl, h1, by omega, by omega⟩
theorem take_ok (ix : Ix) (T : Tab) (C : FnC) : ∀ (t d : Int) (h : M) (m : Int), Hd t d h → t ≤ LT → 0 < m ∧ m < 1073741824 → ∃ r h', runF T C (F_law_take ix) [h, .v (.int m)] = some (.v (.int r), [h', .v (.int m)]) ∧ 0 ≤ r ∧ r < m ∧ Hd (t + 1) d h' := by
  intro t d h m ⟨a, b, c, e, hb, hc, ht⟩ hT hm
  subst e
  have hL : LT = 500000 := rfl
  have key : ∃ r ms, runF T C (F_law_take ix) [.l [.int a, .int b, .int c, .int d], .v (.int m)] = some (r, ms) ∧ ∃ i a' b' c', r = .v (.int i) ∧ ms = [.l [.int a', .int b', .int c', .int d], .v (.int m)] ∧ 0 ≤ i ∧ i < m ∧ (0 ≤ b' ∧ b' < 2 ^ 62) ∧ c ≤ c' ∧ c' ≤ c + 1 := by
    apply run_of rfl
    unfold F_law_take
    dsimp only
    (try walk_at "mn"); repeat walk_at "mS"
    refine ⟨fun h => ?_, fun h => ?_⟩
    · (try walk_at "mn"); repeat walk_at "mS"
      refine lf_bin rfl rfl (modM hm.1) ?_
      (try walk_at "mn"); repeat walk_at "mS"
      refine lf_bin rfl rfl (divM hm) ?_
      (try walk_at "mn"); repeat walk_at "mS"
      exact ⟨_, _, _, _, rfl, rfl, Int.emod_nonneg _ (by omega), Int.emod_lt_of_pos _ hm.1, hb, by omega, by omega⟩
    · (try walk_at "mn"); repeat walk_at "mS"
      refine lf_bin rfl rfl (mulM (mulOk1 (by omega))) ?_
      (try walk_at "mn"); repeat walk_at "mS"
      refine lf_bin rfl rfl (mulM (mulOk1 (by omega))) ?_
      (try walk_at "mn"); repeat walk_at "mS"
      refine lf_bin rfl rfl (mulM (mulOk1 (by omega))) ?_
      (try walk_at "mn"); repeat walk_at "mS"
      refine lf_bin rfl rfl (modM hm.1) ?_
      (try walk_at "mn"); repeat walk_at "mS"
      exact ⟨_, _, _, _, rfl, rfl, Int.emod_nonneg _ (by omega), Int.emod_lt_of_pos _ hm.1, by omega, by omega, by omega⟩
  obtain ⟨r, ms, e, i, a', b', c', rfl, rfl, h1, h2, h3, h4, h5⟩ := key
  exact ⟨i, _, e, h1, h2, a', b', c', rfl, h3, by omega, by omega⟩
theorem of_ok (ix : Ix) (T : Tab) (C : FnC) (hT : SpTake C ix.l_take) : ∀ (t d : Int) (h : M) (l : M) (ps : List P), Hd t d h → t ≤ LT → (l = .l ps ∨ l = .v (.list ps)) → 0 < ps.length → ps.length < 1000000 → ∃ p h', runF T C (F_law_of ix) [h, l] = some (.v p, [h', l]) ∧ p ∈ ps ∧ Hd (t + 1) d h' := by
  intro t d h l ps ⟨a, b, c, e, hb, hc, ht⟩ hLT hl h0 h1
  subst e
  have key : ∃ r ms, runF T C (F_law_of ix) [.l [.int a, .int b, .int c, .int d], l] = some (r, ms) ∧ ∃ p h', r = .v p ∧ ms = [h', l] ∧ p ∈ ps ∧ Hd (t + 1) d h' := by
    have hd : Hd t d (.l [.int a, .int b, .int c, .int d]) := ⟨a, b, c, rfl, hb, hc, ht⟩
    obtain ⟨r, h', e, k1, k2, k3⟩ := hT t d _ ps.length hd hLT ⟨by omega, by omega⟩
    have hr : r.toNat < ps.length := by omega
    have hix : L2.atI ps r = some ps[r.toNat] := by
      unfold L2.atI L2.ixN
      rw [if_pos k1, if_pos k2]
      exact List.getElem?_eq_getElem hr
    rcases hl with hl | hl
    · subst hl
      apply run_of rfl
      unfold F_law_of
      dsimp only
      (try walk_at "mn"); repeat walk_at "mS"
      refine ⟨_, _, e, ?_⟩
      (try walk_at "mn"); repeat walk_at "mS"
      refine lf_sub (m1 := .l ps) rfl (m := .v ps[r.toNat]) (by show (L2.atI ps r).map M.v = _; rw [hix]; rfl) ?_
      exact ⟨_, h', rfl, rfl, List.getElem_mem hr, k3⟩
    · subst hl
      apply run_of rfl
      unfold F_law_of
      dsimp only
      (try walk_at "mn"); repeat walk_at "mS"
      refine ⟨_, _, e, ?_⟩
      (try walk_at "mn"); repeat walk_at "mS"
      refine lf_sub (m1 := .v (.list ps)) rfl (m := .v ps[r.toNat]) (by show (L2.atI ps r).map M.v = _; rw [hix]; rfl) ?_
      exact ⟨_, h', rfl, rfl, List.getElem_mem hr, k3⟩
  obtain ⟨r, ms, e, p, h', rfl, rfl, q1, q2⟩ := key
  exact ⟨p, h', e, q1, q2⟩
end Mn
open PySem
namespace Mn
def F_law_words (ix : Ix) : Fn := ⟨(Str.ofString "_law_words"), 2, [(Str.ofString "_law_hand_here"), (Str.ofString "_law_many"), (Str.ofString "_law_odd"), (Str.ofString "_law_letters"), (Str.ofString "_law_stem"), (Str.ofString "_law_k"), (Str.ofString "_law_at"), (Str.ofString "_law_first"), (Str.ofString "_law_stride"), (Str.ofString "_law_words_here"), (Str.ofString "_law_word")], (.cons (.asg (.nm 2) (.lst (.cons (.ks (Str.ofString "end")) (.cons (.ks (Str.ofString "or")) (.cons (.ks (Str.ofString "main")) (.cons (.ks (Str.ofString "gives")) (.cons (.ks (Str.ofString "kind")) (.cons (.ks (Str.ofString "under")) (.cons (.ks (Str.ofString "late")) (.cons (.ks (Str.ofString "deed")) (.cons (.ks (Str.ofString "call")) (.cons (.ks (Str.ofString "say")) (.cons (.ks (Str.ofString "make")) (.cons (.ks (Str.ofString "take")) (.cons (.ks (Str.ofString "put")) .nil))))))))))))))) (.cons (.ifs (.cmp .eq (.call ix.l_take (.cons (.pl 0) (.cons (.ki 8) .nil))) (.ki 5)) (.cons (.asg (.nm 7) (.call ix.l_take (.cons (.pl 0) (.cons (.ki 13) .nil)))) (.cons (.ret (.slc (.bin .add (.slc (.pl 2) (.tk 7) .no) (.slc (.pl 2) .no (.tk 7))) .no (.tk 1))) .nil)) .nil) (.cons (.asg (.nm 3) (.ks (Str.ofString "abcdefghijklmnopqrstuvwxyz"))) (.cons (.asg (.nm 4) (.ks (Str.ofString ""))) (.cons (.fr (.nm 5) (.rg (.cons (.call ix.l_take (.cons (.pl 0) (.cons (.ki 5) .nil))) .nil)) (.cons (.asg (.nm 4) (.bin .add (.pl 4) (.sub (.pl 3) (.call ix.l_take (.cons (.pl 0) (.cons (.ki 26) .nil)))))) .nil)) (.cons (.asg (.nm 6) (.call ix.l_take (.cons (.pl 0) (.cons (.bin .add (.bi .len (.cons (.pl 4) .nil)) (.ki 1)) .nil)))) (.cons (.asg (.nm 7) (.call ix.l_take (.cons (.pl 0) (.cons (.ki 26) .nil)))) (.cons (.asg (.nm 8) (.sub (.lst (.cons (.ki 1) (.cons (.ki 3) (.cons (.ki 5) (.cons (.ki 7) (.cons (.ki 9) (.cons (.ki 11) .nil))))))) (.call ix.l_take (.cons (.pl 0) (.cons (.ki 6) .nil))))) (.cons (.asg (.nm 9) (.lst .nil)) (.cons (.fr (.nm 5) (.rg (.cons (.tk 1) .nil)) (.cons (.asg (.nm 10) (.bin .add (.bin .add (.slc (.pl 4) .no (.tk 6)) (.sub (.pl 3) (.bin .mod (.bin .add (.pl 7) (.bin .mul (.pl 8) (.pl 5))) (.ki 26)))) (.slc (.pl 4) (.tk 6) .no))) (.cons (.app 9 (.bin .add (.pl 10) (.bin .mul (.ks (Str.ofString "q")) (.bi .int (.cons (.cmp .eq (.pl 10) (.ks (Str.ofString "own"))) .nil))))) .nil))) (.cons (.ret (.mv 9)) .nil)))))))))))⟩
/-- a text by its signs -/
def Sx (l : List Nat) : Str := ⟨l.toArray⟩
theorem Sx_len (l : List Nat) : (Sx l).length = l.length := by show l.toArray.size = _; simp
theorem Sx_list (l : List Nat) : (Sx l).cps.toList = l := by show l.toArray.toList = _; simp
theorem Sx_app (a b : List Nat) : Sx a ++ Sx b = Sx (a ++ b) := by
  show (⟨a.toArray ++ b.toArray⟩ : Str) = ⟨(a ++ b).toArray⟩
  simp
theorem Sx_inj {a b : List Nat} (h : Sx a = Sx b) : a = b := by
  have : (Sx a).cps.toList = (Sx b).cps.toList := by rw [h]
  rwa [Sx_list, Sx_list] at this
theorem Sx_of (s : Str) : s = Sx s.cps.toList := by
  cases s with
  | mk a => show (⟨a⟩ : Str) = ⟨a.toList.toArray⟩; simp
theorem sgn_eq (c : Nat) : sgn c = .str (Sx [c]) := rfl
/-- a small letter -/
def low (c : Nat) : Prop := 97 ≤ c ∧ c ≤ 122
def letL : List Nat := [97, 98, 99, 100, 101, 102, 103, 104, 105, 106, 107, 108, 109, 110, 111, 112, 113, 114, 115, 116, 117, 118, 119, 120, 121, 122]
theorem letters_eq : Str.ofString "abcdefghijklmnopqrstuvwxyz" = Sx letL := by decide +kernel
theorem letL_get (n : Nat) (h : n < 26) : letL[n]? = some (97 + n) := by
  have : ∀ m : _root_.Fin 26, letL[m.val]? = some (97 + m.val) := by decide
  exact this ⟨n, h⟩
def oddL : List Str := [Str.ofString "end", Str.ofString "or", Str.ofString "main", Str.ofString "gives", Str.ofString "kind", Str.ofString "under", Str.ofString "late", Str.ofString "deed", Str.ofString "call", Str.ofString "say", Str.ofString "make", Str.ofString "take", Str.ofString "put"]
/-- a word: letters, one to six of them, not own -/
structure IsW (w : Str) : Prop where
  low : ∀ c ∈ w.cps.toList, low c
  pos : 0 < w.length
  len : w.length ≤ 6
  own : w ≠ Str.ofString "own"
theorem rg1 {r : Int} (h : 0 ≤ r ∧ r < 2 ^ 62) : rgItems [.v (.int r)] = some ((List.range r.toNat).map fun (i : Nat) => .int (0 + (i : Int))) := if_pos ⟨by omega, h.2⟩
theorem rg1_get {n j : Nat} {p : P} (h : ((List.range n).map fun (i : Nat) => (PyData.int (0 + (i : Int)) : P))[j]? = some p) : j < n ∧ p = .int j := by
  rw [List.getElem?_map] at h
  obtain ⟨i, h1, h2⟩ := Option.map_eq_some_iff.mp h
  have hj := (List.getElem?_eq_some_iff.mp h1).1
  rw [List.length_range] at hj
  rw [List.getElem?_range hj] at h1
  cases h1
  exact ⟨hj, by rw [← h2, Int.zero_add]⟩
theorem subS {l : List Nat} {r : Int} {c : Nat} (h0 : 0 ≤ r) (h : l[r.toNat]? = some c) : subM (.v (.str (Sx l))) (.v (.int r)) = some (.v (.str (Sx [c]))) := by
  show (L2.atI (Sx l).cps.toList r).map (fun c => M.v (sgn c)) = _
  have hl := (List.getElem?_eq_some_iff.mp h).1
  rw [Sx_list]
  unfold L2.atI L2.ixN
  rw [if_pos h0, if_pos (by omega)]
  show (l[r.toNat]?).map _ = _
  rw [h]; rfl
theorem subL {l : List P} {r : Int} {c : P} (h0 : 0 ≤ r) (h : l[r.toNat]? = some c) : subM (.l l) (.v (.int r)) = some (.v c) := by
  show (L2.atI l r).map M.v = _
  have hl := (List.getElem?_eq_some_iff.mp h).1
  unfold L2.atI L2.ixN
  rw [if_pos h0, if_pos (by omega)]
  show (l[r.toNat]?).map _ = _
  rw [h]; rfl
theorem addS {a b : List Nat} (h : a.length + b.length ≤ 1000000) : binM .add (.v (.str (Sx a))) (.v (.str (Sx b))) = some (.v (.str (Sx (a ++ b)))) := by
  show (if (Sx a).length + (Sx b).length ≤ LIM then some (M.v (.str (Sx a ++ Sx b))) else none) = _
  rw [Sx_len, Sx_len, if_pos (show a.length + b.length ≤ LIM from h), Sx_app]
theorem sIx_nat {n d : Nat} {i : Int} (h0 : 0 ≤ i) : HT.sIx n d (some i) = min i.toNat n := by
  show (if i < 0 then (i + (n : Int)).toNat else min i.toNat n) = _
  rw [if_neg (by omega)]
theorem cut_lo {α : Type} {xs : List α} {i : Int} (h0 : 0 ≤ i) : cut xs (some i) none = xs.drop (min i.toNat xs.length) := by
  unfold cut
  rw [sIx_nat h0]
  have : HT.sIx xs.length xs.length none = xs.length := by unfold HT.sIx; rfl
  rw [this]
  exact List.take_of_length_le (by rw [List.length_drop]; exact Nat.le_refl _)
theorem cut_hi {α : Type} {xs : List α} {i : Int} (h0 : 0 ≤ i) : cut xs none (some i) = xs.take (min i.toNat xs.length) := by
  unfold cut
  rw [sIx_nat h0]
  have : HT.sIx xs.length 0 none = 0 := by unfold HT.sIx; rfl
  rw [this]
  rfl
theorem slcS_lo {l : List Nat} {i : Int} (h0 : 0 ≤ i) (h1 : i.toNat ≤ l.length) : slcM (.v (.str (Sx l))) (some i) none = some (.v (.str (Sx (l.drop i.toNat)))) := by
  show some (M.v (.str (L2.cutS (Sx l) (some i) none))) = _
  have h2 : (Sx l).length = l.length := Sx_len l
  unfold L2.cutS
  rw [Sx_list, h2, sIx_nat h0, Nat.min_eq_left h1, List.take_of_length_le (by rw [List.length_drop]; exact Nat.le_refl _)]
  rfl
theorem slcS_hi {l : List Nat} {i : Int} (h0 : 0 ≤ i) (h1 : i.toNat ≤ l.length) : slcM (.v (.str (Sx l))) none (some i) = some (.v (.str (Sx (l.take i.toNat)))) := by
  show some (M.v (.str (L2.cutS (Sx l) none (some i)))) = _
  have h2 : (Sx l).length = l.length := Sx_len l
  unfold L2.cutS
  rw [Sx_list, h2, sIx_nat h0, Nat.min_eq_left h1]
  rfl
theorem slcL_lo {l : List P} {i : Int} (h0 : 0 ≤ i) (h1 : i.toNat ≤ l.length) : slcM (.l l) (some i) none = some (.l (l.drop i.toNat)) := by
  show some (M.l (cut l (some i) none)) = _
  rw [cut_lo h0, Nat.min_eq_left h1]
theorem slcL_hi {l : List P} {i : Int} (h0 : 0 ≤ i) (h1 : i.toNat ≤ l.length) : slcM (.l l) none (some i) = some (.l (l.take i.toNat)) := by
  show some (M.l (cut l none (some i))) = _
  rw [cut_hi h0, Nat.min_eq_left h1]
theorem addL {a b : List P} (h : a.length + b.length ≤ 1000000) : binM .add (.l a) (.l b) = some (.l (a ++ b)) := if_pos (show a.length + b.length ≤ LIM from h)
/-- the words by their middle letters -/
def wordL (stem : List Nat) (at_ : Nat) (c : Nat) : List Nat := stem.take at_ ++ [c] ++ stem.drop at_
def ownL : List Nat := [111, 119, 110]
theorem own_eq : Str.ofString "own" = Sx ownL := by decide +kernel
def wordQ (stem : List Nat) (at_ : Nat) (c : Nat) : List Nat := wordL stem at_ c ++ if wordL stem at_ c = ownL then [113] else []
theorem wordL_len (stem : List Nat) (at_ c : Nat) : (wordL stem at_ c).length = stem.length + 1 := by
  unfold wordL
  simp
  omega
theorem wordL_inj {stem : List Nat} {at_ c d : Nat} (h : wordL stem at_ c = wordL stem at_ d) : c = d := by
  unfold wordL at h
  have := List.append_cancel_right h
  have := List.append_cancel_left this
  simpa using this
theorem wordQ_inj {stem : List Nat} {at_ c d : Nat} (h : wordQ stem at_ c = wordQ stem at_ d) : c = d := by
  unfold wordQ at h
  have l1 := wordL_len stem at_ c
  have l2 := wordL_len stem at_ d
  by_cases h1 : wordL stem at_ c = ownL
  · by_cases h2 : wordL stem at_ d = ownL
    · exact wordL_inj (h1.trans h2.symm)
    · rw [if_pos h1, if_neg h2] at h
      have := congrArg List.length h
      simp [l1, l2] at this
  · by_cases h2 : wordL stem at_ d = ownL
    · rw [if_neg h1, if_pos h2] at h
      have := congrArg List.length h
      simp [l1, l2] at this
    · rw [if_neg h1, if_neg h2, List.append_nil, List.append_nil] at h
      exact wordL_inj h
theorem wordQ_own {stem : List Nat} {at_ c : Nat} : wordQ stem at_ c ≠ ownL := fun h => by
  unfold wordQ at h
  by_cases h1 : wordL stem at_ c = ownL
  · rw [if_pos h1, h1] at h; cases h
  · rw [if_neg h1, List.append_nil] at h; exact h1 h
theorem wordQ_low {stem : List Nat} {at_ c : Nat} (hs : ∀ x ∈ stem, low x) (hc : low c) : ∀ x ∈ wordQ stem at_ c, low x := fun x hx => by
  unfold wordQ at hx
  rcases List.mem_append.mp hx with h | h
  · unfold wordL at h
    rcases List.mem_append.mp h with h | h
    · rcases List.mem_append.mp h with h | h
      · exact hs x (List.mem_of_mem_take h)
      · simp at h; subst h; exact hc
    · exact hs x (List.mem_of_mem_drop h)
  · split at h
    · simp at h; subst h; exact ⟨by omega, by omega⟩
    · cases h
theorem wordQ_isW {stem : List Nat} {at_ c : Nat} (hs : ∀ x ∈ stem, low x) (hl : stem.length ≤ 4) (hc : low c) : IsW (Sx (wordQ stem at_ c)) := by
  have hlen : (wordQ stem at_ c).length = stem.length + 1 + (if wordL stem at_ c = ownL then 1 else 0) := by
    unfold wordQ
    rw [List.length_append, wordL_len]
    split <;> rfl
  refine ⟨by rw [Sx_list]; exact wordQ_low hs hc, ?_, ?_, fun h => ?_⟩
  · rw [Sx_len, hlen]; omega
  · rw [Sx_len, hlen]; split <;> omega
  · rw [own_eq] at h
    exact wordQ_own (Sx_inj h)
/-- the letter of the k-th word -/
def letK (first stride : Int) (k : Nat) : Nat := 97 + ((first + stride * k) % 26).toNat
theorem letK_inj {first stride : Int} {j k : Nat} (hs : stride ∈ [1, 3, 5, 7, 9, (11 : Int)]) (hj : j < 26) (hk : k < 26) (h : letK first stride j = letK first stride k) : j = k := by
  unfold letK at h
  have h1 : (first + stride * j) % 26 = (first + stride * k) % 26 := by omega
  simp only [List.mem_cons, List.not_mem_nil, or_false] at hs
  rcases hs with rfl | rfl | rfl | rfl | rfl | rfl <;> omega
theorem no0' {p : Nat → Prop} : ∀ x ∈ ([] : List Nat), p x := fun _ h => by cases h
theorem qmul (b : Bool) : binM .mul (.v (.str (Str.ofString "q"))) (.v (.int (if b = true then 1 else 0))) = some (.v (.str (Sx (if b = true then [113] else [])))) := by
  cases b
  · have h : mulS (Str.ofString "q") 0 = Sx [] := by decide +kernel
    have h2 : (0 : Int) ≤ 0 ∧ (0 : Int) < 2 ^ 62 ∧ (Str.ofString "q").length * (0 : Int).toNat ≤ LIM := by decide +kernel
    exact (@if_pos _ _ h2 _ _ none).trans (congrArg (fun x => some (M.v (.str x))) h)
  · have h : mulS (Str.ofString "q") 1 = Sx [113] := by decide +kernel
    have h2 : (0 : Int) ≤ 1 ∧ (1 : Int) < 2 ^ 62 ∧ (Str.ofString "q").length * (1 : Int).toNat ≤ LIM := by decide +kernel
    exact (@if_pos _ _ h2 _ _ none).trans (congrArg (fun x => some (M.v (.str x))) h)
theorem eqv_str (a b : Str) : PyData.eqv (.str a) (.str b) = decide (a = b) := by
  unfold PyData.eqv
  by_cases h : a = b
  · rw [decide_eq_true h]; simp [h]
  · rw [decide_eq_false h]; simp [h]
theorem Sx_own (a : List Nat) : decide (Sx a = Str.ofString "own") = decide (a = ownL) := by
  rw [own_eq]
  exact decide_eq_decide.mpr ⟨Sx_inj, fun h => by rw [h]⟩
def SpWords (C : FnC) (i : Nat) : Prop := ∀ (t d : Int) (h : M) (n : Nat), Hd t d h → t + 20 ≤ LT → n ≤ 13 → ∃ ws h', C i [h, .v (.int n)] = some (.l ws, [h', .v (.int n)]) ∧ (∃ zs : List Str, ws = zs.map PyData.str ∧ zs.length = n ∧ zs.Nodup ∧ ∀ z ∈ zs, IsW z) ∧ Hd (t + 10) d h'
theorem odd_ok : oddL.Nodup ∧ ∀ z ∈ oddL, IsW z := by
  refine ⟨by decide +kernel, fun z hz => ?_⟩
  have h1 : ∀ z ∈ oddL, (z.cps.toList.all fun c => decide (97 ≤ c ∧ c ≤ 122)) = true ∧ 0 < z.length ∧ z.length ≤ 6 ∧ z ≠ Str.ofString "own" := by decide +kernel
  obtain ⟨h2, h3, h4, h5⟩ := h1 z hz
  exact ⟨fun c hc => of_decide_eq_true (p := 97 ≤ c ∧ c ≤ 122) (List.all_eq_true.mp h2 c hc), h3, h4, h5⟩
theorem words_ok (ix : Ix) (T : Tab) (C : FnC) (hT : SpTake C ix.l_take) : ∀ (t d : Int) (h : M) (n : Nat), Hd t d h → t + 20 ≤ LT → n ≤ 13 → ∃ ws h', runF T C (F_law_words ix) [h, .v (.int n)] = some (.l ws, [h', .v (.int n)]) ∧ (∃ zs : List Str, ws = zs.map PyData.str ∧ zs.length = n ∧ zs.Nodup ∧ ∀ z ∈ zs, IsW z) ∧ Hd (t + 10) d h' := by
  intro t d h n ⟨a, b, c, e, hb, hc, ht⟩ hLT hn
  subst e
  have hd : Hd t d (.l [.int a, .int b, .int c, .int d]) := ⟨a, b, c, rfl, hb, hc, ht⟩
  have hL : LT = 500000 := rfl
  have key : ∃ r ms, runF T C (F_law_words ix) [.l [.int a, .int b, .int c, .int d], .v (.int n)] = some (r, ms) ∧ ∃ (h' : M) (zs : List Str), r = .l (zs.map PyData.str) ∧ ms = [h', .v (.int n)] ∧ Hd (t + 10) d h' ∧ zs.length = n ∧ zs.Nodup ∧ ∀ z ∈ zs, IsW z := by
    apply run_of rfl
    unfold F_law_words
    dsimp only
    (try walk_at "mn"); repeat walk_at "mS"
    obtain ⟨r1, h1, e1, k1, k2, hd1⟩ := hT t d _ 8 hd (by omega) (by omega)
    refine ⟨_, _, e1, ?_⟩
    (try walk_at "mn"); repeat walk_at "mS"
    refine ⟨fun _ => ?_, fun _ => ?_⟩
    · (try walk_at "mn"); repeat walk_at "mS"
      obtain ⟨r2, h2, e2, k3, k4, hd2⟩ := hT _ d _ 13 hd1 (by omega) (by omega)
      refine ⟨_, _, e2, ?_⟩
      (try walk_at "mn"); repeat walk_at "mS"
      have h13 : r2.toNat ≤ (oddL.map PyData.str).length := by show r2.toNat ≤ 13; omega
      have hl1 : (cut (oddL.map PyData.str) (some r2) none).length + (cut (oddL.map PyData.str) none (some r2)).length = 13 := by
        rw [cut_lo k3, cut_hi k3, Nat.min_eq_left h13, List.length_drop, List.length_take]
        have : (oddL.map PyData.str).length = 13 := rfl
        omega
      refine lf_bin (m1 := .l (cut (oddL.map PyData.str) (some r2) none)) (m2 := .l (cut (oddL.map PyData.str) none (some r2))) rfl rfl (addL (by omega)) ?_
      (try walk_at "mn"); repeat walk_at "mS"
      obtain ⟨o1, o2⟩ := odd_ok
      have hp : (oddL.drop r2.toNat ++ oddL.take r2.toNat).Perm oddL := by
        have := List.perm_append_comm (l₁ := oddL.drop r2.toNat) (l₂ := oddL.take r2.toNat)
        rwa [List.take_append_drop] at this
      refine ⟨_, (oddL.drop r2.toNat ++ oddL.take r2.toNat).take n, ?_, rfl, hd2.mono (by omega), ?_, ?_, fun z hz => ?_⟩
      · rw [List.map_take, List.map_append, List.map_drop, List.map_take, ← Nat.min_eq_left h13, ← cut_lo k3, ← cut_hi k3, cut_hi (by omega), List.length_append, hl1]
        congr 2
        omega
      · rw [List.length_take, hp.length_eq]
        have : oddL.length = 13 := rfl
        omega
      · exact (List.take_sublist _ _).nodup (hp.nodup_iff.mpr o1)
      · exact o2 z (hp.mem_iff.mp (List.mem_of_mem_take hz))
    · (try walk_at "mn"); repeat walk_at "mS"
      refine ws_fr (fun j ρ => ∃ (h' : M) (stem : List Nat) (o : Option M), ρ = [some h', some (.v (.int n)), some (.l (oddL.map PyData.str)), some (.v (.str (Sx letL))), some (.v (.str (Sx stem))), o, none, none, none, none, none] ∧ isLk o = false ∧ stem.length = j ∧ j ≤ 4 ∧ (∀ x ∈ stem, low x) ∧ Hd (t + 2 + j) d h') rfl ?_
      refine wi_rg ?_
      (try walk_at "mn"); repeat walk_at "mS"
      obtain ⟨r2, h2, e2, k3, k4, hd2⟩ := hT _ d _ 5 hd1 (by omega) (by omega)
      refine ⟨_, _, e2, ?_⟩
      (try walk_at "mn"); repeat walk_at "mS"
      refine ⟨_, _, rfl, rg1 ⟨k3, by omega⟩, ⟨h2, [], none, ?_, rfl, rfl, by omega, no0', ?_⟩, fun j p ρ2 hp hI => ?_, fun ρ2 hI => ?_⟩
      · rw [← letters_eq]; rfl
      · exact hd2.mono (by omega)
      · obtain ⟨hj, rfl⟩ := rg1_get hp
        obtain ⟨h3, stem, o, rfl, ho, hl, hj4, hs, hd3⟩ := hI
        refine ⟨_, sto_go ho rfl (Nat.le_of_ble_eq_true rfl), ?_⟩
        dsimp only [List.set]
        (try walk_at "mn"); repeat walk_at "mS"
        obtain ⟨r4, h4, e4, k5, k6, hd4⟩ := hT _ d _ 26 hd3 (by omega) (by omega)
        refine ⟨_, _, e4, ?_⟩
        (try walk_at "mn"); repeat walk_at "mS"
        refine lf_sub rfl (subS k5 (letL_get r4.toNat (by omega))) ?_
        (try walk_at "mn"); repeat walk_at "mS"
        refine lf_bin rfl rfl (addS (by rw [hl]; simp; omega)) ?_
        (try walk_at "mn"); repeat walk_at "mS"
        refine ⟨h4, stem ++ [97 + r4.toNat], _, rfl, rfl, by simp [hl], by omega, fun x hx => ?_, hd4.mono (by omega)⟩
        rcases List.mem_append.mp hx with h | h
        · exact hs x h
        · simp at h; subst h; exact ⟨by omega, by omega⟩
      · rw [List.length_map, List.length_range] at hI
        obtain ⟨h3, stem, o, rfl, ho, hl, hj4, hs, hd3⟩ := hI
        try dsimp only [unl]
        (try walk_at "mn"); repeat walk_at "mS"
        have hSl : ((Sx stem).length : Int) = stem.length := by rw [Sx_len]
        obtain ⟨r5, h5, e5, k7, k8, hd5⟩ := hT _ d _ (((Sx stem).length : Int) + 1) hd3 (by omega) (by omega)
        refine ⟨_, _, e5, ?_⟩
        (try walk_at "mn"); repeat walk_at "mS"
        obtain ⟨r6, h6, e6, k9, k10, hd6⟩ := hT _ d _ 26 hd5 (by omega) (by omega)
        refine ⟨_, _, e6, ?_⟩
        (try walk_at "mn"); repeat walk_at "mS"
        obtain ⟨r7, h7, e7, k11, k12, hd7⟩ := hT _ d _ 6 hd6 (by omega) (by omega)
        refine ⟨_, _, e7, ?_⟩
        (try walk_at "mn"); repeat walk_at "mS"
        have hst : ∃ s ∈ [1, 3, 5, 7, 9, (11 : Int)], [PyData.int 1, .int 3, .int 5, .int 7, .int 9, .int 11][r7.toNat]? = some (.int s) := by
          have : ∀ m : _root_.Fin 6, ∃ s ∈ [1, 3, 5, 7, 9, (11 : Int)], [PyData.int 1, .int 3, .int 5, .int 7, .int 9, .int 11][m.val]? = some (.int s) := by
            intro m
            match m with
            | 0 => exact ⟨1, by simp, rfl⟩
            | 1 => exact ⟨3, by simp, rfl⟩
            | 2 => exact ⟨5, by simp, rfl⟩
            | 3 => exact ⟨7, by simp, rfl⟩
            | 4 => exact ⟨9, by simp, rfl⟩
            | 5 => exact ⟨11, by simp, rfl⟩
          exact this ⟨r7.toNat, by omega⟩
        obtain ⟨s, hs1, hs2⟩ := hst
        refine lf_sub rfl (subL k11 hs2) ?_
        (try walk_at "mn"); repeat walk_at "mS"
        refine ws_fr (fun j ρ => ∃ (o o2 : Option M), ρ = [some h7, some (.v (.int n)), some (.l (oddL.map PyData.str)), some (.v (.str (Sx letL))), some (.v (.str (Sx stem))), o, some (.v (.int r5)), some (.v (.int r6)), some (.v (.int s)), some (.l (((List.range j).map fun k => Sx (wordQ stem r5.toNat (letK r6 s k))).map PyData.str)), o2] ∧ isLk o = false ∧ isLk o2 = false) rfl ?_
        refine wi_rg ?_
        (try walk_at "mn"); repeat walk_at "mS"
        refine ⟨_, _, rfl, rg1 ⟨by omega, by omega⟩, ⟨_, _, rfl, ho, rfl⟩, fun j p ρ2 hp hI => ?_, fun ρ2 hI => ?_⟩
        · obtain ⟨hj, rfl⟩ := rg1_get hp
          obtain ⟨o, o2, rfl, ho1, ho2⟩ := hI
          refine ⟨_, sto_go ho1 rfl (Nat.le_of_ble_eq_true rfl), ?_⟩
          dsimp only [List.set]
          (try walk_at "mn"); repeat walk_at "mN"
          refine lf_slc rfl (slcS_hi k7 (by omega)) ?_
          (try walk_at "mn"); repeat walk_at "mN"
          refine lf_bin rfl rfl (mulM (mulOk2 (by omega))) ?_
          (try walk_at "mn"); repeat walk_at "mN"
          refine lf_bin rfl rfl rfl ?_
          (try walk_at "mn"); repeat walk_at "mN"
          refine lf_bin rfl rfl rfl ?_
          have hm0 : 0 ≤ (r6 + s * (j : Int)) % 26 := Int.emod_nonneg _ (by omega)
          have hm1 : (r6 + s * (j : Int)) % 26 < 26 := Int.emod_lt_of_pos _ (by omega)
          refine lf_sub rfl (subS hm0 (letL_get _ (by omega))) ?_
          refine lf_bin rfl rfl (addS (by rw [List.length_take, List.length_singleton]; omega)) ?_
          (try walk_at "mn"); repeat walk_at "mN"
          refine lf_slc rfl (slcS_lo k7 (by omega)) ?_
          refine lf_bin rfl rfl (addS (by rw [List.length_append, List.length_take, List.length_singleton, List.length_drop]; omega)) ?_
          refine lf_ex1 (sto_go ho2 rfl (Nat.le_of_ble_eq_true rfl)) ?_
          dsimp only [List.set]
          (try walk_at "mn"); repeat walk_at "mN"
          have hq : (Sx (List.take r5.toNat stem ++ [97 + ((r6 + s * (j : Int)) % 26).toNat] ++ List.drop r5.toNat stem)) = Sx (wordL stem r5.toNat (letK r6 s j)) := rfl
          rw [hq]
          refine lf_bin rfl rfl (qmul _) ?_
          refine lf_bin rfl rfl (addS (by rw [wordL_len]; split <;> simp <;> omega)) ?_
          refine lf_app rfl rfl ?_ ?_
          · rw [List.length_map, List.length_map, List.length_range]; show j < 1000000; omega
          dsimp only [List.set]
          (try walk_at "mn"); repeat walk_at "mN"
          refine ⟨some (.v (.int j)), some (.v (.str (Sx (wordL stem r5.toNat (letK r6 s j))))), ?_, rfl, rfl⟩
          rw [List.range_succ, List.map_append, List.map_append]
          simp only [eqv_str, Sx_own, decide_eq_true_eq]
          rfl
        · rw [List.length_map, List.length_range] at hI
          obtain ⟨o, o2, rfl, ho1, ho2⟩ := hI
          try dsimp only [unl]
          (try walk_at "mn"); repeat walk_at "mS"
          refine ⟨_, (List.range (n : Int).toNat).map fun k => Sx (wordQ stem r5.toNat (letK r6 s k)), rfl, rfl, hd7.mono (by omega), by simp, ?_, fun z hz => ?_⟩
          · rw [List.nodup_iff_pairwise_ne, List.pairwise_map]
            refine List.Pairwise.imp_of_mem (fun {x y} hx hy hne h => ?_) List.nodup_range
            rw [List.mem_range] at hx hy
            exact hne (letK_inj hs1 (by omega) (by omega) (wordQ_inj (Sx_inj h)))
          · obtain ⟨k, hk, rfl⟩ := List.mem_map.mp hz
            exact wordQ_isW hs (by omega) (by unfold letK low; omega)
  obtain ⟨r, ms, e, h', zs, rfl, rfl, q1, q2, q3, q4⟩ := key
  exact ⟨_, h', e, ⟨zs, rfl, q2, q3, q4⟩, q1⟩
end Mn
open PySem
namespace Mn
def optP : Option Str → P
  | none => .none
  | some s => .str s
def trP (x : Str × Option Str) : P := .tuple [.str x.1, optP x.2]
theorem enumP_gt {xs : List P} {j : Nat} {p : P} (h : (enumP xs)[j]? = some p) : ∃ x, xs[j]? = some x ∧ p = .tuple [.int j, x] := by
  unfold enumP at h
  rw [List.getElem?_map] at h
  obtain ⟨⟨i, x⟩, h1, h2⟩ := Option.map_eq_some_iff.mp h
  rw [List.getElem?_zip_eq_some] at h1
  obtain ⟨h3, h4⟩ := h1
  have hj := (List.getElem?_eq_some_iff.mp h4).1
  rw [List.getElem?_range hj] at h3
  cases h3
  exact ⟨x, h4, h2.symm⟩
theorem enumP_ln (xs : List P) : (enumP xs).length = xs.length := by unfold enumP; simp
theorem all_flat (l : List Str) : (l.map PyData.str).all flatP = true := by
  rw [List.all_eq_true]
  intro x hx
  obtain ⟨s, _, rfl⟩ := List.mem_map.mp hx
  rfl
theorem inSeq_str (s : Str) (l : List Str) : inSeq (.str s) (l.map PyData.str) = some (decide (s ∈ l)) := by
  unfold inSeq
  rw [if_pos ⟨rfl, all_flat l⟩]
  congr 1
  induction l with
  | nil => rfl
  | cons a r ih =>
    rw [List.map_cons, List.any_cons, ih, eqv_str]
    by_cases h : a = s
    · subst h; simp
    · have h2 : s ≠ a := fun e => h e.symm
      simp [h, h2]
theorem inSeq_none (l : List Str) : inSeq .none (l.map PyData.str) = some false := by
  unfold inSeq
  rw [if_pos ⟨rfl, all_flat l⟩]
  congr 1
  induction l with
  | nil => rfl
  | cons a r ih => rw [List.map_cons, List.any_cons, ih]; rfl
theorem inSeq_opt (e : Option Str) (l : List Str) : inSeq (optP e) (l.map PyData.str) = some (decide (∃ s, e = some s ∧ s ∈ l)) := by
  cases e with
  | none => rw [show optP none = .none from rfl, inSeq_none]; simp
  | some s => rw [show optP (some s) = .str s from rfl, inSeq_str]; simp
theorem inn_opt (e : Option Str) (l : List Str) : cmpM .inn (.v (optP e)) (.l (l.map PyData.str)) = some (.v (.bool (decide (∃ s, e = some s ∧ s ∈ l)))) := by
  have : inM (.v (optP e)) (.l (l.map PyData.str)) = inSeq (optP e) (l.map PyData.str) := by cases e <;> rfl
  show (inM (.v (optP e)) (.l (l.map PyData.str))).map _ = _
  rw [this, inSeq_opt]; rfl
theorem inn_optL (e : Option Str) (l : List Str) : cmpM .inn (.v (optP e)) (.v (.list (l.map PyData.str))) = some (.v (.bool (decide (∃ s, e = some s ∧ s ∈ l)))) := by
  have : inM (.v (optP e)) (.v (.list (l.map PyData.str))) = inSeq (optP e) (l.map PyData.str) := by cases e <;> rfl
  show (inM (.v (optP e)) (.v (.list (l.map PyData.str)))).map _ = _
  rw [this, inSeq_opt]; rfl
theorem inn_strl (s : Str) (l : List Str) : cmpM .inn (.v (.str s)) (.l (l.map PyData.str)) = some (.v (.bool (decide (s ∈ l)))) := by
  show (inSeq (.str s) (l.map PyData.str)).map _ = _
  rw [inSeq_str]; rfl
theorem inn_strL (s : Str) (l : List Str) : cmpM .inn (.v (.str s)) (.v (.list (l.map PyData.str))) = some (.v (.bool (decide (s ∈ l)))) := by
  show (inSeq (.str s) (l.map PyData.str)).map _ = _
  rw [inSeq_str]; rfl
theorem nin_strL (s : Str) (l : List Str) : cmpM .nin (.v (.str s)) (.v (.list (l.map PyData.str))) = some (.v (.bool (!decide (s ∈ l)))) := by
  show (inSeq (.str s) (l.map PyData.str)).map _ = _
  rw [inSeq_str]; rfl
/-- shallow things -/
def Shal (p : P) : Prop := p.depth ≤ 60 ∧ noD p = true
theorem shal_str (s : Str) : Shal (.str s) := ⟨by show PyData.depth _ ≤ 60; unfold PyData.depth; omega, rfl⟩
theorem shal_all {l : List P} (h : ∀ p ∈ l, Shal p) : PyData.depthAll l ≤ 60 ∧ noDs l = true := by
  induction l with
  | nil => exact ⟨by unfold PyData.depthAll; omega, rfl⟩
  | cons a r ih =>
    obtain ⟨h1, h2⟩ := ih fun p hp => h p (List.mem_cons_of_mem _ hp)
    obtain ⟨h3, h4⟩ := h a List.mem_cons_self
    refine ⟨?_, ?_⟩
    · unfold PyData.depthAll; exact Nat.max_le.mpr ⟨h3, h1⟩
    · unfold noDs; rw [h4, h2]; rfl
theorem eqv_nil (l : List P) : PyData.eqv (.list l) (.list []) = decide (l = []) := by
  unfold PyData.eqv
  cases l with
  | nil => unfold PyData.eqvAll; simp
  | cons a r => unfold PyData.eqvAll; simp
theorem eqM_nil {l : List P} (h : ∀ p ∈ l, Shal p) : eqM (.l l) (.l []) = some (decide (l = [])) := by
  obtain ⟨h1, h2⟩ := shal_all h
  show eqP (.list l) (.list []) = _
  unfold eqP
  rw [if_pos ⟨by unfold PyData.depth; omega, by unfold PyData.depth PyData.depthAll; omega, by unfold noD; exact h2, rfl⟩, eqv_nil]
theorem eq_nil {l : List P} (h : ∀ p ∈ l, Shal p) : cmpM .eq (.l l) (.l []) = some (.v (.bool (decide (l = [])))) := by
  show (eqM (.l l) (.l [])).map _ = _
  rw [eqM_nil h]; rfl
theorem ne_nil {l : List P} (h : ∀ p ∈ l, Shal p) : cmpM .ne (.l l) (.l []) = some (.v (.bool (!decide (l = [])))) := by
  show (eqM (.l l) (.l [])).map _ = _
  rw [eqM_nil h]; rfl
theorem ne_nilL {l : List P} (h : ∀ p ∈ l, Shal p) : cmpM .ne (.v (.list l)) (.l []) = some (.v (.bool (!decide (l = [])))) := by
  show (eqM (.l l) (.l [])).map _ = _
  rw [eqM_nil h]; rfl
theorem shal_strs (l : List Str) : ∀ p ∈ l.map PyData.str, Shal p := fun p hp => by
  obtain ⟨s, _, rfl⟩ := List.mem_map.mp hp
  exact shal_str s
theorem find_map' {α β γ : Type} (f : α → β) (q : β → Bool) (g : β → γ) (l : List α) : ((l.map f).find? q).map g = (l.find? fun a => q (f a)).map fun a => g (f a) := by
  induction l with
  | nil => rfl
  | cons a r ih =>
    rw [List.map_cons, List.find?_cons, List.find?_cons]
    cases h : q (f a)
    · exact ih
    · rfl
theorem getF_T (kvs : List (List Key × P)) (ks : List Key) : getF ((.none, .none) :: kvs.map fun kv => (ofKeys kv.1, kv.2)) (ofKeys ks) = some (getA kvs ks) := by
  show (match keysOf (ofKeys ks) with
    | some ks => some (((kvs.map fun (kv : List Key × P) => (ofKeys kv.1, kv.2)).find? fun (kv : P × P) => decide (keysOf kv.1 = some ks)).map fun (kv : P × P) => kv.2)
    | none => none) = _
  rw [keysOf_ofKeys]
  simp only
  congr 1
  unfold getA
  rw [find_map']
  congr 1
  congr 1
  funext kv
  simp only [keysOf_ofKeys, Option.some.injEq]
theorem getF_D (kvs : List (Key × P)) (k : Key) : getF (kvs.map fun kv => (ofKey kv.1, kv.2)) (ofKey k) = some (getA kvs k) := by
  have h : getF (kvs.map fun kv => (ofKey kv.1, kv.2)) (ofKey k) = (match keyOf (ofKey k) with
    | some k => some (((kvs.map fun (kv : Key × P) => (ofKey kv.1, kv.2)).find? fun (kv : P × P) => decide (keyOf kv.1 = some k)).map fun (kv : P × P) => kv.2)
    | none => none) := by
    cases kvs with
    | nil => rfl
    | cons a r => obtain ⟨a1, a2⟩ := a; cases a1 <;> rfl
  rw [h, keyOf_ofKey]
  simp only
  congr 1
  unfold getA
  rw [find_map']
  congr 1
  congr 1
  funext kv
  simp only [keyOf_ofKey, Option.some.injEq]
theorem putA_len {κ α : Type} [DecidableEq κ] (kvs : List (κ × α)) (k : κ) (v : α) : (putA kvs k v).length ≤ kvs.length + 1 := by
  unfold putA
  split
  · rw [List.length_map]; omega
  · simp
theorem putA_mem {κ α : Type} [DecidableEq κ] {kvs : List (κ × α)} {k : κ} {v : α} {kv : κ × α} (h : kv ∈ putA kvs k v) : kv ∈ kvs ∨ kv = (k, v) := by
  unfold putA at h
  split at h
  · obtain ⟨x, hx, rfl⟩ := List.mem_map.mp h
    split
    · next e => right; rw [e]
    · exact Or.inl hx
  · rcases List.mem_append.mp h with h | h
    · exact Or.inl h
    · right; simpa using h
theorem getA_mem {κ α : Type} [DecidableEq κ] {kvs : List (κ × α)} {k : κ} {v : α} (h : getA kvs k = some v) : (k, v) ∈ kvs := by
  unfold getA at h
  obtain ⟨x, h1, rfl⟩ := Option.map_eq_some_iff.mp h
  have h2 := List.find?_some h1
  have h3 : x.1 = k := of_decide_eq_true h2
  rw [← h3]
  exact List.mem_of_find?_eq_some h1
theorem getA_none {κ α : Type} [DecidableEq κ] {kvs : List (κ × α)} {k : κ} (h : getA kvs k = none) : ∀ kv ∈ kvs, kv.1 ≠ k := fun kv hkv e => by
  unfold getA at h
  rw [Option.map_eq_none_iff, List.find?_eq_none] at h
  exact h kv hkv (by simp [e])
def nmsT (tr : List (Str × Option Str)) : List Str := tr.map (·.1)
structure TreeP (tr : List (Str × Option Str)) (late : List Str) : Prop where
  nd : (nmsT tr).Nodup
  w : ∀ x ∈ tr, IsW x.1
  up : ∀ (i : Nat) (n : Str) (e : Str), tr[i]? = some (n, some e) → e ∈ nmsT (tr.take i)
  lsub : late.Sublist (nmsT tr)
  llen : late.length ≤ 6
  ldown : ∀ n e, (n, some e) ∈ tr → e ∈ late → n ∈ late
  first : ∀ x, tr[0]? = some x → x.1 ∉ late
theorem TreeP.nil : TreeP [] [] := ⟨List.nodup_nil, (fun _ h => by cases h), (fun _ _ _ h => by simp at h), List.Sublist.slnil, by simp, (fun _ _ h => by cases h), (fun _ h => by simp at h)⟩
theorem nmsT_snoc (tr : List (Str × Option Str)) (n : Str) (e : Option Str) : nmsT (tr ++ [(n, e)]) = nmsT tr ++ [n] := by unfold nmsT; simp
/-- the next kind -/
theorem TreeP.snoc {tr : List (Str × Option Str)} {late : List Str} (h : TreeP tr late) {n : Str} {el : Option Str} (hw : IsW n) (hn : n ∉ nmsT tr) (he : ∀ e, el = some e → e ∈ nmsT tr) (b : Bool)
    (h1 : b = true → late.length < 6 ∧ tr ≠ []) (h2 : b = false → ∀ e, el = some e → e ∉ late) : TreeP (tr ++ [(n, el)]) (if b = true then late ++ [n] else late) := by
  have hl : n ∉ late := fun c => hn (h.lsub.subset c)
  refine ⟨?_, fun x hx => ?_, fun i n' e' hi => ?_, ?_, ?_, fun n' e' hm hlt => ?_, fun x hx => ?_⟩
  · rw [nmsT_snoc, List.nodup_append]
    exact ⟨h.nd, by simp, fun a ha b hb e => by simp at hb; subst hb e; exact hn ha⟩
  · rcases List.mem_append.mp hx with hx | hx
    · exact h.w x hx
    · simp at hx; subst hx; exact hw
  · by_cases hi2 : i < tr.length
    · rw [List.getElem?_append_left hi2] at hi
      rw [List.take_append_of_le_length (by omega)]
      exact h.up i n' e' hi
    · rw [List.getElem?_append_right (by omega)] at hi
      have hi3 : i - tr.length < 1 := by have := (List.getElem?_eq_some_iff.mp hi).1; simpa using this
      have hi4 : i = tr.length := by omega
      subst hi4
      simp at hi
      obtain ⟨rfl, rfl⟩ := hi
      rw [List.take_append_of_le_length (by omega), List.take_length]
      exact he _ rfl
  · rw [nmsT_snoc]
    cases b with
    | true => exact List.Sublist.append h.lsub (List.Sublist.refl _)
    | false => exact h.lsub.trans (List.sublist_append_left _ _)
  · cases b with
    | true => have := (h1 rfl).1; simp; omega
    | false => exact h.llen
  · rcases List.mem_append.mp hm with hm | hm
    · have he' : e' ∈ nmsT tr := by
        obtain ⟨i, hi⟩ := List.mem_iff_getElem?.mp hm
        have := h.up i n' e' hi
        unfold nmsT at this ⊢
        rw [List.map_take] at this
        exact List.mem_of_mem_take this
      have : e' ∈ late := by
        cases b with
        | true =>
          rcases List.mem_append.mp hlt with c | c
          · exact c
          · simp at c; subst c; exact absurd he' hn
        | false => exact hlt
      have := h.ldown n' e' hm this
      cases b with
      | true => exact List.mem_append_left _ this
      | false => exact this
    · simp at hm
      obtain ⟨rfl, rfl⟩ := hm
      cases b with
      | true => simp
      | false => exact absurd hlt (h2 rfl _ rfl)
  · cases tr with
    | nil =>
      simp at hx; subst hx
      cases b with
      | true => exact absurd rfl (h1 rfl).2
      | false => exact hl
    | cons a r =>
      simp at hx; subst hx
      have h3 := h.first a rfl
      cases b with
      | true =>
        intro c
        rcases List.mem_append.mp c with c | c
        · exact h3 c
        · simp at c
          exact hn (by unfold nmsT; rw [← c]; simp)
      | false => exact h3
end Mn
open PySem
namespace Mn
def F_law_tree (ix : Ix) : Fn := ⟨(Str.ofString "_law_tree"), 1, [(Str.ofString "_law_hand_here"), (Str.ofString "_law_many"), (Str.ofString "_law_names"), (Str.ofString "_law_way"), (Str.ofString "_law_tree_here"), (Str.ofString "_law_late"), (Str.ofString "_law_k"), (Str.ofString "_law_name"), (Str.ofString "_law_elder")], (.cons (.asg (.nm 1) (.call ix.l_of (.cons (.pl 0) (.cons (.lst (.cons (.ki 1) (.cons (.ki 2) (.cons (.ki 3) (.cons (.ki 4) (.cons (.ki 5) (.cons (.ki 6) (.cons (.ki 8) (.cons (.ki 12) .nil))))))))) .nil)))) (.cons (.asg (.nm 2) (.call ix.l_words (.cons (.pl 0) (.cons (.pl 1) .nil)))) (.cons (.asg (.nm 3) (.call ix.l_take (.cons (.pl 0) (.cons (.ki 4) .nil)))) (.cons (.asg (.nm 4) (.lst .nil)) (.cons (.asg (.nm 5) (.lst .nil)) (.cons (.fr (.tp [(.nm 6), (.nm 7)]) (.en (.tk 2)) (.cons (.asg (.nm 8) .kn) (.cons (.ifs (.ban (.cmp .gt (.pl 6) (.ki 0)) (.cmp .gt (.call ix.l_take (.cons (.pl 0) (.cons (.ki 6) .nil))) (.ki 0))) (.cons (.asg (.nm 8) (.sub (.pl 2) (.sub (.lst (.cons (.bin .sub (.pl 6) (.ki 1)) (.cons (.ki 0) (.cons (.bin .div (.bin .sub (.pl 6) (.ki 1)) (.ki 2)) (.cons (.call ix.l_take (.cons (.pl 0) (.cons (.pl 6) .nil))) .nil))))) (.tk 3)))) .nil) .nil) (.cons (.ifs (.ban (.cmp .inn (.pl 8) (.pl 5)) (.cmp .eq (.bi .len (.cons (.pl 5) .nil)) (.ki 6))) (.cons (.asg (.nm 8) .kn) .nil) .nil) (.cons (.ifs (.bor (.cmp .inn (.pl 8) (.pl 5)) (.ban (.cmp .lt (.bi .len (.cons (.pl 5) .nil)) (.ki 6)) (.ban (.cmp .gt (.pl 6) (.ki 0)) (.cmp .eq (.call ix.l_take (.cons (.pl 0) (.cons (.ki 4) .nil))) (.ki 0))))) (.cons (.app 5 (.tk 7)) .nil) .nil) (.cons (.app 4 (.tup (.cons (.tk 7) (.cons (.tk 8) .nil)))) .nil)))))) (.cons (.ret (.tup (.cons (.tk 4) (.cons (.tk 5) .nil)))) .nil)))))))⟩
theorem bindT2 {X : Cxt} {i j : Nat} {p q : P} {ρ : Env} (h1 : isLk (slot ρ i) = false) (h2 : pmAt X i = false) (h3 : i < ρ.length) (k1 : isLk (slot (ρ.set i (some (.v p))) j) = false) (k2 : pmAt X j = false) (k3 : j < ρ.length) : bindT X (.tp [.nm i, .nm j]) (.tuple [p, q]) ρ = some ((ρ.set i (some (.v p))).set j (some (.v q))) := by
  unfold bindT bindTs bindTs bindTs bindT
  rw [sto_go h1 h2 h3]
  simp only
  rw [sto_go k1 k2 (by rw [List.length_set]; exact k3)]
theorem subLL {l : List P} {r : Int} {c : P} (h0 : 0 ≤ r) (h : l[r.toNat]? = some c) : subM (.v (.list l)) (.v (.int r)) = some (.v c) := subL h0 h
theorem eqv_int (a b : Int) : PyData.eqv (.int a) (.int b) = decide (a = b) := by
  unfold PyData.eqv
  by_cases h : a = b
  · rw [decide_eq_true h]; simp [h]
  · rw [decide_eq_false h]; simp [h]
def SpTree (C : FnC) (i : Nat) : Prop := ∀ (t d : Int) (h : M), Hd t d h → t + 200 ≤ LT → ∃ (tr : List (Str × Option Str)) (late : List Str) (h' : M), C i [h] = some (.v (.tuple [.list (tr.map trP), .list (late.map PyData.str)]), [h']) ∧ TreeP tr late ∧ 0 < tr.length ∧ tr.length ≤ 12 ∧ Hd (t + 60) d h'
theorem mem_ints {l : List Int} {p : P} (h : p ∈ l.map PyData.int) : ∃ i ∈ l, p = .int i := by
  obtain ⟨i, h1, h2⟩ := List.mem_map.mp h
  exact ⟨i, h1, h2.symm⟩
theorem tree_ok (ix : Ix) (T : Tab) (C : FnC) (hT : SpTake C ix.l_take) (hO : SpOf C ix.l_of) (hW : SpWords C ix.l_words) : ∀ (t d : Int) (h : M), Hd t d h → t + 200 ≤ LT → ∃ (tr : List (Str × Option Str)) (late : List Str) (h' : M), runF T C (F_law_tree ix) [h] = some (.v (.tuple [.list (tr.map trP), .list (late.map PyData.str)]), [h']) ∧ TreeP tr late ∧ 0 < tr.length ∧ tr.length ≤ 12 ∧ Hd (t + 60) d h' := by
  intro t d h hd hLT
  have hL : LT = 500000 := rfl
  obtain ⟨a, b, c, e, hb, hc, ht⟩ := hd
  subst e
  have hd : Hd t d (.l [.int a, .int b, .int c, .int d]) := ⟨a, b, c, rfl, hb, hc, ht⟩
  have key : ∃ r ms, runF T C (F_law_tree ix) [.l [.int a, .int b, .int c, .int d]] = some (r, ms) ∧ ∃ (tr : List (Str × Option Str)) (late : List Str) (h' : M), r = .v (.tuple [.list (tr.map trP), .list (late.map PyData.str)]) ∧ ms = [h'] ∧ TreeP tr late ∧ 0 < tr.length ∧ tr.length ≤ 12 ∧ Hd (t + 60) d h' := by
    apply run_of rfl
    unfold F_law_tree
    show WSS _ _ [some _, none, none, none, none, none, none, none, none] _ _
    dsimp only
    (try walk_at "mn"); repeat walk_at "mS"
    obtain ⟨p1, h1, e1, k1, hd1⟩ := hO t d _ (.l ([1, 2, 3, 4, 5, 6, 8, 12].map PyData.int)) ([1, 2, 3, 4, 5, 6, 8, 12].map PyData.int) hd (by omega) (Or.inl rfl) (show 0 < 8 by omega) (show 8 < 1000000 by omega)
    refine ⟨_, _, e1, ?_⟩
    obtain ⟨i1, k2, rfl⟩ := mem_ints (l := [1, 2, 3, 4, 5, 6, 8, 12]) k1
    have k3 : ∃ n : Nat, 0 < n ∧ n ≤ 12 ∧ i1 = n := ⟨i1.toNat, by simp at k2; omega, by simp at k2; omega, by simp at k2; omega⟩
    obtain ⟨n, n0, n12, rfl⟩ := k3
    (try walk_at "mn"); repeat walk_at "mS"
    obtain ⟨ws, h2, e2, ⟨zs, rfl, z1, z2, z3⟩, hd2⟩ := hW _ d _ n hd1 (by omega) (by omega)
    refine ⟨_, _, e2, ?_⟩
    (try walk_at "mn"); repeat walk_at "mS"
    obtain ⟨way, h3, e3, w1, w2, hd3⟩ := hT _ d _ 4 hd2 (by omega) (by omega)
    refine ⟨_, _, e3, ?_⟩
    (try walk_at "mn"); repeat walk_at "mS"
    refine ws_fr (fun j ρ => ∃ (h' : M) (tr : List (Str × Option Str)) (late : List Str) (o1 o2 o3 : Option M), ρ = [some h', some (.v (.int n)), some (.v (.list (zs.map PyData.str))), some (.v (.int way)), some (.l (tr.map trP)), some (.l (late.map PyData.str)), o1, o2, o3] ∧ isLk o1 = false ∧ isLk o2 = false ∧ isLk o3 = false ∧ nmsT tr = zs.take j ∧ tr.length = j ∧ TreeP tr late ∧ Hd (t + 12 + 3 * j) d h') rfl ?_
    refine wi_en ?_
    (try walk_at "mn"); repeat walk_at "mS"
    refine ⟨⟨_, [], [], none, none, none, rfl, rfl, rfl, rfl, rfl, rfl, TreeP.nil, hd3.mono (by omega)⟩, fun j p ρ2 hp hI => ?_, fun ρ2 hI => ?_⟩
    · obtain ⟨x, hx, rfl⟩ := enumP_gt hp
      rw [List.getElem?_map] at hx
      obtain ⟨nm, hnm, rfl⟩ := Option.map_eq_some_iff.mp hx
      obtain ⟨h4, tr, late, o1, o2, o3, rfl, u1, u2, u3, htr, hlen, hTP, hd4⟩ := hI
      have hj : j < n := by have := (List.getElem?_eq_some_iff.mp hnm).1; omega
      have hnmem : nm ∈ zs := List.mem_of_getElem? hnm
      have hnew : nm ∉ nmsT tr := by
        rw [htr]
        intro c
        obtain ⟨i, hi⟩ := List.mem_iff_getElem?.mp c
        have hi2 : i < j := by
          have := (List.getElem?_eq_some_iff.mp hi).1
          rw [List.length_take] at this; omega
        rw [List.getElem?_take_of_lt hi2] at hi
        have hi3 := (List.getElem?_eq_some_iff.mp hi).1
        have := (List.getElem?_inj hi3 z2).mp (hi.trans hnm.symm)
        omega
      refine ⟨_, bindT2 u1 rfl (Nat.le_of_ble_eq_true rfl) u2 rfl (Nat.le_of_ble_eq_true rfl), ?_⟩
      dsimp only [List.set]
      refine wss_cons (ws_asg (we_kn ⟨_, sto_go u3 rfl (Nat.le_of_ble_eq_true rfl), ?_⟩))
      (try walk_at "mn"); repeat walk_at "mC"
      refine ws_cut (fun ρ => ∃ (h' : M) (el : Option Str), ρ = [some h', some (.v (.int n)), some (.v (.list (zs.map PyData.str))), some (.v (.int way)), some (.l (tr.map trP)), some (.l (late.map PyData.str)), some (.v (.int j)), some (.v (.str nm)), some (.v (optP el))] ∧ Hd (t + 14 + 3 * j) d h' ∧ ∀ e, el = some e → e ∈ nmsT tr) ?_ ?_
      · (try walk_at "mn"); repeat walk_at "mS"
        refine ⟨fun hj0 => ?_, fun _ => ?_⟩
        · (try walk_at "mn"); repeat walk_at "mS"
          obtain ⟨r5, h5, e5, k5, k6, hd5⟩ := hT _ d _ 6 hd4 (by omega) (by omega)
          refine ⟨_, _, e5, ?_⟩
          (try walk_at "mn"); repeat walk_at "mS"
          refine ⟨fun _ => ?_, fun _ => ?_⟩
          · (try walk_at "mn"); repeat walk_at "mS"
            have hj0' : (0 : Int) < j := of_decide_eq_true hj0
            obtain ⟨r6, h6, e6, k7, k8, hd6⟩ := hT _ d _ (j : Int) hd5 (by omega) ⟨hj0', by omega⟩
            refine ⟨_, _, e6, ?_⟩
            (try walk_at "mn"); repeat walk_at "mN"
            have hv : ∃ v : Nat, [PyData.int ((j : Int) - 1), .int 0, .int (((j : Int) - 1) / 2), .int r6][way.toNat]? = some (.int (v : Int)) ∧ v < j := by
              have h4 : way = 0 ∨ way = 1 ∨ way = 2 ∨ way = 3 := by omega
              rcases h4 with rfl | rfl | rfl | rfl
              · exact ⟨j - 1, by show some _ = _; congr 2; omega, by omega⟩
              · exact ⟨0, rfl, by omega⟩
              · exact ⟨(((j : Int) - 1) / 2).toNat, by show some _ = _; congr 2; omega, by omega⟩
              · exact ⟨r6.toNat, by show some _ = _; congr 2; omega, by omega⟩
            obtain ⟨v, hv1, hv2⟩ := hv
            refine lf_sub rfl (subL w1 hv1) ?_
            have hz : ∃ z, zs[v]? = some z := ⟨_, List.getElem?_eq_getElem (by omega)⟩
            obtain ⟨z, hz⟩ := hz
            refine lf_sub rfl (subLL (c := .str z) (by omega) (by rw [List.getElem?_map, show ((v : Int)).toNat = v by omega, hz]; rfl)) ?_
            (try walk_at "mn"); repeat walk_at "mS"
            refine ⟨_, some z, rfl, hd6.mono (by omega), fun e he => ?_⟩
            cases he
            rw [htr]
            refine List.mem_of_getElem? (i := v) ?_
            rw [List.getElem?_take_of_lt hv2, hz]
          · (try walk_at "mn"); repeat walk_at "mS"
            exact ⟨_, none, rfl, hd5.mono (by omega), fun e he => (by cases he)⟩
        · (try walk_at "mn"); repeat walk_at "mS"
          exact ⟨_, none, rfl, hd4.mono (by omega), fun e he => (by cases he)⟩
      rintro _ ⟨h5, el, rfl, hd5, hel⟩
      (try walk_at "mn"); repeat walk_at "mC"
      refine ws_cut (fun ρ => ∃ (el : Option Str), ρ = [some h5, some (.v (.int n)), some (.v (.list (zs.map PyData.str))), some (.v (.int way)), some (.l (tr.map trP)), some (.l (late.map PyData.str)), some (.v (.int j)), some (.v (.str nm)), some (.v (optP el))] ∧ (∀ e, el = some e → e ∈ nmsT tr) ∧ ∀ e, el = some e → e ∈ late → late.length < 6) ?_ ?_
      · (try walk_at "mn"); repeat walk_at "mN"
        refine lf_cmp rfl rfl (inn_opt _ _) ?_
        (try walk_at "mn"); repeat walk_at "mS"
        refine ⟨fun hin => ?_, fun hin => ?_⟩
        · (try walk_at "mn"); repeat walk_at "mS"
          refine ⟨fun h6 => ?_, fun h6 => ?_⟩
          · (try walk_at "mn"); repeat walk_at "mS"
            exact ⟨none, rfl, fun e he => (by cases he), fun e he => (by cases he)⟩
          · (try walk_at "mn"); repeat walk_at "mS"
            refine ⟨hel, fun e _ _ => ?_⟩
            rw [eqv_int] at h6
            have h7 := of_decide_eq_false h6
            rw [List.length_map] at h7
            have := hTP.llen
            omega
        · (try walk_at "mn"); repeat walk_at "mS"
          refine ⟨hel, fun e he hl => ?_⟩
          exact absurd ⟨e, he, hl⟩ (of_decide_eq_false hin)
      rintro _ ⟨el, rfl, hel, hl6⟩
      (try walk_at "mn"); repeat walk_at "mC"
      refine ws_cut (fun ρ => ∃ (h' : M) (b : Bool), ρ = [some h', some (.v (.int n)), some (.v (.list (zs.map PyData.str))), some (.v (.int way)), some (.l (tr.map trP)), some (.l ((if b = true then late ++ [nm] else late).map PyData.str)), some (.v (.int j)), some (.v (.str nm)), some (.v (optP el))] ∧ Hd (t + 15 + 3 * j) d h' ∧ (b = true → late.length < 6 ∧ tr ≠ []) ∧ (b = false → ∀ e, el = some e → e ∉ late)) ?_ ?_
      · have hb1 : ∀ h', Hd (t + 15 + 3 * j) d h' → late.length < 6 → tr ≠ [] → ∃ (h'' : M) (b : Bool), [some h', some (.v (.int n)), some (.v (.list (zs.map PyData.str))), some (.v (.int way)), some (.l (tr.map trP)), some (.l (late.map PyData.str ++ [.str nm])), some (.v (.int j)), some (.v (.str nm)), some (.v (optP el))] = [some h'', some (.v (.int n)), some (.v (.list (zs.map PyData.str))), some (.v (.int way)), some (.l (tr.map trP)), some (.l ((if b = true then late ++ [nm] else late).map PyData.str)), some (.v (.int j)), some (.v (.str nm)), some (.v (optP el))] ∧ Hd (t + 15 + 3 * j) d h'' ∧ (b = true → late.length < 6 ∧ tr ≠ []) ∧ (b = false → ∀ e, el = some e → e ∉ late) := fun h' k1 k2 k3 => ⟨h', true, by simp, k1, fun _ => ⟨k2, k3⟩, fun h => (by cases h)⟩
        (try walk_at "mn"); repeat walk_at "mN"
        refine lf_cmp rfl rfl (inn_opt _ _) ?_
        (try walk_at "mn"); repeat walk_at "mS"
        refine ⟨fun hin => ?_, fun hin => ?_⟩
        · have hin' := of_decide_eq_true hin
          obtain ⟨s, hs1, hs2⟩ := hin'
          (try walk_at "mn"); repeat walk_at "mS"
          refine lf_app rfl rfl (by rw [List.length_map]; have := hTP.llen; show _ < 1000000; omega) ?_
          (try walk_at "mn"); repeat walk_at "mS"
          refine hb1 _ (hd5.mono (by omega)) (hl6 s hs1 hs2) (fun c => ?_)
          have := hel s hs1
          rw [c] at this; cases this
        · have hin' : ∀ e, el = some e → e ∉ late := fun e he c => of_decide_eq_false hin ⟨e, he, c⟩
          (try walk_at "mn"); repeat walk_at "mS"
          refine ⟨fun h6 => ?_, fun h6 => ?_⟩
          · (try walk_at "mn"); repeat walk_at "mS"
            refine ⟨fun h7 => ?_, fun h7 => ?_⟩
            · (try walk_at "mn"); repeat walk_at "mS"
              obtain ⟨r6, h6', e6, k7, k8, hd6⟩ := hT _ d _ 4 hd5 (by omega) (by omega)
              refine ⟨_, _, e6, ?_⟩
              (try walk_at "mn"); repeat walk_at "mS"
              refine ⟨fun h8 => ?_, fun h8 => ?_⟩
              · (try walk_at "mn"); repeat walk_at "mS"
                refine lf_app rfl rfl (by rw [List.length_map]; have := hTP.llen; show _ < 1000000; omega) ?_
                (try walk_at "mn"); repeat walk_at "mS"
                have h6'' := of_decide_eq_true h6
                have h7' := of_decide_eq_true h7
                rw [List.length_map] at h6''
                refine hb1 _ (hd6.mono (by omega)) (by omega) (fun c => ?_)
                rw [c] at hlen
                simp at hlen
                omega
              · (try walk_at "mn"); repeat walk_at "mS"
                exact ⟨_, false, rfl, hd6.mono (by omega), fun h => (by cases h), fun _ => hin'⟩
            · (try walk_at "mn"); repeat walk_at "mS"
              exact ⟨_, false, rfl, hd5.mono (by omega), fun h => (by cases h), fun _ => hin'⟩
          · (try walk_at "mn"); repeat walk_at "mS"
            exact ⟨_, false, rfl, hd5.mono (by omega), fun h => (by cases h), fun _ => hin'⟩
      rintro _ ⟨h6, bb, rfl, hd6, hb1, hb2⟩
      (try walk_at "mn"); repeat walk_at "mS"
      refine lf_app rfl rfl (by rw [List.length_map]; show _ < 1000000; omega) ?_
      dsimp only [List.set]
      (try walk_at "mn"); repeat walk_at "mS"
      refine ⟨_, tr ++ [(nm, el)], _, some (.v (.int j)), some (.v (.str nm)), some (.v (optP el)), ?_, rfl, rfl, rfl, ?_, ?_, hTP.snoc (z3 _ hnmem) hnew hel bb hb1 hb2, hd6.mono (by omega)⟩
      · rw [List.map_append]; rfl
      · rw [nmsT_snoc, htr, List.take_succ, hnm]; rfl
      · rw [List.length_append, hlen]; rfl
    · rw [enumP_ln, List.length_map] at hI
      obtain ⟨h4, tr, late, o1, o2, o3, rfl, u1, u2, u3, htr, hlen, hTP, hd4⟩ := hI
      try dsimp only [unl]
      (try walk_at "mn"); repeat walk_at "mS"
      exact ⟨tr, late, h4, rfl, rfl, hTP, by omega, by omega, hd4.mono (by omega)⟩
  obtain ⟨r, ms, e, tr, late, h', rfl, rfl, q1, q2, q3, q4⟩ := key
  exact ⟨_, _, _, e, q1, q2, q3, q4⟩
end Mn
open PySem
namespace Mn
/-- a world -/
structure Wd where
  tr : List (Str × Option Str)
  late : List Str
  deeds : List Str
  wantT : List (List Key × P)
  ownT : List (Key × P)
  rootT : List (Key × P)
  vars : List Str
  params : List Str
  fields : List Str
  ow : Bool
abbrev sT : Str := Str.ofString "tree"
def wdKV (w : Wd) (told held : List (Key × P)) : List (Key × M) :=
  [(.inr (Str.ofString "tree"), .v (.list (w.tr.map trP))), (.inr (Str.ofString "late"), .v (.list (w.late.map PyData.str))), (.inr (Str.ofString "deeds"), .v (.list (w.deeds.map PyData.str))),
   (.inr (Str.ofString "wants"), .v (frzT w.wantT)), (.inr (Str.ofString "owners"), .v (frzD w.ownT)), (.inr (Str.ofString "vars"), .v (.list (w.vars.map PyData.str))),
   (.inr (Str.ofString "params"), .v (.list (w.params.map PyData.str))), (.inr (Str.ofString "fields"), .v (.list (w.fields.map PyData.str))), (.inr (Str.ofString "told"), .d told), (.inr (Str.ofString "held"), .d held), (.inr (Str.ofString "roots"), .v (frzD w.rootT))]
def wdM (w : Wd) (told held : List (Key × P)) : M := .n (wdKV w told held)
section
variable (w : Wd) (a b : List (Key × P))
theorem wd_tree : subM (wdM w a b) (.v (.str (Str.ofString "tree"))) = some (.v (.list (w.tr.map trP))) := rfl
theorem wd_late : subM (wdM w a b) (.v (.str (Str.ofString "late"))) = some (.v (.list (w.late.map PyData.str))) := rfl
theorem wd_deeds : subM (wdM w a b) (.v (.str (Str.ofString "deeds"))) = some (.v (.list (w.deeds.map PyData.str))) := rfl
theorem wd_wants : subM (wdM w a b) (.v (.str (Str.ofString "wants"))) = some (.v (frzT w.wantT)) := rfl
theorem wd_owners : subM (wdM w a b) (.v (.str (Str.ofString "owners"))) = some (.v (frzD w.ownT)) := rfl
theorem wd_vars : subM (wdM w a b) (.v (.str (Str.ofString "vars"))) = some (.v (.list (w.vars.map PyData.str))) := rfl
theorem wd_params : subM (wdM w a b) (.v (.str (Str.ofString "params"))) = some (.v (.list (w.params.map PyData.str))) := rfl
theorem wd_fields : subM (wdM w a b) (.v (.str (Str.ofString "fields"))) = some (.v (.list (w.fields.map PyData.str))) := rfl
theorem wd_roots : subM (wdM w a b) (.v (.str (Str.ofString "roots"))) = some (.v (frzD w.rootT)) := rfl
theorem wd_told : field (wdM w a b) (Str.ofString "told") = some (.d a) := rfl
theorem wd_held : field (wdM w a b) (Str.ofString "held") = some (.d b) := rfl
theorem wd_putTold (c : List (Key × P)) : M.n (putA (wdKV w a b) (.inr (Str.ofString "told")) (.d c)) = wdM w c b := rfl
theorem wd_putHeld (c : List (Key × P)) : M.n (putA (wdKV w a b) (.inr (Str.ofString "held")) (.d c)) = wdM w a c := rfl
end
def rootS (kvs : List (Key × P)) (x : Str × Option Str) : List (Key × P) := putA kvs (.inr x.1) (match x.2 with
  | none => .str x.1
  | some e => (getA kvs (.inr e)).getD (.str x.1))
def rootsF (tr : List (Str × Option Str)) : List (Key × P) := tr.foldl rootS []
theorem rootsF_snoc (tr : List (Str × Option Str)) (x : Str × Option Str) : rootsF (tr ++ [x]) = rootS (rootsF tr) x := by unfold rootsF; rw [List.foldl_append]; rfl
structure RootP (tr : List (Str × Option Str)) (kvs : List (Key × P)) : Prop where
  at_ : ∀ n ∈ nmsT tr, ∃ r, r ∈ nmsT tr ∧ getA kvs (.inr n) = some (.str r)
  str : ∀ kv ∈ kvs, ∃ r, kv.2 = .str r
  up : ∀ n e, (n, some e) ∈ tr → getA kvs (.inr n) = getA kvs (.inr e)
  len : kvs.length ≤ tr.length
theorem up_take {tr : List (Str × Option Str)} {late : List Str} (h : TreeP tr late) {j : Nat} {n e : Str} (hm : (n, some e) ∈ tr.take j) : e ∈ nmsT (tr.take j) := by
  obtain ⟨i, hi⟩ := List.mem_iff_getElem?.mp hm
  have hij : i < j := by
    have := (List.getElem?_eq_some_iff.mp hi).1
    rw [List.length_take] at this; omega
  rw [List.getElem?_take_of_lt hij] at hi
  have h1 := h.up i n e hi
  unfold nmsT at h1 ⊢
  obtain ⟨x, hx, rfl⟩ := List.mem_map.mp h1
  refine List.mem_map_of_mem ?_
  have : tr.take i = (tr.take j).take i := by rw [List.take_take, Nat.min_eq_left (by omega)]
  rw [this] at hx
  exact List.mem_of_mem_take hx
theorem roots_ok {tr : List (Str × Option Str)} {late : List Str} (h : TreeP tr late) : ∀ j, RootP (tr.take j) (rootsF (tr.take j)) := by
  intro j
  induction j with
  | zero => exact ⟨fun n hn => by (simp [nmsT] at hn), fun kv hk => by (simp [rootsF] at hk), fun n e hn => by (simp at hn), by simp [rootsF]⟩
  | succ j ih =>
    rw [List.take_succ]
    cases hx : tr[j]? with
    | none => simpa using ih
    | some x =>
      obtain ⟨n, el⟩ := x
      show RootP (tr.take j ++ [(n, el)]) (rootsF (tr.take j ++ [(n, el)]))
      rw [rootsF_snoc]
      have hjl := (List.getElem?_eq_some_iff.mp hx).1
      have hnew : n ∉ nmsT (tr.take j) := fun c => by
        have hnd := h.nd
        unfold nmsT at c hnd
        rw [List.map_take] at c
        obtain ⟨i, hi⟩ := List.mem_iff_getElem?.mp c
        have hij : i < j := by
          have := (List.getElem?_eq_some_iff.mp hi).1
          rw [List.length_take] at this; omega
        rw [List.getElem?_take_of_lt hij] at hi
        have h2 : (tr.map (·.1))[j]? = some n := by rw [List.getElem?_map, hx]; rfl
        have := (List.getElem?_inj (by rw [List.length_map]; omega) hnd).mp (hi.trans h2.symm)
        omega
      have hv : ∃ r, r ∈ nmsT (tr.take j) ++ [n] ∧ (match el with
          | none => PyData.str n
          | some e => (getA (rootsF (tr.take j)) (.inr e)).getD (.str n)) = .str r ∧ ∀ e, el = some e → getA (rootsF (tr.take j)) (.inr e) = some (.str r) := by
        cases el with
        | none => exact ⟨n, by simp, rfl, fun e he => by (cases he)⟩
        | some e =>
          obtain ⟨r, h1, h2⟩ := ih.at_ e (h.up j n e hx)
          exact ⟨r, List.mem_append_left _ h1, by simp only [h2, Option.getD_some], fun e' he => by cases he; exact h2⟩
      obtain ⟨r, hr1, hr2, hr3⟩ := hv
      have hne : ∀ m ∈ nmsT (tr.take j), (Sum.inr m : Key) ≠ .inr n := fun m hm c => by cases c; exact hnew hm
      unfold rootS
      simp only
      rw [hr2]
      refine ⟨fun m hm => ?_, fun kv hk => ?_, fun m e hm => ?_, ?_⟩
      · rw [nmsT_snoc] at hm ⊢
        rw [getA_put]
        rcases List.mem_append.mp hm with hm | hm
        · rw [if_neg (hne m hm)]
          obtain ⟨r', h1, h2⟩ := ih.at_ m hm
          exact ⟨r', List.mem_append_left _ h1, h2⟩
        · simp at hm; subst hm
          rw [if_pos rfl]
          exact ⟨r, hr1, rfl⟩
      · rcases putA_mem hk with hk | hk
        · exact ih.str kv hk
        · subst hk; exact ⟨r, rfl⟩
      · rw [getA_put, getA_put]
        rcases List.mem_append.mp hm with hm | hm
        · have h1 : m ∈ nmsT (tr.take j) := List.mem_map.mpr ⟨_, hm, rfl⟩
          rw [if_neg (hne m h1), if_neg (hne e (up_take h hm))]
          exact ih.up m e hm
        · simp at hm
          obtain ⟨rfl, rfl⟩ := hm
          rw [if_pos rfl, if_neg (hne e (h.up j m e hx)), hr3 e rfl]
      · have := putA_len (rootsF (tr.take j)) (.inr n) (.str r)
        have := ih.len
        rw [List.length_append]
        simp only [List.length_singleton]
        omega
theorem merge_keys {κ α : Type} [DecidableEq κ] : ∀ (kvs acc : List (κ × α)), (∀ k, (k ∈ (mergeA acc kvs).map (·.1)) ↔ (k ∈ acc.map (·.1) ∨ k ∈ kvs.map (·.1))) ∧ (mergeA acc kvs).length ≤ acc.length + kvs.length
  | [], acc => ⟨fun k => by show k ∈ acc.map _ ↔ _; simp, by show acc.length ≤ _; simp⟩
  | (k0, v0) :: r, acc => by
    obtain ⟨h1, h2⟩ := merge_keys r (putA acc k0 v0)
    have h3 : ∀ k, k ∈ (putA acc k0 v0).map (·.1) ↔ (k = k0 ∨ k ∈ acc.map (·.1)) := by
      intro k
      unfold putA
      split
      · next c =>
        have e : (acc.map fun kv => if kv.1 = k0 then (kv.1, v0) else kv).map (·.1) = acc.map (·.1) := by
          rw [List.map_map]
          refine List.map_congr_left fun kv _ => ?_
          show (if kv.1 = k0 then (kv.1, v0) else kv).1 = kv.1
          split <;> rfl
        rw [e]
        obtain ⟨x, hx, hx2⟩ := List.any_eq_true.mp c
        have : k0 ∈ acc.map (·.1) := List.mem_map.mpr ⟨x, hx, of_decide_eq_true hx2⟩
        exact ⟨Or.inr, fun h => h.elim (fun e => e ▸ this) id⟩
      · simp [or_comm]
    refine ⟨fun k => ?_, ?_⟩
    · show k ∈ (mergeA (putA acc k0 v0) r).map _ ↔ _
      rw [h1 k, h3 k, List.map_cons, List.mem_cons]
      constructor
      · rintro ((h | h) | h)
        · exact Or.inr (Or.inl h)
        · exact Or.inl h
        · exact Or.inr (Or.inr h)
      · rintro (h | h | h)
        · exact Or.inl (Or.inr h)
        · exact Or.inl (Or.inl h)
        · exact Or.inr h
    · have := putA_len acc k0 v0
      show (mergeA (putA acc k0 v0) r).length ≤ _
      rw [List.length_cons]
      omega
theorem pairs_true : ∀ (rs : List Str), pairsK (rs.map fun r => PyData.tuple [.str r, .bool true]) = some (rs.map fun r => (.inr r, .bool true))
  | [] => rfl
  | r :: rs => by
    rw [List.map_cons]
    unfold pairsK
    rw [pairs_true rs]
    rfl
theorem itemsD (kvs : List (Key × P)) : itemsM (.d kvs) = some (kvs.map fun kv => ofKey kv.1) := by
  show itemsP (frzD kvs) = _
  unfold frzD
  cases kvs with
  | nil => rfl
  | cons a r =>
    obtain ⟨k, v⟩ := a
    cases k <;> (show some _ = some _; simp [ofKey, List.map_map, Function.comp_def])
theorem uniq_strs (rs : List Str) : ∃ us : List Str, ((mergeA [] (rs.map fun r => ((.inr r : Key), PyData.bool true))).map fun kv => ofKey kv.1) = us.map PyData.str ∧ (∀ r, r ∈ us ↔ r ∈ rs) ∧ us.length ≤ rs.length := by
  obtain ⟨h1, h2⟩ := merge_keys (rs.map fun r => ((.inr r : Key), PyData.bool true)) []
  have h3 : ∀ k ∈ (mergeA [] (rs.map fun r => ((.inr r : Key), PyData.bool true))).map (·.1), ∃ r ∈ rs, k = .inr r := fun k hk => by
    rcases (h1 k).mp hk with h | h
    · cases h
    · rw [List.map_map] at h
      obtain ⟨r, hr, e⟩ := List.mem_map.mp h
      exact ⟨r, hr, e.symm⟩
  have h4 : ∀ l : List Key, (∀ k ∈ l, ∃ r ∈ rs, k = .inr r) → ∃ us : List Str, l = us.map Sum.inr := by
    intro l
    induction l with
    | nil => exact fun _ => ⟨[], rfl⟩
    | cons k l ih =>
      intro h
      obtain ⟨us, e⟩ := ih fun k hk => h k (List.mem_cons_of_mem _ hk)
      obtain ⟨r, _, rfl⟩ := h k List.mem_cons_self
      exact ⟨r :: us, by rw [e]; rfl⟩
  obtain ⟨us, e⟩ := h4 _ h3
  refine ⟨us, ?_, fun r => ?_, ?_⟩
  · have : ((mergeA [] (rs.map fun r => ((.inr r : Key), PyData.bool true))).map fun kv => ofKey kv.1) = ((mergeA [] (rs.map fun r => ((.inr r : Key), PyData.bool true))).map (·.1)).map ofKey := by rw [List.map_map]; rfl
    rw [this, e, List.map_map]
    rfl
  · have h5 := h1 (.inr r)
    rw [e] at h5
    have h6 : (Sum.inr r : Key) ∈ us.map Sum.inr ↔ r ∈ us := by simp
    have h7 : (Sum.inr r : Key) ∈ (rs.map fun r => ((.inr r : Key), PyData.bool true)).map (·.1) ↔ r ∈ rs := by simp
    rw [h6, h7] at h5
    simpa using h5
  · have h5 : us.length = (us.map (Sum.inr : Str → Key)).length := by simp
    rw [h5, ← e, List.length_map]
    simpa using h2
end Mn
open PySem
namespace Mn
def F_law_world (ix : Ix) : Fn := ⟨(Str.ofString "_law_world"), 1, [(Str.ofString "_law_hand_here"), (Str.ofString "_law_names"), (Str.ofString "_law_deeds"), (Str.ofString "_law_words_here"), (Str.ofString "_law_wants"), (Str.ofString "_law_owners"), (Str.ofString "_law_roots"), (Str.ofString "_law_deed_here"), (Str.ofString "_law_tree_here"), (Str.ofString "_law_late"), (Str.ofString "_law_name"), (Str.ofString "_law_elder"), (Str.ofString "_law_some"), (Str.ofString "_law_root"), (Str.ofString "_law_k")], (.cons (.asg (.tp [(.nm 8), (.nm 9)]) (.call ix.l_tree (.cons (.pl 0) .nil))) (.cons (.asg (.nm 1) (.comp [10, 11] (.tp [(.nm 10), (.nm 11)]) (.lk 8) .nil (.tk 10))) (.cons (.asg (.nm 2) (.call ix.l_words (.cons (.pl 0) (.cons (.call ix.l_of (.cons (.pl 0) (.cons (.lst (.cons (.ki 1) (.cons (.ki 2) (.cons (.ki 2) (.cons (.ki 3) (.cons (.ki 3) (.cons (.ki 4) (.cons (.ki 4) (.cons (.ki 6) .nil))))))))) .nil))) .nil)))) (.cons (.asg (.nm 3) (.call ix.l_words (.cons (.pl 0) (.cons (.ki 9) .nil)))) (.cons (.asg (.nm 4) (.dnw 1)) (.cons (.asg (.nm 5) (.dnw 0)) (.cons (.asg (.nm 6) (.dnw 0)) (.cons (.fr (.tp [(.nm 10), (.nm 11)]) (.lk 8) (.cons (.sto 6 (.tk 10) (.mt .get (.pl 6) (.cons (.tk 11) (.cons (.tk 10) .nil)))) .nil)) (.cons (.fr (.nm 7) (.lk 2) (.cons (.fr (.nm 10) (.of (.bi .dict (.cons (.comp [13] (.nm 13) (.vals 6) .nil (.tup (.cons (.tk 13) (.cons (.kb true) .nil)))) .nil))) (.cons (.stt 4 (.cons (.tk 10) (.cons (.tk 7) .nil)) (.comp [14] (.nm 14) (.rg (.cons (.call ix.l_of (.cons (.pl 0) (.cons (.lst (.cons (.ki 0) (.cons (.ki 1) (.cons (.ki 1) (.cons (.ki 2) (.cons (.ki 4) .nil)))))) .nil))) .nil)) .nil (.call ix.l_of (.cons (.pl 0) (.cons (.pl 1) .nil))))) .nil)) (.cons (.asg (.nm 12) (.lst .nil)) (.cons (.fr (.tp [(.nm 10), (.nm 11)]) (.lk 8) (.cons (.ifs (.cmp .eq (.call ix.l_take (.cons (.pl 0) (.cons (.sub (.lst (.cons (.ki 3) (.cons (.ki 2) .nil))) (.bi .int (.cons (.cmp .isN (.pl 11) .kn) .nil))) .nil))) (.ki 0)) (.cons (.app 12 (.tk 10)) .nil) .nil) .nil)) (.cons (.sto 5 (.tk 7) (.bin .add (.pl 12) (.bin .mul (.lst (.cons (.sub (.pl 1) (.ki 0)) .nil)) (.bi .int (.cons (.cmp .eq (.pl 12) (.lst .nil)) .nil))))) .nil))))) (.cons (.ret (.dd 2 (.cons (.ks (Str.ofString "tree")) (.cons (.tk 8) (.cons (.ks (Str.ofString "late")) (.cons (.tk 9) (.cons (.ks (Str.ofString "deeds")) (.cons (.tk 2) (.cons (.ks (Str.ofString "wants")) (.cons (.tk 4) (.cons (.ks (Str.ofString "owners")) (.cons (.tk 5) (.cons (.ks (Str.ofString "vars")) (.cons (.slc (.pl 3) .no (.ki 4)) (.cons (.ks (Str.ofString "params")) (.cons (.slc (.pl 3) (.ki 4) (.ki 8)) (.cons (.ks (Str.ofString "fields")) (.cons (.slc (.pl 3) (.ki 6) .no) (.cons (.ks (Str.ofString "told")) (.cons (.dnw 0) (.cons (.ks (Str.ofString "held")) (.cons (.dnw 0) (.cons (.ks (Str.ofString "roots")) (.cons (.tk 6) .nil)))))))))))))))))))))))) .nil))))))))))⟩
structure WdOk (w : Wd) : Prop where
  tree : TreeP w.tr w.late
  pos : 0 < w.tr.length
  len : w.tr.length ≤ 12
  dnd : w.deeds.Nodup
  dw : ∀ d ∈ w.deeds, IsW d
  dpos : 0 < w.deeds.length
  dlen : w.deeds.length ≤ 6
  root : RootP w.tr w.rootT
  want : ∀ n ∈ nmsT w.tr, ∀ d ∈ w.deeds, ∃ (r : Str) (l : List Str), getA w.rootT (.inr n) = some (.str r) ∧ getA w.wantT [.inr r, .inr d] = some (.list (l.map PyData.str)) ∧ l.length ≤ 4 ∧ ∀ k ∈ l, k ∈ nmsT w.tr
  own : ∀ d ∈ w.deeds, ∃ l : List Str, getA w.ownT (.inr d) = some (.list (l.map PyData.str)) ∧ l.Sublist (nmsT w.tr) ∧ 0 < l.length
  vl : w.vars.length = 4
  pl : w.params.length = 4
  fl : w.fields.length = 3
  ww : ∀ x ∈ w.vars ++ w.params ++ w.fields, IsW x
  vnd : (w.vars ++ w.params).Nodup
  fnd : w.fields.Nodup
def SpWorld (C : FnC) (i : Nat) : Prop := ∀ (t d : Int) (h : M), Hd t d h → t + 1000 ≤ LT → ∃ (w : Wd) (h' : M), C i [h] = some (wdM w [] [], [h']) ∧ WdOk w ∧ w.ow = true ∧ Hd (t + 600) d h'
theorem get_opt (kvs : List (Key × P)) (e : Option Str) (d : P) : mtM .get (.d kvs) [.v (optP e), .v d] = some (.v (match e with
  | none => d
  | some e => (getA kvs (.inr e)).getD d)) := by
  cases e with
  | none => rfl
  | some e =>
    show (match getA kvs (.inr e) with
      | some q => some (M.v q)
      | none => some (.v d)) = _
    cases h : getA kvs (.inr e) <;> simp [h]
def WantP (us nms dl : List Str) (wt : List (List Key × P)) : Prop := ∀ d ∈ dl, ∀ r ∈ us, ∃ l : List Str, getA wt [.inr r, .inr d] = some (.list (l.map PyData.str)) ∧ l.length ≤ 4 ∧ ∀ k ∈ l, k ∈ nms
def OwnP (nms dl : List Str) (ot : List (Key × P)) : Prop := ∀ d ∈ dl, ∃ l : List Str, getA ot (.inr d) = some (.list (l.map PyData.str)) ∧ l.Sublist nms ∧ 0 < l.length
theorem dict_true (rs : List Str) : biM .dict [.l (rs.map fun r => PyData.tuple [.str r, .bool true])] = some (.d (mergeA [] (rs.map fun r => ((.inr r : Key), PyData.bool true)))) := by
  show (pairsK _).map _ = _
  rw [pairs_true]; rfl
theorem sub32 (b : Bool) : subM (.l [.int 3, .int 2]) (.v (.int (if b = true then 1 else 0))) = some (.v (.int (if b = true then 2 else 3))) := by cases b <;> rfl
theorem mul01 (p : P) (b : Bool) : binM .mul (.l [p]) (.v (.int (if b = true then 1 else 0))) = some (.l (if b = true then [p] else [])) := by
  cases b
  · exact @if_pos _ _ (show -(2 ^ 63) ≤ (0 : Int) ∧ (0 : Int) < 2 ^ 63 ∧ 1 * (0 : Int).toNat ≤ LIM by decide) _ _ none
  · exact @if_pos _ _ (show -(2 ^ 63) ≤ (1 : Int) ∧ (1 : Int) < 2 ^ 63 ∧ 1 * (1 : Int).toNat ≤ LIM by decide) _ _ none
theorem m32 (b : Bool) : 0 < (if b = true then (2 : Int) else 3) ∧ (if b = true then (2 : Int) else 3) < 1073741824 := by cases b <;> decide
theorem cut_map {α β : Type} (f : α → β) (l : List α) (lo hi : Option Int) : cut (l.map f) lo hi = (cut l lo hi).map f := by
  unfold cut
  rw [List.length_map, ← List.map_drop, ← List.map_take]
theorem world_ok (ix : Ix) (T : Tab) (C : FnC) (hT : SpTake C ix.l_take) (hO : SpOf C ix.l_of) (hW : SpWords C ix.l_words) (hTr : SpTree C ix.l_tree) : ∀ (t d : Int) (h : M), Hd t d h → t + 1000 ≤ LT → ∃ (w : Wd) (h' : M), runF T C (F_law_world ix) [h] = some (wdM w [] [], [h']) ∧ WdOk w ∧ w.ow = true ∧ Hd (t + 600) d h' := by
  intro t d h hd hLT
  have hL : LT = 500000 := rfl
  obtain ⟨a, b, c, e, hb, hc, ht⟩ := hd
  subst e
  have hd : Hd t d (.l [.int a, .int b, .int c, .int d]) := ⟨a, b, c, rfl, hb, hc, ht⟩
  have key : ∃ r ms, runF T C (F_law_world ix) [.l [.int a, .int b, .int c, .int d]] = some (r, ms) ∧ ∃ (w : Wd) (h' : M), r = wdM w [] [] ∧ ms = [h'] ∧ WdOk w ∧ w.ow = true ∧ Hd (t + 600) d h' := by
    apply run_of rfl
    unfold F_law_world
    show WSS _ _ [some _, none, none, none, none, none, none, none, none, none, none, none, none, none, none] _ _
    dsimp only
    (try walk_at "mn"); repeat walk_at "mS"
    obtain ⟨tr, late, h1, e1, hTP, hp0, hp1, hd1⟩ := hTr t d _ hd (by omega)
    refine ⟨_, _, e1, ?_⟩
    refine ⟨_, _, rfl, bindT2 rfl rfl (Nat.le_of_ble_eq_true rfl) rfl rfl (Nat.le_of_ble_eq_true rfl), ?_⟩
    (try walk_at "mn"); repeat walk_at "mS"
    refine we_comp (fun j ρ acc => ∃ (o1 o2 : Option M), ρ = [some h1, none, none, none, none, none, none, none, some (.v (.list (tr.map trP))), some (.v (.list (late.map PyData.str))), o1, o2, none, none, none] ∧ acc = (nmsT (tr.take j)).map PyData.str) rfl ?_
    refine wi_lkv rfl rfl ?_
    refine ⟨rfl, ⟨_, _, rfl, rfl⟩, fun j p ρ2 acc hp hI => ?_, fun ρ2 qs hI => ?_⟩
    · obtain ⟨o1, o2, rfl, rfl⟩ := hI
      rw [List.getElem?_map] at hp
      obtain ⟨x, hx, rfl⟩ := Option.map_eq_some_iff.mp hp
      dsimp only [wipeE, List.set]
      refine ⟨_, bindT2 rfl rfl (Nat.le_of_ble_eq_true rfl) rfl rfl (Nat.le_of_ble_eq_true rfl), ?_⟩
      (try walk_at "mn"); repeat walk_at "mS"
      refine ⟨?_, _, _, rfl, ?_⟩
      · rw [List.length_map]; unfold nmsT; rw [List.length_map, List.length_take]; show _ < 1000000; omega
      · rw [List.take_succ, hx]; unfold nmsT; rw [List.map_append, List.map_append]; rfl
    rw [List.length_map, List.take_length] at hI
    obtain ⟨o1, o2, rfl, rfl⟩ := hI
    (try walk_at "mo")
    (try walk_at "mn"); repeat walk_at "mS"
    obtain ⟨p2, h2, e2, k2, hd2⟩ := hO _ d _ (.l ([1, 2, 2, 3, 3, 4, 4, 6].map PyData.int)) ([1, 2, 2, 3, 3, 4, 4, 6].map PyData.int) hd1 (by omega) (Or.inl rfl) (show 0 < 8 by omega) (show 8 < 1000000 by omega)
    refine ⟨_, _, e2, ?_⟩
    obtain ⟨i2, k3, rfl⟩ := mem_ints (l := [1, 2, 2, 3, 3, 4, 4, 6]) k2
    have k4 : ∃ n : Nat, 0 < n ∧ n ≤ 6 ∧ i2 = n := ⟨i2.toNat, by simp at k3; omega, by simp at k3; omega, by simp at k3; omega⟩
    obtain ⟨nd, nd0, nd6, rfl⟩ := k4
    (try walk_at "mn"); repeat walk_at "mS"
    obtain ⟨ws, h3, e3, ⟨ds, rfl, z1, z2, z3⟩, hd3⟩ := hW _ d _ nd hd2 (by omega) (by omega)
    refine ⟨_, _, e3, ?_⟩
    (try walk_at "mn"); repeat walk_at "mS"
    obtain ⟨ws, h4, e4, ⟨zs, rfl, y1, y2, y3⟩, hd4⟩ := hW _ d _ 9 hd3 (by omega) (by omega)
    refine ⟨_, _, e4, ?_⟩
    (try walk_at "mn"); repeat walk_at "mS"
    have hRP := roots_ok hTP
    refine ws_fr (fun j ρ => ∃ (o1 o2 : Option M), ρ = [some h4, some (.l ((nmsT tr).map PyData.str)), some (.l (ds.map PyData.str)), some (.l (zs.map PyData.str)), some (.t []), some (.d []), some (.d (rootsF (tr.take j))), none, some (.v (.list (tr.map trP))), some (.v (.list (late.map PyData.str))), o1, o2, none, none, none] ∧ isLk o1 = false ∧ isLk o2 = false) rfl ?_
    refine wi_lkv rfl rfl ?_
    refine ⟨⟨_, _, rfl, rfl, rfl⟩, fun j p ρ2 hp hI => ?_, fun ρ2 hI => ?_⟩
    · obtain ⟨o1, o2, rfl, u1, u2⟩ := hI
      rw [List.getElem?_map] at hp
      obtain ⟨⟨n, el⟩, hx, rfl⟩ := Option.map_eq_some_iff.mp hp
      refine ⟨_, bindT2 u1 rfl (Nat.le_of_ble_eq_true rfl) u2 rfl (Nat.le_of_ble_eq_true rfl), ?_⟩
      (try walk_at "mn"); repeat walk_at "mS"
      refine lf_mt rfl rfl (get_opt _ _ _) ?_
      (try walk_at "mn"); repeat walk_at "mS"
      have hlen : (rootsF (tr.take j)).length < LIM := by
        have := (hRP j).len
        rw [List.length_take] at this
        show _ < 1000000
        omega
      refine lf_sto rfl rfl (putM_d hlen) ?_
      (try walk_at "mn"); repeat walk_at "mS"
      refine ⟨some (.v (.str n)), some (.v (optP el)), ?_, rfl, rfl⟩
      rw [List.take_succ, hx, show (some (n, el) : Option (Str × Option Str)).toList = [(n, el)] from rfl, rootsF_snoc]
      rfl
    rw [List.length_map, List.take_length] at hI
    obtain ⟨o1, o2, rfl, u1, u2⟩ := hI
    (try walk_at "mn"); repeat walk_at "mS"
    have hRP1 := hRP tr.length
    rw [List.take_length] at hRP1
    have hvals : ∀ kvs : List (Key × P), (∀ kv ∈ kvs, ∃ r, kv.2 = .str r) → ∃ rs : List Str, kvs.map (·.2) = rs.map PyData.str := by
      intro kvs
      induction kvs with
      | nil => exact fun _ => ⟨[], rfl⟩
      | cons kv r ih =>
        intro h
        obtain ⟨rs, e⟩ := ih fun x hx => h x (List.mem_cons_of_mem _ hx)
        obtain ⟨s, hs⟩ := h kv List.mem_cons_self
        exact ⟨s :: rs, by rw [List.map_cons, List.map_cons, e, hs]⟩
    obtain ⟨rs, hrs⟩ := hvals _ hRP1.str
    have hrsl : rs.length ≤ 12 := by
      have h1 : rs.length = ((rootsF tr).map (·.2)).length := by rw [hrs, List.length_map]
      rw [h1, List.length_map]
      have := hRP1.len
      omega
    obtain ⟨us, hu1, hu2, hu3⟩ := uniq_strs rs
    have hnl : (nmsT tr).length = tr.length := by unfold nmsT; rw [List.length_map]
    obtain ⟨n0, hn0⟩ : ∃ n0, (nmsT tr)[0]? = some n0 := ⟨_, List.getElem?_eq_getElem (by omega)⟩
    refine ws_fr (fun j ρ => ∃ (h' : M) (wt : List (List Key × P)) (ot : List (Key × P)) (o7 o10 o11 o12 : Option M), ρ = [some h', some (.l ((nmsT tr).map PyData.str)), some (.k (.l (ds.map PyData.str))), some (.l (zs.map PyData.str)), some (.t wt), some (.d ot), some (.d (rootsF tr)), o7, some (.v (.list (tr.map trP))), some (.v (.list (late.map PyData.str))), o10, o11, o12, none, none] ∧ isLk o7 = false ∧ isLk o10 = false ∧ isLk o11 = false ∧ isLk o12 = false ∧ wt.length ≤ 12 * j ∧ ot.length ≤ j ∧ WantP us (nmsT tr) (ds.take j) wt ∧ OwnP (nmsT tr) (ds.take j) ot ∧ Hd (t + 90 + 80 * j) d h') rfl ?_
    refine wi_lkk rfl rfl ?_
    refine ⟨⟨_, [], [], _, _, _, _, rfl, rfl, u1, u2, rfl, by simp, by simp, fun d hd => (by simp at hd), fun d hd => (by simp at hd), hd4.mono (by omega)⟩, fun j p ρ2 hp hI => ?_, fun ρ2 hI => ?_⟩
    · obtain ⟨h5, wt, ot, o7, o10, o11, o12, rfl, v7, v10, v11, v12, hwl, hol, hWP, hOP, hd5⟩ := hI
      rw [List.getElem?_map] at hp
      obtain ⟨dd, hdd, rfl⟩ := Option.map_eq_some_iff.mp hp
      have hj : j < 6 := by have := (List.getElem?_eq_some_iff.mp hdd).1; omega
      have hnew : dd ∉ ds.take j := fun c => by
        obtain ⟨i, hi⟩ := List.mem_iff_getElem?.mp c
        have hij : i < j := by
          have := (List.getElem?_eq_some_iff.mp hi).1
          rw [List.length_take] at this; omega
        rw [List.getElem?_take_of_lt hij] at hi
        have := (List.getElem?_inj (by have := (List.getElem?_eq_some_iff.mp hi).1; omega) z2).mp (hi.trans hdd.symm)
        omega
      refine ⟨_, sto_go v7 rfl (Nat.le_of_ble_eq_true rfl), ?_⟩
      (try walk_at "mn"); repeat walk_at "mS"
      refine ws_fr (fun q ρ => ∃ (h' : M) (wt : List (List Key × P)) (o10 : Option M), ρ = [some h', some (.l ((nmsT tr).map PyData.str)), some (.k (.l (ds.map PyData.str))), some (.l (zs.map PyData.str)), some (.t wt), some (.d ot), some (.d (rootsF tr)), some (.v (.str dd)), some (.v (.list (tr.map trP))), some (.v (.list (late.map PyData.str))), o10, o11, o12, none, none] ∧ isLk o10 = false ∧ wt.length ≤ 12 * j + q ∧ WantP us (nmsT tr) (ds.take j) wt ∧ WantP (us.take q) (nmsT tr) [dd] wt ∧ Hd (t + 90 + 80 * j + 5 * q) d h') rfl ?_
      refine wi_of ?_
      (try walk_at "mn"); repeat walk_at "mS"
      refine we_comp (fun j ρ acc => ∃ (o : Option M), ρ = [some h5, some (.l ((nmsT tr).map PyData.str)), some (.k (.l (ds.map PyData.str))), some (.l (zs.map PyData.str)), some (.t wt), some (.d ot), some (.k (.d (rootsF tr))), some (.v (.str dd)), some (.v (.list (tr.map trP))), some (.v (.list (late.map PyData.str))), o10, o11, o12, o, none] ∧ acc = (rs.take j).map fun r => .tuple [.str r, .bool true]) rfl ?_
      refine wi_vals rfl (congrArg some hrs) ?_
      refine ⟨rfl, ⟨_, rfl, rfl⟩, fun i p ρ2 acc hp hI => ?_, fun ρ2 qs hI => ?_⟩
      · obtain ⟨o, rfl, rfl⟩ := hI
        rw [List.getElem?_map] at hp
        obtain ⟨r, hr, rfl⟩ := Option.map_eq_some_iff.mp hp
        (try walk_at "mn"); repeat walk_at "mS"
        refine ⟨?_, _, rfl, ?_⟩
        · rw [List.length_map, List.length_take]; show _ < 1000000; omega
        · rw [List.take_succ, hr, List.map_append]; rfl
      rw [List.length_map, List.take_length] at hI
      obtain ⟨o, rfl, rfl⟩ := hI
      (try walk_at "mo")
      (try walk_at "mn"); repeat walk_at "mS"
      refine lf_bi rfl (dict_true rs) ?_
      refine ⟨_, itemsD _, ?_⟩
      rw [hu1]
      refine ⟨⟨h5, wt, o10, rfl, v10, by omega, hWP, fun d hd r hr => (by simp at hr), hd5.mono (by omega)⟩, fun q p ρ2 hp hI => ?_, fun ρ2 hI => ?_⟩
      · obtain ⟨h6, wt, o10, rfl, v10, hwl, hWP, hWq, hd6⟩ := hI
        rw [List.getElem?_map] at hp
        obtain ⟨r, hr, rfl⟩ := Option.map_eq_some_iff.mp hp
        have hq : q < 12 := by have := (List.getElem?_eq_some_iff.mp hr).1; omega
        refine ⟨_, sto_go v10 rfl (Nat.le_of_ble_eq_true rfl), ?_⟩
        (try walk_at "mn"); repeat walk_at "mS"
        refine we_comp (fun i ρ acc => ∃ (h' : M) (o : Option M) (l : List Str), ρ = [some h', some (.l ((nmsT tr).map PyData.str)), some (.k (.l (ds.map PyData.str))), some (.l (zs.map PyData.str)), some (.t wt), some (.d ot), some (.d (rootsF tr)), some (.v (.str dd)), some (.v (.list (tr.map trP))), some (.v (.list (late.map PyData.str))), some (.v (.str r)), o11, o12, none, o] ∧ acc = l.map PyData.str ∧ l.length = i ∧ (∀ k ∈ l, k ∈ nmsT tr) ∧ Hd (t + 90 + 80 * j + 5 * q + 1 + i) d h') rfl ?_
        refine wi_rg ?_
        (try walk_at "mn"); repeat walk_at "mS"
        obtain ⟨p7, h7, e7, k7, hd7⟩ := hO _ d _ (.l ([0, 1, 1, 2, 4].map PyData.int)) ([0, 1, 1, 2, 4].map PyData.int) hd6 (by omega) (Or.inl rfl) (show 0 < 5 by omega) (show 5 < 1000000 by omega)
        refine ⟨_, _, e7, ?_⟩
        obtain ⟨i7, k8, rfl⟩ := mem_ints (l := [0, 1, 1, 2, 4]) k7
        have k9 : 0 ≤ i7 ∧ i7 ≤ 4 := by simp at k8; omega
        (try walk_at "mn"); repeat walk_at "mS"
        refine ⟨_, _, rfl, rg1 (by omega), rfl, ⟨h7, none, [], rfl, rfl, rfl, fun k hk => (by cases hk), hd7.mono (by omega)⟩, fun i p ρ2 acc hp hI => ?_, fun ρ2 qs hI => ?_⟩
        · obtain ⟨hi, rfl⟩ := rg1_get hp
          obtain ⟨h8, o, l, rfl, rfl, hl, hlm, hd8⟩ := hI
          (try walk_at "mn"); repeat walk_at "mS"
          obtain ⟨p9, h9, e9, k10, hd9⟩ := hO _ d _ (.l ((nmsT tr).map PyData.str)) ((nmsT tr).map PyData.str) hd8 (by omega) (Or.inl rfl) (by rw [List.length_map]; omega) (by rw [List.length_map]; omega)
          refine ⟨_, _, e9, ?_⟩
          obtain ⟨s, hs, rfl⟩ := List.mem_map.mp k10
          (try walk_at "mn"); repeat walk_at "mS"
          refine ⟨?_, h9, _, l ++ [s], rfl, ?_, ?_, fun k hk => ?_, hd9.mono (by omega)⟩
          · rw [List.length_map]; show _ < 1000000; omega
          · rw [List.map_append]; rfl
          · rw [List.length_append, hl]; rfl
          · rcases List.mem_append.mp hk with c | c
            · exact hlm k c
            · simp at c; subst c; exact hs
        rw [List.length_map, List.length_range] at hI
        obtain ⟨h8, o, l, rfl, rfl, hl, hlm, hd8⟩ := hI
        (try walk_at "mo")
        (try walk_at "mn"); repeat walk_at "mS"
        refine ⟨_, _, rfl, rfl, (by show _ < 1000000; omega), ?_⟩
        have hne : ∀ d ∈ ds.take j, ∀ r' : Str, ([Sum.inr r', Sum.inr d] : List Key) ≠ [.inr r, .inr dd] := fun d hd r' c => by
          simp at c
          exact hnew (c.2 ▸ hd)
        (try walk_at "mn"); repeat walk_at "mS"
        refine ⟨h8, _, _, rfl, rfl, ?_, fun d hd r' hr' => ?_, fun d hd r' hr' => ?_, hd8.mono (by omega)⟩
        · have := putA_len wt [.inr r, .inr dd] (.list (l.map PyData.str)); omega
        · rw [getA_put, if_neg (hne d hd r')]
          exact hWP d hd r' hr'
        · have hdd' : d = dd := by simpa using hd
          rw [hdd', getA_put]
          by_cases c : r' = r
          · subst c
            rw [if_pos rfl]
            exact ⟨l, rfl, by omega, hlm⟩
          · rw [if_neg (fun x => c (by simpa using x))]
            refine hWq dd (by simp) r' ?_
            rw [List.take_succ, hr] at hr'
            rcases List.mem_append.mp hr' with c2 | c2
            · exact c2
            · simp at c2; exact absurd c2 c
      rw [List.length_map, List.take_length] at hI
      obtain ⟨h6, wt, o10, rfl, v10, hwl, hWP, hWq, hd6⟩ := hI
      (try walk_at "mn"); repeat walk_at "mS"
      refine lf_ex1 (sto_go v12 rfl (Nat.le_of_ble_eq_true rfl)) ?_
      (try walk_at "mn"); repeat walk_at "mS"
      refine ws_fr (fun q ρ => ∃ (h' : M) (l : List Str) (o10 o11 : Option M), ρ = [some h', some (.l ((nmsT tr).map PyData.str)), some (.k (.l (ds.map PyData.str))), some (.l (zs.map PyData.str)), some (.t wt), some (.d ot), some (.d (rootsF tr)), some (.v (.str dd)), some (.v (.list (tr.map trP))), some (.v (.list (late.map PyData.str))), o10, o11, some (.l (l.map PyData.str)), none, none] ∧ isLk o10 = false ∧ isLk o11 = false ∧ l.Sublist (nmsT (tr.take q)) ∧ Hd (t + 90 + 80 * j + 60 + q) d h') rfl ?_
      refine wi_lkv rfl rfl ?_
      refine ⟨⟨h6, [], _, _, rfl, v10, v11, List.nil_sublist _, hd6.mono (by omega)⟩, fun q p ρ2 hp hI => ?_, fun ρ2 hI => ?_⟩
      · obtain ⟨h7, l, o10, o11, rfl, v10, v11, hls, hd7⟩ := hI
        rw [List.getElem?_map] at hp
        obtain ⟨⟨n, el⟩, hx, rfl⟩ := Option.map_eq_some_iff.mp hp
        have hq : q < 12 := by have := (List.getElem?_eq_some_iff.mp hx).1; omega
        have htk : nmsT (tr.take (q + 1)) = nmsT (tr.take q) ++ [n] := by
          rw [List.take_succ, hx, show (some (n, el) : Option (Str × Option Str)).toList = [(n, el)] from rfl, nmsT_snoc]
        refine ⟨_, bindT2 v10 rfl (Nat.le_of_ble_eq_true rfl) v11 rfl (Nat.le_of_ble_eq_true rfl), ?_⟩
        (try walk_at "mn"); repeat walk_at "mS"
        refine lf_sub rfl (sub32 _) ?_
        (try walk_at "mn"); repeat walk_at "mS"
        obtain ⟨r8, h8, e8, k1, k2, hd8⟩ := hT _ d _ _ hd7 (by omega) (m32 (isNone (.v (optP el))))
        refine ⟨_, _, e8, ?_⟩
        (try walk_at "mn"); repeat walk_at "mS"
        refine ⟨fun _ => ?_, fun _ => ?_⟩
        · (try walk_at "mn"); repeat walk_at "mS"
          have hll : l.length ≤ q := by
            have := hls.length_le
            unfold nmsT at this
            rw [List.length_map, List.length_take] at this
            omega
          refine lf_app rfl rfl (by rw [List.length_map]; show _ < 1000000; omega) ?_
          (try walk_at "mn"); repeat walk_at "mS"
          refine ⟨h8, l ++ [n], some (.v (.str n)), some (.v (optP el)), ?_, rfl, rfl, ?_, hd8.mono (by omega)⟩
          · rw [List.map_append]; rfl
          · rw [htk]; exact List.Sublist.append hls (List.Sublist.refl _)
        · (try walk_at "mn"); repeat walk_at "mS"
          refine ⟨h8, l, _, _, rfl, rfl, rfl, ?_, hd8.mono (by omega)⟩
          rw [htk]; exact hls.trans (List.sublist_append_left _ _)
      rw [List.length_map, List.take_length] at hI
      obtain ⟨h7, l, o10, o11, rfl, v10, v11, hls, hd7⟩ := hI
      (try walk_at "mn"); repeat walk_at "mS"
      refine lf_sub rfl (subL (c := .str n0) (by omega) (by rw [List.getElem?_map, show (0 : Int).toNat = 0 from rfl, hn0]; rfl)) ?_
      (try walk_at "mn"); repeat walk_at "mS"
      refine lf_cmp rfl rfl (eq_nil (shal_strs l)) ?_
      (try walk_at "mn"); repeat walk_at "mS"
      refine lf_bin rfl rfl (mul01 _ _) ?_
      have hll : l.length ≤ 12 := by
        have := hls.length_le
        omega
      refine lf_bin rfl rfl (addL (by rw [List.length_map]; split <;> simp <;> omega)) ?_
      (try walk_at "mn"); repeat walk_at "mS"
      refine lf_sto rfl rfl (putM_d (by show _ < 1000000; omega)) ?_
      (try walk_at "mn"); repeat walk_at "mS"
      have htk : ds.take (j + 1) = ds.take j ++ [dd] := by rw [List.take_succ, hdd]; rfl
      refine ⟨h7, wt, _, _, _, _, _, rfl, rfl, v10, v11, rfl, by omega, ?_, ?_, ?_, hd7.mono (by omega)⟩
      · have := putA_len ot (.inr dd) (.list (l.map PyData.str ++ if decide (l.map PyData.str = []) = true then [PyData.str n0] else []))
        exact Nat.le_trans this (by omega)
      · rw [htk]
        intro d hd r hr
        rcases List.mem_append.mp hd with c | c
        · exact hWP d c r hr
        · exact hWq d c r hr
      · rw [htk]
        intro d hd
        rw [getA_put]
        rcases List.mem_append.mp hd with c | c
        · rw [if_neg (fun x => hnew (by cases x; exact c))]
          exact hOP d c
        · have hdd' : d = dd := by simpa using c
          subst hdd'
          rw [if_pos rfl]
          cases l with
          | nil =>
            refine ⟨[n0], rfl, ?_, by simp⟩
            rw [List.singleton_sublist]
            exact List.mem_of_getElem? hn0
          | cons x r => exact ⟨x :: r, by simp, hls, by simp⟩
    · rw [List.length_map, List.take_length] at hI
      obtain ⟨h5, wt, ot, o7, o10, o11, o12, rfl, v7, v10, v11, v12, hwl, hol, hWP, hOP, hd5⟩ := hI
      (try walk_at "mn"); repeat walk_at "mS"
      refine ⟨rfl, rfl, rfl, rfl, rfl, rfl, rfl, rfl, rfl, rfl, rfl, ?_⟩
      have hv : cut (zs.map PyData.str) none (some 4) = (zs.take 4).map PyData.str := by rw [cut_map, cut_hi (by omega), y1]; rfl
      have hp : cut (zs.map PyData.str) (some 4) (some 8) = ((zs.drop 4).take 4).map PyData.str := by
        rw [cut_map]
        unfold cut
        rw [sIx_nat (by omega), sIx_nat (by omega), y1]; rfl
      have hf : cut (zs.map PyData.str) (some 6) none = (zs.drop 6).map PyData.str := by rw [cut_map, cut_lo (by omega), y1]; rfl
      have h8 : zs.take 4 ++ (zs.drop 4).take 4 = zs.take 8 := (List.take_add (l := zs) (i := 4) (j := 4)).symm
      refine ⟨⟨tr, late, ds, wt, ot, rootsF tr, zs.take 4, (zs.drop 4).take 4, zs.drop 6, true⟩, h5, ?_, rfl, ⟨hTP, hp0, hp1, z2, z3, by show 0 < ds.length; omega, by show ds.length ≤ 6; omega, hRP1, fun n hn d hd => ?_, hOP, ?_, ?_, ?_, fun x hx => ?_, ?_, ?_⟩, rfl, hd5.mono (by omega)⟩
      · unfold wdM wdKV
        simp only
        rw [← hv, ← hp, ← hf]
        rfl
      · obtain ⟨r, hr1, hr2⟩ := hRP1.at_ n hn
        have hru : r ∈ us := by
          rw [hu2]
          have h1 := getA_mem hr2
          have h2 : PyData.str r ∈ (rootsF tr).map (·.2) := List.mem_map.mpr ⟨_, h1, rfl⟩
          rw [hrs] at h2
          obtain ⟨x, hx, e⟩ := List.mem_map.mp h2
          cases e
          exact hx
        obtain ⟨l, hl1, hl2, hl3⟩ := hWP d hd r hru
        exact ⟨r, l, hr2, hl1, hl2, hl3⟩
      · show (zs.take 4).length = 4
        rw [List.length_take]; omega
      · show ((zs.drop 4).take 4).length = 4
        rw [List.length_take, List.length_drop]; omega
      · show (zs.drop 6).length = 3
        rw [List.length_drop]; omega
      · rcases List.mem_append.mp hx with c | c
        · rcases List.mem_append.mp c with c | c
          · exact y3 x (List.mem_of_mem_take c)
          · exact y3 x (List.mem_of_mem_drop (List.mem_of_mem_take c))
        · exact y3 x (List.mem_of_mem_drop c)
      · show (zs.take 4 ++ (zs.drop 4).take 4).Nodup
        rw [h8]
        exact (List.take_sublist _ _).nodup y2
      · exact (List.drop_sublist _ _).nodup y2
  obtain ⟨r, ms, e, w, h', rfl, rfl, q1, q2, q3⟩ := key
  exact ⟨_, _, e, q1, q2, q3⟩
end Mn
open PySem
namespace Mn
def F_law_line (ix : Ix) : Fn := ⟨(Str.ofString "_law_line"), 2, [(Str.ofString "_law_world_here"), (Str.ofString "_law_kind"), ix.nm_up, (Str.ofString "_law_line_here")], (.cons (.asg (.nm 2) (.bi .dict (.cons (.sub (.pl 0) (.ks (Str.ofString "tree"))) .nil))) (.cons (.asg (.nm 3) (.lst .nil)) (.cons (.wh (.cmp .notN (.pl 1) .kn) (.cons (.app 3 (.tk 1)) (.cons (.asg (.nm 1) (.sub (.pl 2) (.tk 1))) .nil))) (.cons (.ret (.mv 3)) .nil))))⟩
def F_law_has (ix : Ix) : Fn := ⟨(Str.ofString "_law_has"), 3, [(Str.ofString "_law_world_here"), (Str.ofString "_law_kind"), (Str.ofString "_law_deed_here"), (Str.ofString "_law_one")], (.cons (.ret (.bi .any (.cons (.comp [3] (.nm 3) (.of (.call ix.l_line (.cons (.pl 0) (.cons (.pl 1) .nil)))) .nil (.cmp .inn (.pl 3) (.sub (.sub (.pl 0) (.ks (Str.ofString "owners"))) (.tk 2)))) .nil))) .nil)⟩
/-- a kind and its elders, it first -/
inductive LineI (tr : List (Str × Option Str)) : Str → List Str → Prop
  | root {s : Str} : (s, none) ∈ tr → LineI tr s [s]
  | up {s e : Str} {l : List Str} : (s, some e) ∈ tr → LineI tr e l → LineI tr s (s :: l)
theorem tr_uniq {tr : List (Str × Option Str)} (hnd : (nmsT tr).Nodup) {s : Str} {a b : Option Str} (h1 : (s, a) ∈ tr) (h2 : (s, b) ∈ tr) : a = b := by
  obtain ⟨i, hi⟩ := List.mem_iff_getElem?.mp h1
  obtain ⟨j, hj⟩ := List.mem_iff_getElem?.mp h2
  have e1 : (nmsT tr)[i]? = some s := by unfold nmsT; rw [List.getElem?_map, hi]; rfl
  have e2 : (nmsT tr)[j]? = some s := by unfold nmsT; rw [List.getElem?_map, hj]; rfl
  have := (List.getElem?_inj (List.getElem?_eq_some_iff.mp e1).1 hnd).mp (e1.trans e2.symm)
  subst this
  rw [hi] at hj
  cases hj; rfl
theorem LineI.uniq {tr : List (Str × Option Str)} (hnd : (nmsT tr).Nodup) {s : Str} {l l' : List Str} (h : LineI tr s l) (h' : LineI tr s l') : l = l' := by
  induction h generalizing l' with
  | root h1 =>
    cases h' with
    | root _ => rfl
    | up h2 _ => cases tr_uniq hnd h1 h2
  | up h1 _ ih =>
    cases h' with
    | root h2 => cases tr_uniq hnd h1 h2
    | up h2 h3 =>
      cases tr_uniq hnd h1 h2
      rw [ih h3]
theorem LineI.mem {tr : List (Str × Option Str)} {s : Str} {l : List Str} (h : LineI tr s l) : s ∈ l ∧ ∀ x ∈ l, x ∈ nmsT tr := by
  induction h with
  | root h => exact ⟨by simp, fun x hx => by simp at hx; subst hx; exact List.mem_map.mpr ⟨_, h, rfl⟩⟩
  | up h _ ih =>
    refine ⟨by simp, fun x hx => ?_⟩
    rcases List.mem_cons.mp hx with c | c
    · subst c; exact List.mem_map.mpr ⟨_, h, rfl⟩
    · exact ih.2 x c
theorem line_ex {tr : List (Str × Option Str)} {late : List Str} (h : TreeP tr late) : ∀ (i : Nat) (s : Str) (e : Option Str), tr[i]? = some (s, e) → ∃ l, LineI tr s l ∧ l.length ≤ i + 1 := by
  intro i
  induction i using Nat.strongRecOn with
  | _ i ih =>
    intro s e hi
    cases e with
    | none => exact ⟨[s], .root (List.mem_of_getElem? hi), by simp⟩
    | some e =>
      have h1 := h.up i s e hi
      unfold nmsT at h1
      rw [List.map_take] at h1
      obtain ⟨j, hj⟩ := List.mem_iff_getElem?.mp h1
      have hji : j < i := by
        have := (List.getElem?_eq_some_iff.mp hj).1
        rw [List.length_take] at this; omega
      rw [List.getElem?_take_of_lt hji, List.getElem?_map] at hj
      obtain ⟨⟨s2, e2⟩, h2, h3⟩ := Option.map_eq_some_iff.mp hj
      simp only at h3
      subst h3
      obtain ⟨l, h4, h5⟩ := ih j hji s2 e2 h2
      exact ⟨s :: l, .up (List.mem_of_getElem? hi) h4, by simp; omega⟩
theorem line_at {tr : List (Str × Option Str)} {late : List Str} (h : TreeP tr late) {s : Str} (hs : s ∈ nmsT tr) : ∃ l, LineI tr s l ∧ l.length ≤ tr.length := by
  obtain ⟨i, hi⟩ := List.mem_iff_getElem?.mp hs
  unfold nmsT at hi
  rw [List.getElem?_map] at hi
  obtain ⟨⟨s2, e2⟩, h2, h3⟩ := Option.map_eq_some_iff.mp hi
  simp only at h3
  subst h3
  obtain ⟨l, h4, h5⟩ := line_ex h i s2 e2 h2
  exact ⟨l, h4, by have := (List.getElem?_eq_some_iff.mp h2).1; omega⟩
def upT (tr : List (Str × Option Str)) : List (Key × P) := tr.map fun x => (.inr x.1, optP x.2)
theorem pairs_tr : ∀ (tr : List (Str × Option Str)), pairsK (tr.map trP) = some (upT tr)
  | [] => rfl
  | x :: tr => by
    rw [List.map_cons]
    show (match keyOf (.str x.1), pairsK (tr.map trP) with
      | some k, some kvs => some ((k, optP x.2) :: kvs)
      | _, _ => none) = _
    rw [pairs_tr tr]; rfl
theorem merge_nd {κ α : Type} [DecidableEq κ] : ∀ (kvs acc : List (κ × α)), ((acc ++ kvs).map (·.1)).Nodup → mergeA acc kvs = acc ++ kvs
  | [], acc, _ => by rw [List.append_nil]; rfl
  | (k, v) :: r, acc, h => by
    have h1 : putA acc k v = acc ++ [(k, v)] := by
      unfold putA
      rw [if_neg]
      intro c
      obtain ⟨x, hx, hx2⟩ := List.any_eq_true.mp c
      have hk : x.1 = k := of_decide_eq_true hx2
      rw [List.map_append, List.nodup_append] at h
      exact h.2.2 x.1 (List.mem_map.mpr ⟨x, hx, rfl⟩) k (by simp) hk
    show mergeA (putA acc k v) r = _
    rw [h1, merge_nd r _ (by rw [List.append_assoc]; exact h), List.append_assoc]
    rfl
theorem upT_nd {tr : List (Str × Option Str)} (h : (nmsT tr).Nodup) : ((upT tr).map (·.1)).Nodup := by
  have : (upT tr).map (·.1) = (nmsT tr).map Sum.inr := by unfold upT nmsT; rw [List.map_map, List.map_map]; rfl
  rw [this, List.nodup_iff_pairwise_ne, List.pairwise_map]
  exact (List.nodup_iff_pairwise_ne.mp h).imp fun hne c => hne (by cases c; rfl)
theorem dict_tr {tr : List (Str × Option Str)} (h : (nmsT tr).Nodup) : biM .dict [.v (.list (tr.map trP))] = some (.d (upT tr)) := by
  show (pairsK _).map _ = _
  rw [pairs_tr]
  show some (M.d (mergeA [] (upT tr))) = _
  rw [merge_nd _ _ (by rw [List.nil_append]; exact upT_nd h), List.nil_append]
theorem getA_nd {κ α : Type} [DecidableEq κ] {kvs : List (κ × α)} (h : (kvs.map (·.1)).Nodup) {k : κ} {v : α} (hm : (k, v) ∈ kvs) : getA kvs k = some v := by
  induction kvs with
  | nil => cases hm
  | cons a r ih =>
    rw [List.map_cons, List.nodup_cons] at h
    unfold getA
    rw [List.find?_cons]
    rcases List.mem_cons.mp hm with c | c
    · subst c; simp
    · have : a.1 ≠ k := fun e => h.1 (by rw [e]; exact List.mem_map.mpr ⟨_, c, rfl⟩)
      simp only [this, decide_false]
      exact ih h.2 c
theorem getA_up {tr : List (Str × Option Str)} (h : (nmsT tr).Nodup) {s : Str} {e : Option Str} (hm : (s, e) ∈ tr) : getA (upT tr) (.inr s) = some (optP e) := getA_nd (upT_nd h) (List.mem_map.mpr ⟨_, hm, rfl⟩)
def SpLine (C : FnC) (i : Nat) : Prop := ∀ (w : Wd) (a b : List (Key × P)) (s : Str), WdOk w → s ∈ nmsT w.tr → ∃ l, LineI w.tr s l ∧ l.length ≤ 12 ∧ C i [wdM w a b, .v (.str s)] = some (.l (l.map PyData.str), [wdM w a b, .v (.str s)])
theorem subD {kvs : List (Key × P)} {s : Str} {p : P} (h : getA kvs (.inr s) = some p) : subM (.d kvs) (.v (.str s)) = some (.v p) := by
  show (getA kvs (.inr s)).map M.v = _
  rw [h]; rfl
theorem line_ok (ix : Ix) (T : Tab) (C : FnC) : ∀ (w : Wd) (a b : List (Key × P)) (s : Str), WdOk w → s ∈ nmsT w.tr → ∃ l, LineI w.tr s l ∧ l.length ≤ 12 ∧ runF T C (F_law_line ix) [wdM w a b, .v (.str s)] = some (.l (l.map PyData.str), [wdM w a b, .v (.str s)]) := by
  intro w a b s hW hs
  obtain ⟨l, hl, hll⟩ := line_at hW.tree hs
  have hw12 := hW.len
  refine ⟨l, hl, by omega, ?_⟩
  have key : ∃ r ms, runF T C (F_law_line ix) [wdM w a b, .v (.str s)] = some (r, ms) ∧ r = .l (l.map PyData.str) ∧ ms = [wdM w a b, .v (.str s)] := by
    apply run_of rfl
    unfold F_law_line
    show WSS _ _ [some _, some _, none, none] _ _
    dsimp only
    (try walk_at "mn"); repeat walk_at "mS"
    refine lf_bi rfl (dict_tr hW.tree.nd) ?_
    (try walk_at "mn"); repeat walk_at "mS"
    refine ws_wh (fun k ρ => ∃ (o : Option Str) (acc l' : List Str), ρ = [some (wdM w a b), some (.v (optP o)), some (.d (upT w.tr)), some (.l (acc.map PyData.str))] ∧ acc ++ l' = l ∧ k = l'.length ∧ ((o = none ∧ l' = []) ∨ ∃ x, o = some x ∧ LineI w.tr x l')) l.length (by omega) ⟨some s, [], l, rfl, rfl, rfl, Or.inr ⟨s, rfl, hl⟩⟩ fun n ρ hI => ?_
    obtain ⟨o, acc, l', rfl, hac, hn, ho⟩ := hI
    (try walk_at "mn"); repeat walk_at "mS"
    refine ⟨fun hb => ?_, fun hb => ?_⟩
    · rcases ho with ⟨rfl, rfl⟩ | ⟨x, rfl, hx⟩
      · (try walk_at "mn"); repeat walk_at "mS"
        rw [List.append_nil] at hac
        subst hac
        exact ⟨rfl, rfl⟩
      · cases hb
    · rcases ho with ⟨rfl, rfl⟩ | ⟨x, rfl, hx⟩
      · cases hb
      · have hal : acc.length ≤ 12 := by
          have := congrArg List.length hac
          rw [List.length_append] at this
          omega
        have h2 : ∃ e l2, l' = x :: l2 ∧ (x, e) ∈ w.tr ∧ ((e = none ∧ l2 = []) ∨ ∃ y, e = some y ∧ LineI w.tr y l2) := by
          cases hx with
          | root h => exact ⟨none, [], rfl, h, Or.inl ⟨rfl, rfl⟩⟩
          | up h h' => exact ⟨_, _, rfl, h, Or.inr ⟨_, rfl, h'⟩⟩
        obtain ⟨e, l2, rfl, h3, h4⟩ := h2
        (try walk_at "mn"); repeat walk_at "mS"
        refine lf_app (p := .str x) rfl rfl (by rw [List.length_map]; show _ < 1000000; omega) ?_
        (try walk_at "mn"); repeat walk_at "mS"
        refine lf_sub rfl (subD (getA_up hW.tree.nd h3)) ?_
        (try walk_at "mn"); repeat walk_at "mS"
        refine ⟨l2.length, by rw [hn]; simp, e, acc ++ [x], l2, ?_, by rw [← hac]; simp, rfl, h4⟩
        rw [List.map_append]; rfl
  obtain ⟨r, ms, e, rfl, rfl⟩ := key
  exact e
end Mn
open PySem
namespace Mn
def F_law_variable (ix : Ix) : Fn := ⟨(Str.ofString "_law_variable"), 3, [(Str.ofString "_law_hand_here"), (Str.ofString "_law_world_here"), (Str.ofString "_law_env"), (Str.ofString "_law_some"), (Str.ofString "_law_x")], (.cons (.asg (.nm 3) (.comp [4] (.nm 4) (.lk 2) (.cons (.cmp .notN (.sub (.pl 2) (.tk 4)) .kn) .nil) (.tk 4))) (.cons (.ifs (.ban (.cmp .ne (.pl 3) (.lst .nil)) (.cmp .gt (.call ix.l_take (.cons (.pl 0) (.cons (.ki 4) .nil))) (.ki 0))) (.cons (.ret (.call ix.l_of (.cons (.pl 0) (.cons (.pl 3) .nil)))) .nil) .nil) (.cons (.ret (.call ix.l_of (.cons (.pl 0) (.cons (.bin .add (.sub (.pl 1) (.ks (Str.ofString "vars"))) (.bi .list (.cons (.pl 2) .nil))) .nil)))) .nil)))⟩
def F_law_target (ix : Ix) : Fn := ⟨(Str.ofString "_law_target"), 3, [(Str.ofString "_law_hand_here"), (Str.ofString "_law_world_here"), (Str.ofString "_law_env"), (Str.ofString "_law_x")], (.cons (.ret (.call ix.l_of (.cons (.pl 0) (.cons (.bin .add (.sub (.pl 1) (.ks (Str.ofString "vars"))) (.comp [3] (.nm 3) (.lk 2) (.cons (.cmp .inn (.pl 3) (.sub (.pl 1) (.ks (Str.ofString "params")))) .nil) (.tk 3))) .nil)))) .nil)⟩
def F_law_make (ix : Ix) : Fn := ⟨(Str.ofString "_law_make"), 3, [(Str.ofString "_law_hand_here"), (Str.ofString "_law_world_here"), (Str.ofString "_law_env"), (Str.ofString "_law_names"), (Str.ofString "_law_soon"), (Str.ofString "_law_kind"), (Str.ofString "_law_x"), (Str.ofString "_law_name"), (Str.ofString "_law_elder")], (.cons (.asg (.nm 3) (.comp [7, 8] (.tp [(.nm 7), (.nm 8)]) (.of (.sub (.pl 1) (.ks (Str.ofString "tree")))) .nil (.tk 7))) (.cons (.asg (.nm 4) (.comp [7] (.nm 7) (.lk 3) (.cons (.cmp .nin (.pl 7) (.sub (.pl 1) (.ks (Str.ofString "late")))) .nil) (.tk 7))) (.cons (.asg (.nm 5) (.call ix.l_of (.cons (.pl 0) (.cons (.sub (.lst (.cons (.tk 4) (.cons (.tk 4) (.cons (.tk 3) .nil)))) (.call ix.l_take (.cons (.pl 0) (.cons (.ki 3) .nil)))) .nil)))) (.cons (.asg (.nm 6) (.call ix.l_target (.cons (.pl 0) (.cons (.pl 1) (.cons (.pl 2) .nil))))) (.cons (.sto 2 (.tk 6) (.tk 5)) (.cons (.ret (.tup (.cons (.ks (Str.ofString "make")) (.cons (.tk 6) (.cons (.tk 5) .nil))))) .nil))))))⟩
def ownS : Str := Str.ofString "own"
def VarOk (w : Wd) (x : Str) : Prop := (w.ow = true ∧ x = ownS) ∨ x ∈ w.vars ∨ x ∈ w.params
def KOk (w : Wd) (o : Option Str) : Prop := ∀ s, o = some s → s ∈ nmsT w.tr
structure EnvOk (w : Wd) (t : Int) (env : List (Key × P)) : Prop where
  len : (env.length : Int) ≤ t
  ok : ∀ kv ∈ env, (∃ s, kv.1 = .inr s ∧ VarOk w s) ∧ ∃ o, kv.2 = optP o ∧ KOk w o
structure HeldOk (w : Wd) (t : Int) (kvs : List (Key × P)) : Prop where
  len : (kvs.length : Int) ≤ t
  ok : ∀ kv ∈ kvs, ∃ o, kv.2 = optP o ∧ KOk w o
theorem EnvOk.mono {w : Wd} {t t' : Int} {env : List (Key × P)} (h : EnvOk w t env) (l : t ≤ t') : EnvOk w t' env := ⟨by have := h.len; omega, h.ok⟩
theorem HeldOk.mono {w : Wd} {t t' : Int} {env : List (Key × P)} (h : HeldOk w t env) (l : t ≤ t') : HeldOk w t' env := ⟨by have := h.len; omega, h.ok⟩
theorem EnvOk.put {w : Wd} {t : Int} {env : List (Key × P)} (h : EnvOk w t env) {x : Str} {o : Option Str} (hx : VarOk w x) (ho : KOk w o) : EnvOk w (t + 1) (putA env (.inr x) (optP o)) := by
  refine ⟨?_, fun kv hk => ?_⟩
  · have := putA_len env (.inr x) (optP o)
    have := h.len
    omega
  · rcases putA_mem hk with c | c
    · exact h.ok kv c
    · subst c; exact ⟨⟨x, rfl, hx⟩, o, rfl, ho⟩
theorem HeldOk.put {w : Wd} {t : Int} {kvs : List (Key × P)} (h : HeldOk w t kvs) {k : Key} {o : Option Str} (ho : KOk w o) : HeldOk w (t + 1) (putA kvs k (optP o)) := by
  refine ⟨?_, fun kv hk => ?_⟩
  · have := putA_len kvs k (optP o)
    have := h.len
    omega
  · rcases putA_mem hk with c | c
    · exact h.ok kv c
    · subst c; exact ⟨o, rfl, ho⟩
theorem EnvOk.get {w : Wd} {t : Int} {env : List (Key × P)} (h : EnvOk w t env) (k : Key) : ∃ o, (getA env k).getD .none = optP o ∧ KOk w o := by
  cases e : getA env k with
  | none => exact ⟨none, rfl, fun s hs => by cases hs⟩
  | some v => exact (h.ok _ (getA_mem e)).2
theorem HeldOk.get {w : Wd} {t : Int} {env : List (Key × P)} (h : HeldOk w t env) (k : Key) : ∃ o, (getA env k).getD .none = optP o ∧ KOk w o := by
  cases e : getA env k with
  | none => exact ⟨none, rfl, fun s hs => by cases hs⟩
  | some v => exact h.ok _ (getA_mem e)
theorem getA_ex {κ α : Type} [DecidableEq κ] {kvs : List (κ × α)} {kv : κ × α} (h : kv ∈ kvs) : ∃ v, getA kvs kv.1 = some v := by
  cases e : getA kvs kv.1 with
  | none => exact absurd rfl (getA_none e kv h)
  | some v => exact ⟨v, rfl⟩
theorem env_keys {w : Wd} {t : Int} : ∀ {env : List (Key × P)}, (∀ kv ∈ env, (∃ s, kv.1 = .inr s ∧ VarOk w s) ∧ ∃ o, kv.2 = optP o ∧ KOk w o) → ∃ ks : List Str, (env.map fun kv => ofKey kv.1) = ks.map PyData.str ∧ (env.map (·.1)) = ks.map Sum.inr ∧ ∀ k ∈ ks, VarOk w k
  | [], _ => ⟨[], rfl, rfl, fun k hk => by cases hk⟩
  | (k, v) :: env, h => by
    obtain ⟨ks, h1, h2, h3⟩ := env_keys (w := w) (t := t) fun kv hk => h kv (List.mem_cons_of_mem _ hk)
    obtain ⟨⟨s, hs, hv⟩, _⟩ := h (k, v) List.mem_cons_self
    simp only at hs
    subst hs
    refine ⟨s :: ks, by rw [List.map_cons, h1]; rfl, by rw [List.map_cons, h2]; rfl, fun k hk => ?_⟩
    rcases List.mem_cons.mp hk with c | c
    · subst c; exact hv
    · exact h3 k c
theorem EnvOk.keys {w : Wd} {t : Int} {env : List (Key × P)} (h : EnvOk w t env) : ∃ ks : List Str, (env.map fun kv => ofKey kv.1) = ks.map PyData.str ∧ ks.length = env.length ∧ ∀ k ∈ ks, VarOk w k ∧ ∃ o, getA env (.inr k) = some (optP o) ∧ KOk w o := by
  obtain ⟨ks, h1, h2, h3⟩ := env_keys (w := w) (t := t) h.ok
  refine ⟨ks, h1, ?_, fun k hk => ⟨h3 k hk, ?_⟩⟩
  · have := congrArg List.length h2
    rw [List.length_map, List.length_map] at this
    exact this.symm
  · have : (Sum.inr k : Key) ∈ env.map (·.1) := by rw [h2]; exact List.mem_map.mpr ⟨k, hk, rfl⟩
    obtain ⟨kv, hkv, e⟩ := List.mem_map.mp this
    obtain ⟨v, hv⟩ := getA_ex hkv
    rw [e] at hv
    obtain ⟨_, o, ho, hk⟩ := h.ok _ (getA_mem hv)
    simp only at ho
    subst ho
    exact ⟨o, hv, hk⟩
def SpVar (C : FnC) (i : Nat) : Prop := ∀ (t d : Int) (h : M) (w : Wd) (a b env : List (Key × P)), Hd t d h → t + 10 ≤ LT → WdOk w → EnvOk w t env → ∃ (x : Str) (h' : M), C i [h, wdM w a b, .d env] = some (.v (.str x), [h', wdM w a b, .d env]) ∧ VarOk w x ∧ Hd (t + 2) d h'
theorem subKD {kvs : List (Key × P)} {s : Str} {p : P} (h : getA kvs (.inr s) = some p) : subM (.k (.d kvs)) (.v (.str s)) = some (.v p) := subD h
theorem addLL {a b : List P} (h : a.length + b.length ≤ 1000000) : binM .add (.v (.list a)) (.l b) = some (.l (a ++ b)) := if_pos (show a.length + b.length ≤ LIM from h)
theorem list_d (kvs : List (Key × P)) : biM .list [.d kvs] = some (.l (kvs.map fun kv => ofKey kv.1)) := rfl
def SpTarget (C : FnC) (i : Nat) : Prop := ∀ (t d : Int) (h : M) (w : Wd) (a b env : List (Key × P)), Hd t d h → t + 10 ≤ LT → WdOk w → EnvOk w t env → ∃ (x : Str) (h' : M), C i [h, wdM w a b, .d env] = some (.v (.str x), [h', wdM w a b, .d env]) ∧ (x ∈ w.vars ∨ x ∈ w.params) ∧ Hd (t + 1) d h'
theorem variable_ok (ix : Ix) (T : Tab) (C : FnC) (hT : SpTake C ix.l_take) (hO : SpOf C ix.l_of) : ∀ (t d : Int) (h : M) (w : Wd) (a b env : List (Key × P)), Hd t d h → t + 10 ≤ LT → WdOk w → EnvOk w t env → ∃ (x : Str) (h' : M), runF T C (F_law_variable ix) [h, wdM w a b, .d env] = some (.v (.str x), [h', wdM w a b, .d env]) ∧ VarOk w x ∧ Hd (t + 2) d h' := by
  intro t d h w wa wb env hd hLT hW hE
  have hL : LT = 500000 := rfl
  obtain ⟨a, b, c, e, hb, hc, ht⟩ := hd
  subst e
  have hd : Hd t d (.l [.int a, .int b, .int c, .int d]) := ⟨a, b, c, rfl, hb, hc, ht⟩
  obtain ⟨ks, hk1, hk2, hk3⟩ := hE.keys
  have hEl := hE.len
  have key : ∃ r ms, runF T C (F_law_variable ix) [.l [.int a, .int b, .int c, .int d], wdM w wa wb, .d env] = some (r, ms) ∧ ∃ (x : Str) (h' : M), r = .v (.str x) ∧ ms = [h', wdM w wa wb, .d env] ∧ VarOk w x ∧ Hd (t + 2) d h' := by
    apply run_of rfl
    unfold F_law_variable
    show WSS _ _ [some _, some _, some _, none, none] _ _
    dsimp only
    (try walk_at "mn"); repeat walk_at "mS"
    refine we_comp (fun j ρ acc => ∃ (o : Option M) (l : List Str), ρ = [some (.l [.int a, .int b, .int c, .int d]), some (wdM w wa wb), some (.k (.d env)), none, o] ∧ acc = l.map PyData.str ∧ l.length ≤ j ∧ ∀ k ∈ l, VarOk w k) rfl ?_
    refine wi_lkk rfl (congrArg some hk1) ?_
    refine ⟨rfl, ⟨_, [], rfl, rfl, by simp, fun k hk => by (cases hk)⟩, fun j p ρ2 acc hp hI => ?_, fun ρ2 qs hI => ?_⟩
    · obtain ⟨o, l, rfl, rfl, hl, hlk⟩ := hI
      rw [List.getElem?_map] at hp
      obtain ⟨k, hk, rfl⟩ := Option.map_eq_some_iff.mp hp
      have hj := (List.getElem?_eq_some_iff.mp hk).1
      obtain ⟨hv, o2, ho2, _⟩ := hk3 k (List.mem_of_getElem? hk)
      (try walk_at "mn"); repeat walk_at "mS"
      refine lf_sub rfl (subKD ho2) ?_
      (try walk_at "mn"); repeat walk_at "mS"
      refine ⟨fun _ => ?_, fun _ => ?_⟩
      · exact ⟨_, l, rfl, rfl, by omega, hlk⟩
      · (try walk_at "mn"); repeat walk_at "mS"
        refine ⟨by rw [List.length_map]; show _ < 1000000; omega, _, l ++ [k], rfl, by rw [List.map_append]; rfl, by rw [List.length_append]; simp; omega, fun x hx => ?_⟩
        rcases List.mem_append.mp hx with c | c
        · exact hlk x c
        · simp at c; subst c; exact hv
    obtain ⟨o, l, rfl, rfl, hl, hlk⟩ := hI
    rw [List.length_map] at hl
    (try walk_at "mo")
    (try walk_at "mn"); repeat walk_at "mC"
    refine ws_cut (fun ρ => ∃ (h' : M), ρ = [some h', some (wdM w wa wb), some (.d env), some (.l (l.map PyData.str)), none] ∧ Hd (t + 1) d h') ?_ ?_
    · (try walk_at "mn"); repeat walk_at "mS"
      refine lf_cmp rfl rfl (ne_nil (shal_strs l)) ?_
      (try walk_at "mn"); repeat walk_at "mS"
      refine ⟨fun hne => ?_, fun hne => ?_⟩
      · (try walk_at "mn"); repeat walk_at "mS"
        obtain ⟨r1, h1, e1, k1, k2, hd1⟩ := hT _ d _ 4 hd (by omega) (by omega)
        refine ⟨_, _, e1, ?_⟩
        (try walk_at "mn"); repeat walk_at "mS"
        refine ⟨fun _ => ?_, fun _ => ?_⟩
        · (try walk_at "mn"); repeat walk_at "mS"
          have hlp : 0 < l.length := by
            cases l with
            | nil => cases hne
            | cons x r => simp
          obtain ⟨p2, h2, e2, k3, hd2⟩ := hO _ d _ (.l (l.map PyData.str)) (l.map PyData.str) hd1 (by omega) (Or.inl rfl) (by rw [List.length_map]; omega) (by rw [List.length_map]; omega)
          refine ⟨_, _, e2, ?_⟩
          (try walk_at "mn"); repeat walk_at "mS"
          obtain ⟨x, hx, rfl⟩ := List.mem_map.mp k3
          exact ⟨x, h2, rfl, rfl, hlk x hx, hd2.mono (by omega)⟩
        · (try walk_at "mn"); repeat walk_at "mS"
          exact hd1
      · (try walk_at "mn"); repeat walk_at "mS"
        exact hd.mono (by omega)
    rintro _ ⟨h1, rfl, hd1⟩
    (try walk_at "mn"); repeat walk_at "mS"
    rw [hk1]
    refine lf_bin rfl rfl (addLL (by rw [List.length_map, List.length_map, hW.vl]; omega)) ?_
    (try walk_at "mn"); repeat walk_at "mS"
    have hl2 : (w.vars.map PyData.str ++ ks.map PyData.str) = (w.vars ++ ks).map PyData.str := by rw [List.map_append]
    rw [hl2]
    obtain ⟨p2, h2, e2, k3, hd2⟩ := hO _ d _ (.l ((w.vars ++ ks).map PyData.str)) ((w.vars ++ ks).map PyData.str) hd1 (by omega) (Or.inl rfl) (by rw [List.length_map, List.length_append, hW.vl]; omega) (by rw [List.length_map, List.length_append, hW.vl]; omega)
    refine ⟨_, _, e2, ?_⟩
    (try walk_at "mn"); repeat walk_at "mS"
    obtain ⟨x, hx, rfl⟩ := List.mem_map.mp k3
    refine ⟨x, h2, rfl, rfl, ?_, hd2.mono (by omega)⟩
    rcases List.mem_append.mp hx with c | c
    · exact Or.inr (Or.inl c)
    · exact (hk3 x c).1
  obtain ⟨r, ms, e, x, h', rfl, rfl, q1, q2⟩ := key
  exact ⟨_, _, e, q1, q2⟩
theorem target_ok (ix : Ix) (T : Tab) (C : FnC) (hO : SpOf C ix.l_of) : ∀ (t d : Int) (h : M) (w : Wd) (a b env : List (Key × P)), Hd t d h → t + 10 ≤ LT → WdOk w → EnvOk w t env → ∃ (x : Str) (h' : M), runF T C (F_law_target ix) [h, wdM w a b, .d env] = some (.v (.str x), [h', wdM w a b, .d env]) ∧ (x ∈ w.vars ∨ x ∈ w.params) ∧ Hd (t + 1) d h' := by
  intro t d h w wa wb env hd hLT hW hE
  have hL : LT = 500000 := rfl
  obtain ⟨a, b, c, e, hb, hc, ht⟩ := hd
  subst e
  have hd : Hd t d (.l [.int a, .int b, .int c, .int d]) := ⟨a, b, c, rfl, hb, hc, ht⟩
  obtain ⟨ks, hk1, hk2, hk3⟩ := hE.keys
  have hEl := hE.len
  have key : ∃ r ms, runF T C (F_law_target ix) [.l [.int a, .int b, .int c, .int d], wdM w wa wb, .d env] = some (r, ms) ∧ ∃ (x : Str) (h' : M), r = .v (.str x) ∧ ms = [h', wdM w wa wb, .d env] ∧ (x ∈ w.vars ∨ x ∈ w.params) ∧ Hd (t + 1) d h' := by
    apply run_of rfl
    unfold F_law_target
    show WSS _ _ [some _, some _, some _, none] _ _
    dsimp only
    (try walk_at "mn"); repeat walk_at "mS"
    refine we_comp (fun j ρ acc => ∃ (o : Option M) (l : List Str), ρ = [some (.l [.int a, .int b, .int c, .int d]), some (wdM w wa wb), some (.k (.d env)), o] ∧ acc = l.map PyData.str ∧ l.length ≤ j ∧ ∀ k ∈ l, k ∈ w.params) rfl ?_
    refine wi_lkk rfl (congrArg some hk1) ?_
    refine ⟨rfl, ⟨_, [], rfl, rfl, by simp, fun k hk => by (cases hk)⟩, fun j p ρ2 acc hp hI => ?_, fun ρ2 qs hI => ?_⟩
    · obtain ⟨o, l, rfl, rfl, hl, hlk⟩ := hI
      rw [List.getElem?_map] at hp
      obtain ⟨k, hk, rfl⟩ := Option.map_eq_some_iff.mp hp
      have hj := (List.getElem?_eq_some_iff.mp hk).1
      (try walk_at "mn"); repeat walk_at "mS"
      refine lf_cmp rfl rfl (inn_strL k w.params) ?_
      (try walk_at "mn"); repeat walk_at "mS"
      refine ⟨fun _ => ?_, fun hin => ?_⟩
      · exact ⟨_, l, rfl, rfl, by omega, hlk⟩
      · (try walk_at "mn"); repeat walk_at "mS"
        refine ⟨by rw [List.length_map]; show _ < 1000000; omega, _, l ++ [k], rfl, by rw [List.map_append]; rfl, by rw [List.length_append]; simp; omega, fun x hx => ?_⟩
        rcases List.mem_append.mp hx with c | c
        · exact hlk x c
        · simp at c; subst c; exact of_decide_eq_true hin
    obtain ⟨o, l, rfl, rfl, hl, hlk⟩ := hI
    rw [List.length_map] at hl
    (try walk_at "mo")
    refine lf_bin rfl rfl (addLL (by rw [List.length_map, List.length_map, hW.vl]; omega)) ?_
    (try walk_at "mn"); repeat walk_at "mS"
    have hl2 : (w.vars.map PyData.str ++ l.map PyData.str) = (w.vars ++ l).map PyData.str := by rw [List.map_append]
    rw [hl2]
    obtain ⟨p2, h2, e2, k3, hd2⟩ := hO _ d _ (.l ((w.vars ++ l).map PyData.str)) ((w.vars ++ l).map PyData.str) hd (by omega) (Or.inl rfl) (by rw [List.length_map, List.length_append, hW.vl]; omega) (by rw [List.length_map, List.length_append, hW.vl]; omega)
    refine ⟨_, _, e2, ?_⟩
    (try walk_at "mn"); repeat walk_at "mS"
    obtain ⟨x, hx, rfl⟩ := List.mem_map.mp k3
    refine ⟨x, h2, rfl, rfl, ?_, hd2⟩
    rcases List.mem_append.mp hx with c | c
    · exact Or.inl c
    · exact Or.inr (hlk x c)
  obtain ⟨r, ms, e, x, h', rfl, rfl, q1, q2⟩ := key
  exact ⟨_, _, e, q1, q2⟩
/-- rows -/
inductive Rw where
  | make (x k : Str) | copy (x y : Str) | take (z y f : Str) | put (x f y : Str)
  | call (x y a d : Str) (args : List Str)
  | say (s : Str) | bring (k : Str) | again (a : List Rw) | either (a b : List Rw)
abbrev tg (s : String) : P := .str (Str.ofString s)
mutual
def Rw.toP : Rw → P
  | .make x k => .tuple [.str (Str.ofString "make"), .str x, .str k]
  | .copy x y => .tuple [.str (Str.ofString "copy"), .str x, .str y]
  | .take z y f => .tuple [.str (Str.ofString "take"), .str z, .str y, .str f]
  | .put x f y => .tuple [.str (Str.ofString "put"), .str x, .str f, .str y]
  | .call x y a d args => .tuple [.str (Str.ofString "call"), .str x, .str y, .str a, .str d, .tuple (args.map PyData.str)]
  | .say s => .tuple [.str (Str.ofString "say"), .str s]
  | .bring k => .tuple [.str (Str.ofString "bring"), .str k]
  | .again a => .tuple [.str (Str.ofString "again"), .tuple (rwsP a)]
  | .either a b => .tuple [.str (Str.ofString "either"), .tuple (rwsP a), .tuple (rwsP b)]
def rwsP : List Rw → List P
  | [] => []
  | r :: rs => r.toP :: rwsP rs
end
mutual
def Rw.size : Rw → Nat
  | .again a => 1 + rwsN a
  | .either a b => 1 + (rwsN a + rwsN b)
  | _ => 1
def rwsN : List Rw → Nat
  | [] => 0
  | r :: rs => r.size + rwsN rs
end
/-- a row as the drawing gives it -/
inductive RwOk (w : Wd) : Nat → Rw → Prop
  | make {n : Nat} {x k : Str} : (x ∈ w.vars ∨ x ∈ w.params) → k ∈ nmsT w.tr → RwOk w n (.make x k)
  | copy {n : Nat} {x y : Str} : (x ∈ w.vars ∨ x ∈ w.params) → VarOk w y → RwOk w n (.copy x y)
  | take {n : Nat} {z y f : Str} : (z ∈ w.vars ∨ z ∈ w.params) → VarOk w y → f ∈ w.fields → RwOk w n (.take z y f)
  | put {n : Nat} {x f y : Str} : VarOk w x → f ∈ w.fields → VarOk w y → RwOk w n (.put x f y)
  | call {n : Nat} {x y a d r : Str} {args l wl ol : List Str} : (x ∈ w.vars ∨ x ∈ w.params) → VarOk w y → a ∈ nmsT w.tr → d ∈ w.deeds → LineI w.tr a l → getA w.ownT (.inr d) = some (.list (ol.map PyData.str)) → (∃ k ∈ l, k ∈ ol) → getA w.rootT (.inr a) = some (.str r) → getA w.wantT [.inr r, .inr d] = some (.list (wl.map PyData.str)) → args.length = wl.length → (∀ v ∈ args, VarOk w v) → RwOk w n (.call x y a d args)
  | say {n : Nat} {s : Str} : s ∈ w.fields → RwOk w n (.say s)
  | bring {n : Nat} {k : Str} : k ∈ w.late → RwOk w n (.bring k)
  | again {n : Nat} {a : List Rw} : a.length ≤ 3 → (∀ r ∈ a, RwOk w n r) → RwOk w (n + 1) (.again a)
  | either {n : Nat} {a b : List Rw} : a.length ≤ 3 → b.length ≤ 3 → (∀ r ∈ a, RwOk w n r) → (∀ r ∈ b, RwOk w n r) → RwOk w (n + 1) (.either a b)
def SpMake (C : FnC) (i : Nat) : Prop := ∀ (t d : Int) (h : M) (w : Wd) (a b env : List (Key × P)), Hd t d h → t + 20 ≤ LT → WdOk w → EnvOk w t env → ∃ (r : Rw) (h' : M) (env' : List (Key × P)), C i [h, wdM w a b, .d env] = some (.v r.toP, [h', wdM w a b, .d env']) ∧ r.size = 1 ∧ (∀ n, RwOk w n r) ∧ EnvOk w (t + 3) env' ∧ Hd (t + 3) d h'
end Mn
open PySem
namespace Mn
def F_law_field (ix : Ix) : Fn := ⟨(Str.ofString "_law_field"), 3, [(Str.ofString "_law_hand_here"), (Str.ofString "_law_world_here"), (Str.ofString "_law_env"), (Str.ofString "_law_field_here"), (Str.ofString "_law_z"), (Str.ofString "_law_x"), (Str.ofString "_law_y")], (.cons (.par 5 6 (.call ix.l_variable (.cons (.pl 0) (.cons (.pl 1) (.cons (.pl 2) .nil)))) (.call ix.l_variable (.cons (.pl 0) (.cons (.pl 1) (.cons (.pl 2) .nil))))) (.cons (.asg (.nm 3) (.call ix.l_of (.cons (.pl 0) (.cons (.sub (.pl 1) (.ks (Str.ofString "fields"))) .nil)))) (.cons (.ifs (.cmp .eq (.call ix.l_take (.cons (.pl 0) (.cons (.ki 2) .nil))) (.ki 0)) (.cons (.stf 1 (Str.ofString "held") (.tk 3) (.mt .get (.pl 2) (.cons (.tk 6) .nil))) (.cons (.ret (.tup (.cons (.ks (Str.ofString "put")) (.cons (.tk 5) (.cons (.tk 3) (.cons (.tk 6) .nil)))))) .nil)) .nil) (.cons (.asg (.nm 4) (.call ix.l_target (.cons (.pl 0) (.cons (.pl 1) (.cons (.pl 2) .nil))))) (.cons (.sto 2 (.tk 4) (.getf 1 (Str.ofString "held") 3)) (.cons (.ret (.tup (.cons (.ks (Str.ofString "take")) (.cons (.tk 4) (.cons (.tk 6) (.cons (.tk 3) .nil)))))) .nil))))))⟩
theorem make_ok (ix : Ix) (T : Tab) (C : FnC) (hT : SpTake C ix.l_take) (hO : SpOf C ix.l_of) (hTg : SpTarget C ix.l_target) : ∀ (t d : Int) (h : M) (w : Wd) (a b env : List (Key × P)), Hd t d h → t + 20 ≤ LT → WdOk w → EnvOk w t env → ∃ (r : Rw) (h' : M) (env' : List (Key × P)), runF T C (F_law_make ix) [h, wdM w a b, .d env] = some (.v r.toP, [h', wdM w a b, .d env']) ∧ r.size = 1 ∧ (∀ n, RwOk w n r) ∧ EnvOk w (t + 3) env' ∧ Hd (t + 3) d h' := by
  intro t d h w wa wb env hd hLT hW hE
  have hL : LT = 500000 := rfl
  obtain ⟨a, b, c, e, hb, hc, ht⟩ := hd
  subst e
  have hd : Hd t d (.l [.int a, .int b, .int c, .int d]) := ⟨a, b, c, rfl, hb, hc, ht⟩
  have hEl := hE.len
  have hp0 := hW.pos
  have hp1 := hW.len
  have hnl : (nmsT w.tr).length = w.tr.length := by unfold nmsT; rw [List.length_map]
  have key : ∃ r ms, runF T C (F_law_make ix) [.l [.int a, .int b, .int c, .int d], wdM w wa wb, .d env] = some (r, ms) ∧ ∃ (r' : Rw) (h' : M) (env' : List (Key × P)), r = .v r'.toP ∧ ms = [h', wdM w wa wb, .d env'] ∧ r'.size = 1 ∧ (∀ n, RwOk w n r') ∧ EnvOk w (t + 3) env' ∧ Hd (t + 3) d h' := by
    apply run_of rfl
    unfold F_law_make
    show WSS _ _ [some _, some _, some _, none, none, none, none, none, none] _ _
    dsimp only
    (try walk_at "mn"); repeat walk_at "mS"
    refine we_comp (fun j ρ acc => ∃ (o1 o2 : Option M), ρ = [some (.l [.int a, .int b, .int c, .int d]), some (wdM w wa wb), some (.d env), none, none, none, none, o1, o2] ∧ acc = (nmsT (w.tr.take j)).map PyData.str) rfl ?_
    refine wi_of ?_
    (try walk_at "mn"); repeat walk_at "mS"
    refine ⟨rfl, ⟨_, _, rfl, rfl⟩, fun j p ρ2 acc hp hI => ?_, fun ρ2 qs hI => ?_⟩
    · obtain ⟨o1, o2, rfl, rfl⟩ := hI
      rw [List.getElem?_map] at hp
      obtain ⟨x, hx, rfl⟩ := Option.map_eq_some_iff.mp hp
      dsimp only [wipeE, List.set]
      refine ⟨_, bindT2 rfl rfl (Nat.le_of_ble_eq_true rfl) rfl rfl (Nat.le_of_ble_eq_true rfl), ?_⟩
      (try walk_at "mn"); repeat walk_at "mS"
      refine ⟨?_, _, _, rfl, ?_⟩
      · rw [List.length_map]; unfold nmsT; rw [List.length_map, List.length_take]; show _ < 1000000; omega
      · rw [List.take_succ, hx]; unfold nmsT; rw [List.map_append, List.map_append]; rfl
    rw [List.length_map, List.take_length] at hI
    obtain ⟨o1, o2, rfl, rfl⟩ := hI
    (try walk_at "mo")
    (try walk_at "mn"); repeat walk_at "mS"
    refine we_comp (fun j ρ acc => ∃ (o : Option M) (l : List Str), ρ = [some (.l [.int a, .int b, .int c, .int d]), some (wdM w wa wb), some (.d env), some (.k (.l ((nmsT w.tr).map PyData.str))), none, none, none, o, none] ∧ acc = l.map PyData.str ∧ l.length ≤ j ∧ (∀ k ∈ l, k ∈ nmsT w.tr) ∧ ∀ (i : Nat) k, i < j → (nmsT w.tr)[i]? = some k → k ∉ w.late → k ∈ l) rfl ?_
    refine wi_lkk rfl rfl ?_
    refine ⟨rfl, ⟨_, [], rfl, rfl, by simp, fun k hk => (by cases hk), fun i k hi => by omega⟩, fun j p ρ2 acc hp hI => ?_, fun ρ2 qs hI => ?_⟩
    · obtain ⟨o, l, rfl, rfl, hl, hlk, hla⟩ := hI
      rw [List.getElem?_map] at hp
      obtain ⟨k, hk, rfl⟩ := Option.map_eq_some_iff.mp hp
      have hj := (List.getElem?_eq_some_iff.mp hk).1
      (try walk_at "mn"); repeat walk_at "mS"
      refine lf_cmp rfl rfl (nin_strL k w.late) ?_
      (try walk_at "mn"); repeat walk_at "mS"
      refine ⟨fun hin => ?_, fun hin => ?_⟩
      · refine ⟨_, l, rfl, rfl, by omega, hlk, fun i k' hi hk' hnl => ?_⟩
        by_cases hij : i = j
        · subst hij
          rw [hk] at hk'
          cases hk'
          rw [decide_eq_false hnl] at hin
          cases hin
        · exact hla i k' (by omega) hk' hnl
      · (try walk_at "mn"); repeat walk_at "mS"
        refine ⟨by rw [List.length_map]; show _ < 1000000; omega, _, l ++ [k], rfl, by rw [List.map_append]; rfl, by rw [List.length_append]; simp; omega, fun x hx => ?_, fun i k' hi hk' hnl => ?_⟩
        · rcases List.mem_append.mp hx with c | c
          · exact hlk x c
          · simp at c; subst c; exact List.mem_of_getElem? hk
        · by_cases hij : i = j
          · subst hij
            rw [hk] at hk'
            cases hk'
            simp
          · exact List.mem_append_left _ (hla i k' (by omega) hk' hnl)
    obtain ⟨o, l, rfl, rfl, hl, hlk, hla⟩ := hI
    rw [List.length_map] at hl hla
    have hlp : 0 < l.length := by
      obtain ⟨x, hx⟩ : ∃ x, w.tr[0]? = some x := ⟨_, List.getElem?_eq_getElem (by omega)⟩
      have := hla 0 x.1 (by omega) (by unfold nmsT; rw [List.getElem?_map, hx]; rfl) (hW.tree.first x hx)
      exact List.length_pos_of_mem this
    (try walk_at "mo")
    (try walk_at "mn"); repeat walk_at "mS"
    obtain ⟨r1, h1, e1, k1, k2, hd1⟩ := hT _ d _ 3 hd (by omega) (by omega)
    refine ⟨_, _, e1, ?_⟩
    (try walk_at "mn"); repeat walk_at "mS"
    have hv : ∃ zs : List Str, [PyData.list (l.map PyData.str), .list (l.map PyData.str), .list ((nmsT w.tr).map PyData.str)][r1.toNat]? = some (.list (zs.map PyData.str)) ∧ 0 < zs.length ∧ zs.length ≤ 12 ∧ ∀ k ∈ zs, k ∈ nmsT w.tr := by
      have h4 : r1 = 0 ∨ r1 = 1 ∨ r1 = 2 := by omega
      rcases h4 with rfl | rfl | rfl
      · exact ⟨l, rfl, hlp, by omega, hlk⟩
      · exact ⟨l, rfl, hlp, by omega, hlk⟩
      · exact ⟨nmsT w.tr, rfl, by omega, by omega, fun k hk => hk⟩
    obtain ⟨zs, hz1, hz2, hz3, hz4⟩ := hv
    refine lf_sub rfl (subL k1 hz1) ?_
    (try walk_at "mn"); repeat walk_at "mS"
    obtain ⟨p2, h2, e2, k3, hd2⟩ := hO _ d _ (.v (.list (zs.map PyData.str))) (zs.map PyData.str) hd1 (by omega) (Or.inr rfl) (by rw [List.length_map]; omega) (by rw [List.length_map]; omega)
    refine ⟨_, _, e2, ?_⟩
    obtain ⟨k, hk, rfl⟩ := List.mem_map.mp k3
    (try walk_at "mn"); repeat walk_at "mS"
    obtain ⟨x, h3, e3, hx, hd3⟩ := hTg _ d _ w wa wb env hd2 (by omega) hW (hE.mono (by omega))
    refine ⟨_, _, e3, ?_⟩
    (try walk_at "mn"); repeat walk_at "mS"
    refine lf_sto rfl rfl (putM_d (by show _ < 1000000; omega)) ?_
    (try walk_at "mn"); repeat walk_at "mS"
    refine ⟨.make x k, h3, _, rfl, rfl, rfl, fun n => .make hx (hz4 k hk), (hE.put (o := some k) (Or.inr hx) (fun s hs => by cases hs; exact hz4 k hk)).mono (by omega), hd3.mono (by omega)⟩
  obtain ⟨r, ms, e, x, h', env', rfl, rfl, q1, q2, q3, q4⟩ := key
  exact ⟨_, _, _, e, q1, q2, q3, q4⟩
def SpField (C : FnC) (i : Nat) : Prop := ∀ (t d : Int) (h : M) (w : Wd) (a b env : List (Key × P)), Hd t d h → t + 20 ≤ LT → WdOk w → EnvOk w t env → HeldOk w t b → ∃ (r : Rw) (h' : M) (b' env' : List (Key × P)), C i [h, wdM w a b, .d env] = some (.v r.toP, [h', wdM w a b', .d env']) ∧ r.size = 1 ∧ (∀ n, RwOk w n r) ∧ EnvOk w (t + 8) env' ∧ HeldOk w (t + 8) b' ∧ Hd (t + 8) d h'
theorem get_d (kvs : List (Key × P)) (k : Str) : mtM .get (.d kvs) [.v (.str k)] = some (.v ((getA kvs (.inr k)).getD .none)) := rfl
theorem field_ok (ix : Ix) (T : Tab) (C : FnC) (hT : SpTake C ix.l_take) (hO : SpOf C ix.l_of) (hV : SpVar C ix.l_variable) (hTg : SpTarget C ix.l_target) : ∀ (t d : Int) (h : M) (w : Wd) (a b env : List (Key × P)), Hd t d h → t + 20 ≤ LT → WdOk w → EnvOk w t env → HeldOk w t b → ∃ (r : Rw) (h' : M) (b' env' : List (Key × P)), runF T C (F_law_field ix) [h, wdM w a b, .d env] = some (.v r.toP, [h', wdM w a b', .d env']) ∧ r.size = 1 ∧ (∀ n, RwOk w n r) ∧ EnvOk w (t + 8) env' ∧ HeldOk w (t + 8) b' ∧ Hd (t + 8) d h' := by
  intro t d h w wa wb env hd hLT hW hE hB
  have hL : LT = 500000 := rfl
  obtain ⟨a, b, c, e, hb, hc, ht⟩ := hd
  subst e
  have hd : Hd t d (.l [.int a, .int b, .int c, .int d]) := ⟨a, b, c, rfl, hb, hc, ht⟩
  have hEl := hE.len
  have hBl := hB.len
  have key : ∃ r ms, runF T C (F_law_field ix) [.l [.int a, .int b, .int c, .int d], wdM w wa wb, .d env] = some (r, ms) ∧ ∃ (r' : Rw) (h' : M) (b' env' : List (Key × P)), r = .v r'.toP ∧ ms = [h', wdM w wa b', .d env'] ∧ r'.size = 1 ∧ (∀ n, RwOk w n r') ∧ EnvOk w (t + 8) env' ∧ HeldOk w (t + 8) b' ∧ Hd (t + 8) d h' := by
    apply run_of rfl
    unfold F_law_field
    show WSS _ _ [some _, some _, some _, none, none, none, none] _ _
    dsimp only
    (try walk_at "mn"); repeat walk_at "mS"
    obtain ⟨x, h1, e1, hx, hd1⟩ := hV _ d _ w wa wb env hd (by omega) hW hE
    refine ⟨_, _, e1, ?_⟩
    (try walk_at "mn"); repeat walk_at "mS"
    obtain ⟨y, h2, e2, hy, hd2⟩ := hV _ d _ w wa wb env hd1 (by omega) hW (hE.mono (by omega))
    refine ⟨_, _, e2, ?_⟩
    (try walk_at "mn"); repeat walk_at "mS"
    refine ⟨_, _, rfl, rfl, ?_⟩
    (try walk_at "mn"); repeat walk_at "mS"
    obtain ⟨p3, h3, e3, k3, hd3⟩ := hO _ d _ (.v (.list (w.fields.map PyData.str))) (w.fields.map PyData.str) hd2 (by omega) (Or.inr rfl) (by rw [List.length_map, hW.fl]; omega) (by rw [List.length_map, hW.fl]; omega)
    refine ⟨_, _, e3, ?_⟩
    obtain ⟨f, hf, rfl⟩ := List.mem_map.mp k3
    (try walk_at "mn"); repeat walk_at "mS"
    obtain ⟨r4, h4, e4, k4, k5, hd4⟩ := hT _ d _ 2 hd3 (by omega) (by omega)
    refine ⟨_, _, e4, ?_⟩
    (try walk_at "mn"); repeat walk_at "mS"
    refine ⟨fun _ => ?_, fun _ => ?_⟩
    · (try walk_at "mn"); repeat walk_at "mS"
      refine ws_stf rfl ?_
      (try walk_at "mn"); repeat walk_at "mS"
      refine lf_mt rfl rfl (get_d _ _) ?_
      obtain ⟨o, ho, hok⟩ := hE.get (.inr y)
      rw [ho]
      refine ⟨_, _, _, rfl, rfl, wd_held w wa wb, ?_⟩
      (try walk_at "mn"); repeat walk_at "mS"
      refine ⟨_, _, rfl, rfl, rfl, by show _ < 1000000; omega, ?_⟩
      (try walk_at "mn"); repeat walk_at "mS"
      refine ⟨.put x f y, h4, putA wb (.inr f) (optP o), env, rfl, rfl, rfl, fun n => .put hx hf hy, hE.mono (by omega), (hB.put hok).mono (by omega), hd4.mono (by omega)⟩
    · (try walk_at "mn"); repeat walk_at "mS"
      obtain ⟨z, h5, e5, hz, hd5⟩ := hTg _ d _ w wa wb env hd4 (by omega) hW (hE.mono (by omega))
      refine ⟨_, _, e5, ?_⟩
      (try walk_at "mn"); repeat walk_at "mS"
      refine we_getf rfl rfl (wd_held w wa wb) rfl ?_
      obtain ⟨o, ho, hok⟩ := hB.get (.inr f)
      rw [ho]
      (try walk_at "mn"); repeat walk_at "mS"
      refine lf_sto rfl rfl (putM_d (by show _ < 1000000; omega)) ?_
      (try walk_at "mn"); repeat walk_at "mS"
      exact ⟨.take z y f, h5, wb, _, rfl, rfl, rfl, fun n => .take hz hy hf, (hE.put (Or.inr hz) hok).mono (by omega), hB.mono (by omega), hd5.mono (by omega)⟩
  obtain ⟨r, ms, e, x, h', b', env', rfl, rfl, q1, q2, q3, q4, q5⟩ := key
  exact ⟨_, _, _, _, e, q1, q2, q3, q4, q5⟩
end Mn
open PySem
namespace Mn
def F_law_args (ix : Ix) : Fn := ⟨(Str.ofString "_law_args"), 5, [(Str.ofString "_law_hand_here"), (Str.ofString "_law_world_here"), (Str.ofString "_law_env"), (Str.ofString "_law_above"), (Str.ofString "_law_deed_here"), (Str.ofString "_law_args_here"), (Str.ofString "_law_kind"), (Str.ofString "_law_some"), (Str.ofString "_law_x")], (.cons (.asg (.nm 5) (.lst .nil)) (.cons (.fr (.nm 6) (.of (.sub (.sub (.pl 1) (.ks (Str.ofString "wants"))) (.tup (.cons (.sub (.sub (.pl 1) (.ks (Str.ofString "roots"))) (.tk 3)) (.cons (.tk 4) .nil))))) (.cons (.asg (.nm 7) (.comp [8] (.nm 8) (.lk 2) (.cons (.ban (.cmp .notN (.sub (.pl 2) (.tk 8)) .kn) (.cmp .inn (.pl 6) (.call ix.l_line (.cons (.pl 1) (.cons (.sub (.pl 2) (.tk 8)) .nil))))) .nil) (.tk 8))) (.cons (.ifs (.ban (.cmp .ne (.pl 7) (.lst .nil)) (.cmp .gt (.call ix.l_take (.cons (.pl 0) (.cons (.ki 4) .nil))) (.ki 0))) (.cons (.app 5 (.call ix.l_of (.cons (.pl 0) (.cons (.pl 7) .nil)))) .nil) (.cons (.app 5 (.call ix.l_variable (.cons (.pl 0) (.cons (.pl 1) (.cons (.pl 2) .nil))))) .nil)) .nil))) (.cons (.ret (.bi .tup (.cons (.pl 5) .nil))) .nil)))⟩
theorem subFD {kvs : List (Key × P)} {s : Str} {p : P} (h : getA kvs (.inr s) = some p) : subM (.v (frzD kvs)) (.v (.str s)) = some (.v p) := by
  show (match getF (kvs.map fun kv => (ofKey kv.1, kv.2)) (ofKey (.inr s)) with
    | some (some q) => some (M.v q)
    | _ => none) = _
  rw [getF_D, h]
theorem subFT {kvs : List (List Key × P)} {r d : Str} {p : P} (h : getA kvs [.inr r, .inr d] = some p) : subM (.v (frzT kvs)) (.v (.tuple [.str r, .str d])) = some (.v p) := by
  show (match getF ((.none, .none) :: kvs.map fun kv => (ofKeys kv.1, kv.2)) (ofKeys [.inr r, .inr d]) with
    | some (some q) => some (M.v q)
    | _ => none) = _
  rw [getF_T, h]
theorem bools_map {α : Type} (f : α → Bool) : ∀ l : List α, boolsOf (l.map fun x => PyData.bool (f x)) = some (l.map f)
  | [] => rfl
  | x :: r => by
    rw [List.map_cons]
    unfold boolsOf
    rw [bools_map f r]; rfl
theorem any_map {α : Type} (f : α → Bool) (l : List α) : biM .any [.l (l.map fun x => PyData.bool (f x))] = some (.v (.bool (l.any f))) := by
  show (boolsOf _).map _ = _
  rw [bools_map]
  show some (M.v (.bool ((l.map f).any id))) = _
  rw [List.any_map]; rfl
theorem all_map {α : Type} (f : α → Bool) (l : List α) : biM .all [.l (l.map fun x => PyData.bool (f x))] = some (.v (.bool (l.all f))) := by
  show (boolsOf _).map _ = _
  rw [bools_map]
  show some (M.v (.bool ((l.map f).all id))) = _
  rw [List.all_map]; rfl
def SpHas (C : FnC) (i : Nat) : Prop := ∀ (w : Wd) (a b : List (Key × P)) (s d : Str), WdOk w → s ∈ nmsT w.tr → d ∈ w.deeds → ∃ l ol : List Str, LineI w.tr s l ∧ getA w.ownT (.inr d) = some (.list (ol.map PyData.str)) ∧ C i [wdM w a b, .v (.str s), .v (.str d)] = some (.v (.bool (l.any fun k => decide (k ∈ ol))), [wdM w a b, .v (.str s), .v (.str d)])
theorem has_ok (ix : Ix) (T : Tab) (C : FnC) (hLn : SpLine C ix.l_line) : ∀ (w : Wd) (a b : List (Key × P)) (s d : Str), WdOk w → s ∈ nmsT w.tr → d ∈ w.deeds → ∃ l ol : List Str, LineI w.tr s l ∧ getA w.ownT (.inr d) = some (.list (ol.map PyData.str)) ∧ runF T C (F_law_has ix) [wdM w a b, .v (.str s), .v (.str d)] = some (.v (.bool (l.any fun k => decide (k ∈ ol))), [wdM w a b, .v (.str s), .v (.str d)]) := by
  intro w a b s d hW hs hd
  obtain ⟨l, hl, hll, e1⟩ := hLn w a b s hW hs
  obtain ⟨ol, ho1, ho2, ho3⟩ := hW.own d hd
  refine ⟨l, ol, hl, ho1, ?_⟩
  have key : ∃ r ms, runF T C (F_law_has ix) [wdM w a b, .v (.str s), .v (.str d)] = some (r, ms) ∧ r = .v (.bool (l.any fun k => decide (k ∈ ol))) ∧ ms = [wdM w a b, .v (.str s), .v (.str d)] := by
    apply run_of rfl
    unfold F_law_has
    show WSS _ _ [some _, some _, some _, none] _ _
    dsimp only
    (try walk_at "mn"); repeat walk_at "mS"
    refine we_comp (fun j ρ acc => ∃ (o : Option M), ρ = [some (wdM w a b), some (.v (.str s)), some (.v (.str d)), o] ∧ acc = (l.take j).map fun k => .bool (decide (k ∈ ol))) rfl ?_
    refine wi_of ?_
    (try walk_at "mn"); repeat walk_at "mS"
    refine ⟨_, _, e1, ?_⟩
    (try walk_at "mn"); repeat walk_at "mS"
    refine ⟨rfl, ⟨_, rfl, rfl⟩, fun j p ρ2 acc hp hI => ?_, fun ρ2 qs hI => ?_⟩
    · obtain ⟨o, rfl, rfl⟩ := hI
      rw [List.getElem?_map] at hp
      obtain ⟨k, hk, rfl⟩ := Option.map_eq_some_iff.mp hp
      (try walk_at "mn"); repeat walk_at "mS"
      refine lf_sub rfl (subFD ho1) ?_
      refine lf_cmp rfl rfl (inn_strL k ol) ?_
      refine ⟨_, rfl, by rw [List.length_map, List.length_take]; show _ < 1000000; omega, _, rfl, ?_⟩
      rw [List.take_succ, hk, List.map_append]; rfl
    rw [List.length_map, List.take_length] at hI
    obtain ⟨o, rfl, rfl⟩ := hI
    (try walk_at "mo")
    (try walk_at "mn"); repeat walk_at "mS"
    refine lf_bi rfl (any_map _ l) ?_
    exact ⟨rfl, rfl⟩
  obtain ⟨r, ms, e, rfl, rfl⟩ := key
  exact e
def SpArgs (C : FnC) (i : Nat) : Prop := ∀ (t d : Int) (h : M) (w : Wd) (a b env : List (Key × P)) (av dd : Str), Hd t d h → t + 40 ≤ LT → WdOk w → EnvOk w t env → av ∈ nmsT w.tr → dd ∈ w.deeds → ∃ (xs : List Str) (h' : M) (r : Str) (wl : List Str), C i [h, wdM w a b, .d env, .v (.str av), .v (.str dd)] = some (.v (.tuple (xs.map PyData.str)), [h', wdM w a b, .d env, .v (.str av), .v (.str dd)]) ∧ getA w.rootT (.inr av) = some (.str r) ∧ getA w.wantT [.inr r, .inr dd] = some (.list (wl.map PyData.str)) ∧ xs.length = wl.length ∧ (∀ v ∈ xs, VarOk w v) ∧ Hd (t + 16) d h'
theorem args_ok (ix : Ix) (T : Tab) (C : FnC) (hT : SpTake C ix.l_take) (hO : SpOf C ix.l_of) (hV : SpVar C ix.l_variable) (hLn : SpLine C ix.l_line) : ∀ (t d : Int) (h : M) (w : Wd) (a b env : List (Key × P)) (av dd : Str), Hd t d h → t + 40 ≤ LT → WdOk w → EnvOk w t env → av ∈ nmsT w.tr → dd ∈ w.deeds → ∃ (xs : List Str) (h' : M) (r : Str) (wl : List Str), runF T C (F_law_args ix) [h, wdM w a b, .d env, .v (.str av), .v (.str dd)] = some (.v (.tuple (xs.map PyData.str)), [h', wdM w a b, .d env, .v (.str av), .v (.str dd)]) ∧ getA w.rootT (.inr av) = some (.str r) ∧ getA w.wantT [.inr r, .inr dd] = some (.list (wl.map PyData.str)) ∧ xs.length = wl.length ∧ (∀ v ∈ xs, VarOk w v) ∧ Hd (t + 16) d h' := by
  intro t d h w wa wb env av dd hd hLT hW hE hav hdd
  have hL : LT = 500000 := rfl
  obtain ⟨a, b, c, e, hb, hc, ht⟩ := hd
  subst e
  have hd : Hd t d (.l [.int a, .int b, .int c, .int d]) := ⟨a, b, c, rfl, hb, hc, ht⟩
  have hEl := hE.len
  obtain ⟨ks, hk1, hk2, hk3⟩ := hE.keys
  obtain ⟨r, wl, hr, hwl, hwl4, hwlm⟩ := hW.want av hav dd hdd
  have key : ∃ r ms, runF T C (F_law_args ix) [.l [.int a, .int b, .int c, .int d], wdM w wa wb, .d env, .v (.str av), .v (.str dd)] = some (r, ms) ∧ ∃ (xs : List Str) (h' : M), r = .v (.tuple (xs.map PyData.str)) ∧ ms = [h', wdM w wa wb, .d env, .v (.str av), .v (.str dd)] ∧ xs.length = wl.length ∧ (∀ v ∈ xs, VarOk w v) ∧ Hd (t + 16) d h' := by
    apply run_of rfl
    unfold F_law_args
    show WSS _ _ [some _, some _, some _, some _, some _, none, none, none, none] _ _
    dsimp only
    (try walk_at "mn"); repeat walk_at "mS"
    refine ws_fr (fun j ρ => ∃ (h' : M) (xs : List Str) (o6 o7 : Option M), ρ = [some h', some (wdM w wa wb), some (.d env), some (.v (.str av)), some (.v (.str dd)), some (.l (xs.map PyData.str)), o6, o7, none] ∧ isLk o6 = false ∧ isLk o7 = false ∧ xs.length = j ∧ (∀ v ∈ xs, VarOk w v) ∧ Hd (t + 4 * j) d h') rfl ?_
    refine wi_of ?_
    (try walk_at "mn"); repeat walk_at "mS"
    refine lf_sub rfl (subFD hr) ?_
    (try walk_at "mn"); repeat walk_at "mS"
    refine lf_sub rfl (subFT hwl) ?_
    (try walk_at "mn"); repeat walk_at "mS"
    refine ⟨⟨_, [], _, _, rfl, rfl, rfl, rfl, fun v hv => (by cases hv), hd.mono (by omega)⟩, fun j p ρ2 hp hI => ?_, fun ρ2 hI => ?_⟩
    · obtain ⟨h1, xs, o6, o7, rfl, v6, v7, hxl, hxs, hd1⟩ := hI
      rw [List.getElem?_map] at hp
      obtain ⟨kw, hkw, rfl⟩ := Option.map_eq_some_iff.mp hp
      have hj := (List.getElem?_eq_some_iff.mp hkw).1
      refine ⟨_, sto_go v6 rfl (Nat.le_of_ble_eq_true rfl), ?_⟩
      (try walk_at "mn"); repeat walk_at "mS"
      refine we_comp (fun j ρ acc => ∃ (o : Option M) (l : List Str), ρ = [some h1, some (wdM w wa wb), some (.k (.d env)), some (.v (.str av)), some (.v (.str dd)), some (.l (xs.map PyData.str)), some (.v (.str kw)), o7, o] ∧ acc = l.map PyData.str ∧ l.length ≤ j ∧ ∀ k ∈ l, VarOk w k) rfl ?_
      refine wi_lkk rfl (congrArg some hk1) ?_
      refine ⟨rfl, ⟨_, [], rfl, rfl, by simp, fun k hk => (by cases hk)⟩, fun j p ρ2 acc hp hI => ?_, fun ρ2 qs hI => ?_⟩
      · obtain ⟨o, l, rfl, rfl, hl, hlk⟩ := hI
        rw [List.getElem?_map] at hp
        obtain ⟨k, hk, rfl⟩ := Option.map_eq_some_iff.mp hp
        have hj := (List.getElem?_eq_some_iff.mp hk).1
        obtain ⟨hv, o2, ho2, hok⟩ := hk3 k (List.mem_of_getElem? hk)
        (try walk_at "mn"); repeat walk_at "mS"
        refine lf_sub rfl (subKD ho2) ?_
        (try walk_at "mn"); repeat walk_at "mS"
        refine ⟨fun hb => ?_, fun hb => ?_⟩
        · cases o2 with
          | none => cases hb
          | some s =>
            (try walk_at "mn"); repeat walk_at "mS"
            refine lf_sub rfl (subKD ho2) ?_
            (try walk_at "mn"); repeat walk_at "mS"
            obtain ⟨ll, _, hll, e5⟩ := hLn w wa wb s hW (hok s rfl)
            refine ⟨_, _, e5, ?_⟩
            (try walk_at "mn"); repeat walk_at "mS"
            refine lf_cmp rfl rfl (inn_strl kw ll) ?_
            (try walk_at "mn"); repeat walk_at "mS"
            refine ⟨fun _ => ?_, fun _ => ?_⟩
            · exact ⟨_, l, rfl, rfl, by omega, hlk⟩
            · (try walk_at "mn"); repeat walk_at "mS"
              refine ⟨by rw [List.length_map]; show _ < 1000000; omega, _, l ++ [k], rfl, by rw [List.map_append]; rfl, by rw [List.length_append]; simp; omega, fun x hx => ?_⟩
              rcases List.mem_append.mp hx with c | c
              · exact hlk x c
              · simp at c; subst c; exact hv
        · (try walk_at "mn"); repeat walk_at "mS"
          exact ⟨_, l, rfl, rfl, by omega, hlk⟩
      obtain ⟨o, l, rfl, rfl, hl, hlk⟩ := hI
      rw [List.length_map] at hl
      (try walk_at "mo")
      refine lf_ex1 (sto_go v7 rfl (Nat.le_of_ble_eq_true rfl)) ?_
      (try walk_at "mn"); repeat walk_at "mS"
      refine lf_cmp rfl rfl (ne_nil (shal_strs l)) ?_
      (try walk_at "mn"); repeat walk_at "mS"
      have fin : ∀ (h2 : M) (x : Str), VarOk w x → Hd (t + 4 * ((j : Int) + 1)) d h2 → ∃ (h' : M) (xs' : List Str) (o6 o7 : Option M), [some h2, some (wdM w wa wb), some (.d env), some (.v (.str av)), some (.v (.str dd)), some (.l (xs.map PyData.str ++ [.str x])), some (.v (.str kw)), some (.l (l.map PyData.str)), none] = [some h', some (wdM w wa wb), some (.d env), some (.v (.str av)), some (.v (.str dd)), some (.l (xs'.map PyData.str)), o6, o7, none] ∧ isLk o6 = false ∧ isLk o7 = false ∧ xs'.length = j + 1 ∧ (∀ v ∈ xs', VarOk w v) ∧ Hd (t + 4 * ((j + 1 : Nat) : Int)) d h' := fun h2 x hx hd2 => ⟨h2, xs ++ [x], _, _, by rw [List.map_append]; rfl, rfl, rfl, by rw [List.length_append, hxl]; rfl, fun v hv => by
        rcases List.mem_append.mp hv with c | c
        · exact hxs v c
        · simp at c; subst c; exact hx, hd2.mono (by omega)⟩
      have els : ∀ h2, Hd (t + 4 * (j : Int) + 1) d h2 → ∃ (x : Str) (h3 : M), C ix.l_variable [h2, wdM w wa wb, .d env] = some (.v (.str x), [h3, wdM w wa wb, .d env]) ∧ VarOk w x ∧ Hd (t + 4 * (j : Int) + 1 + 2) d h3 := fun h2 hd2 => hV _ d h2 w wa wb env hd2 (by omega) hW (hE.mono (by omega))
      refine ⟨fun hne => ?_, fun hne => ?_⟩
      · (try walk_at "mn"); repeat walk_at "mS"
        obtain ⟨r1, h2, e1, k1, k2, hd2⟩ := hT _ d _ 4 hd1 (by omega) (by omega)
        refine ⟨_, _, e1, ?_⟩
        (try walk_at "mn"); repeat walk_at "mS"
        refine ⟨fun _ => ?_, fun _ => ?_⟩
        · (try walk_at "mn"); repeat walk_at "mS"
          have hlp : 0 < l.length := by
            cases l with
            | nil => cases hne
            | cons x r => simp
          obtain ⟨p3, h3, e3, k3, hd3⟩ := hO _ d _ (.l (l.map PyData.str)) (l.map PyData.str) hd2 (by omega) (Or.inl rfl) (by rw [List.length_map]; omega) (by rw [List.length_map]; omega)
          refine ⟨_, _, e3, ?_⟩
          obtain ⟨x, hx, rfl⟩ := List.mem_map.mp k3
          (try walk_at "mn"); repeat walk_at "mS"
          refine lf_app rfl rfl (by rw [List.length_map]; show _ < 1000000; omega) ?_
          (try walk_at "mn"); repeat walk_at "mS"
          exact fin h3 x (hlk x hx) (hd3.mono (by omega))
        · (try walk_at "mn"); repeat walk_at "mS"
          obtain ⟨x, h3, e3, hx, hd3⟩ := els h2 hd2
          refine ⟨_, _, e3, ?_⟩
          (try walk_at "mn"); repeat walk_at "mS"
          refine lf_app rfl rfl (by rw [List.length_map]; show _ < 1000000; omega) ?_
          (try walk_at "mn"); repeat walk_at "mS"
          exact fin h3 x hx (hd3.mono (by omega))
      · (try walk_at "mn"); repeat walk_at "mS"
        obtain ⟨x, h3, e3, hx, hd3⟩ := els h1 (hd1.mono (by omega))
        refine ⟨_, _, e3, ?_⟩
        (try walk_at "mn"); repeat walk_at "mS"
        refine lf_app rfl rfl (by rw [List.length_map]; show _ < 1000000; omega) ?_
        (try walk_at "mn"); repeat walk_at "mS"
        exact fin h3 x hx (hd3.mono (by omega))
    · rw [List.length_map] at hI
      obtain ⟨h1, xs, o6, o7, rfl, v6, v7, hxl, hxs, hd1⟩ := hI
      (try walk_at "mn"); repeat walk_at "mS"
      exact ⟨xs, h1, rfl, rfl, hxl, hxs, hd1.mono (by omega)⟩
  obtain ⟨r', ms, e, xs, h', rfl, rfl, q1, q2, q3⟩ := key
  exact ⟨xs, _, r, wl, e, hr, hwl, q1, q2, q3⟩
end Mn
open PySem
namespace Mn
def F_law_call (ix : Ix) : Fn := ⟨(Str.ofString "_law_call"), 4, [(Str.ofString "_law_hand_here"), (Str.ofString "_law_world_here"), (Str.ofString "_law_env"), (Str.ofString "_law_level"), (Str.ofString "_law_y"), (Str.ofString "_law_kind"), (Str.ofString "_law_some"), (Str.ofString "_law_ways"), (Str.ofString "_law_deed_here"), (Str.ofString "_law_args_here"), (Str.ofString "_law_x"), (Str.ofString "_law_above"), (Str.ofString "_law_one"), (Str.ofString "_law_name"), (Str.ofString "_law_elder")], (.cons (.asg (.nm 4) (.call ix.l_variable (.cons (.pl 0) (.cons (.pl 1) (.cons (.pl 2) .nil))))) (.cons (.asg (.nm 5) (.mt .get (.pl 2) (.cons (.tk 4) .nil))) (.cons (.ifs (.cmp .isN (.pl 5) .kn) (.cons (.asg (.nm 5) (.call ix.l_of (.cons (.pl 0) (.cons (.comp [13, 14] (.tp [(.nm 13), (.nm 14)]) (.of (.sub (.pl 1) (.ks (Str.ofString "tree")))) .nil (.tk 13)) .nil)))) .nil) .nil) (.cons (.asg (.nm 6) (.slc (.sub (.pl 1) (.ks (Str.ofString "deeds"))) (.bin .add (.pl 3) (.ki 1)) .no)) (.cons (.ifs (.cmp .eq (.call ix.l_take (.cons (.pl 0) (.cons (.ki 8) .nil))) (.ki 0)) (.cons (.asg (.nm 6) (.sub (.pl 1) (.ks (Str.ofString "deeds")))) .nil) .nil) (.cons (.asg (.nm 7) (.lst .nil)) (.cons (.fr (.nm 8) (.lk 6) (.cons (.ext 7 (.comp [12] (.nm 12) (.of (.call ix.l_line (.cons (.pl 1) (.cons (.pl 5) .nil)))) (.cons (.call ix.l_has (.cons (.pl 1) (.cons (.pl 12) (.cons (.pl 8) .nil)))) .nil) (.tup (.cons (.tk 12) (.cons (.tk 8) .nil))))) .nil)) (.cons (.ifs (.cmp .eq (.pl 7) (.lst .nil)) (.cons (.ret (.call ix.l_make (.cons (.pl 0) (.cons (.pl 1) (.cons (.pl 2) .nil))))) .nil) .nil) (.cons (.asg (.tp [(.nm 11), (.nm 8)]) (.call ix.l_of (.cons (.pl 0) (.cons (.pl 7) .nil)))) (.cons (.asg (.nm 9) (.call ix.l_args (.cons (.pl 0) (.cons (.pl 1) (.cons (.pl 2) (.cons (.pl 11) (.cons (.pl 8) .nil))))))) (.cons (.asg (.nm 10) (.call ix.l_target (.cons (.pl 0) (.cons (.pl 1) (.cons (.pl 2) .nil))))) (.cons (.sto 2 (.tk 10) (.getf 1 (Str.ofString "told") 8)) (.cons (.ret (.tup (.cons (.ks (Str.ofString "call")) (.cons (.tk 10) (.cons (.tk 4) (.cons (.tk 11) (.cons (.tk 8) (.cons (.tk 9) .nil)))))))) .nil)))))))))))))⟩
def wayP (x : Str × Str) : P := .tuple [.str x.1, .str x.2]
def WayOk (w : Wd) (x : Str × Str) : Prop := x.1 ∈ nmsT w.tr ∧ x.2 ∈ w.deeds ∧ ∃ l ol : List Str, LineI w.tr x.1 l ∧ getA w.ownT (.inr x.2) = some (.list (ol.map PyData.str)) ∧ ∃ k ∈ l, k ∈ ol
theorem shal_way (x : Str × Str) : Shal (wayP x) := ⟨by show PyData.depth _ ≤ 60; unfold wayP; simp [PyData.depth, PyData.depthAll], rfl⟩
theorem cut_mem {α : Type} {l : List α} {lo hi : Option Int} {x : α} (h : x ∈ cut l lo hi) : x ∈ l := by
  unfold cut at h
  exact List.mem_of_mem_drop (List.mem_of_mem_take h)
theorem cut_len {α : Type} (l : List α) (lo hi : Option Int) : (cut l lo hi).length ≤ l.length := by
  unfold cut
  rw [List.length_take, List.length_drop]
  omega
def SpCall (C : FnC) (i : Nat) : Prop := ∀ (t d : Int) (h : M) (w : Wd) (a b env : List (Key × P)) (lvl : Int), Hd t d h → t + 60 ≤ LT → WdOk w → EnvOk w t env → HeldOk w t a → ∃ (r : Rw) (h' : M) (env' : List (Key × P)), C i [h, wdM w a b, .d env, .v (.int lvl)] = some (.v r.toP, [h', wdM w a b, .d env', .v (.int lvl)]) ∧ r.size = 1 ∧ (∀ n, RwOk w n r) ∧ EnvOk w (t + 30) env' ∧ Hd (t + 30) d h'
theorem call_ok (ix : Ix) (T : Tab) (C : FnC) (hT : SpTake C ix.l_take) (hO : SpOf C ix.l_of) (hV : SpVar C ix.l_variable) (hTg : SpTarget C ix.l_target) (hMk : SpMake C ix.l_make) (hAr : SpArgs C ix.l_args) (hLn : SpLine C ix.l_line) (hHs : SpHas C ix.l_has) : ∀ (t d : Int) (h : M) (w : Wd) (a b env : List (Key × P)) (lvl : Int), Hd t d h → t + 60 ≤ LT → WdOk w → EnvOk w t env → HeldOk w t a → ∃ (r : Rw) (h' : M) (env' : List (Key × P)), runF T C (F_law_call ix) [h, wdM w a b, .d env, .v (.int lvl)] = some (.v r.toP, [h', wdM w a b, .d env', .v (.int lvl)]) ∧ r.size = 1 ∧ (∀ n, RwOk w n r) ∧ EnvOk w (t + 30) env' ∧ Hd (t + 30) d h' := by
  intro t d h w wa wb env lvl hd hLT hW hE hA
  have hL : LT = 500000 := rfl
  obtain ⟨a, b, c, e, hb, hc, ht⟩ := hd
  subst e
  have hd : Hd t d (.l [.int a, .int b, .int c, .int d]) := ⟨a, b, c, rfl, hb, hc, ht⟩
  have hEl := hE.len
  have hp0 := hW.pos
  have hp1 := hW.len
  have hd6 := hW.dlen
  have hnl : (nmsT w.tr).length = w.tr.length := by unfold nmsT; rw [List.length_map]
  have key : ∃ r ms, runF T C (F_law_call ix) [.l [.int a, .int b, .int c, .int d], wdM w wa wb, .d env, .v (.int lvl)] = some (r, ms) ∧ ∃ (r' : Rw) (h' : M) (env' : List (Key × P)), r = .v r'.toP ∧ ms = [h', wdM w wa wb, .d env', .v (.int lvl)] ∧ r'.size = 1 ∧ (∀ n, RwOk w n r') ∧ EnvOk w (t + 30) env' ∧ Hd (t + 30) d h' := by
    apply run_of rfl
    unfold F_law_call
    show WSS _ _ [some _, some _, some _, some _, none, none, none, none, none, none, none, none, none, none, none] _ _
    dsimp only
    (try walk_at "mn"); repeat walk_at "mS"
    obtain ⟨y, h1, e1, hy, hd1⟩ := hV _ d _ w wa wb env hd (by omega) hW hE
    refine ⟨_, _, e1, ?_⟩
    (try walk_at "mn"); repeat walk_at "mC"
    refine lf_mt rfl rfl (get_d _ _) ?_
    obtain ⟨o5, ho5, hok5⟩ := hE.get (.inr y)
    rw [ho5]
    (try walk_at "mn"); repeat walk_at "mC"
    refine ws_cut (fun ρ => ∃ (h' : M) (kd : Str), ρ = [some h', some (wdM w wa wb), some (.d env), some (.v (.int lvl)), some (.v (.str y)), some (.v (.str kd)), none, none, none, none, none, none, none, none, none] ∧ kd ∈ nmsT w.tr ∧ Hd (t + 3) d h') ?_ ?_
    · (try walk_at "mn"); repeat walk_at "mS"
      refine ⟨fun hn => ?_, fun hn => ?_⟩
      · (try walk_at "mn"); repeat walk_at "mS"
        refine we_comp (fun j ρ acc => ∃ (o1 o2 : Option M), ρ = [some h1, some (wdM w wa wb), some (.d env), some (.v (.int lvl)), some (.v (.str y)), some (.v (optP o5)), none, none, none, none, none, none, none, o1, o2] ∧ acc = (nmsT (w.tr.take j)).map PyData.str) rfl ?_
        refine wi_of ?_
        (try walk_at "mn"); repeat walk_at "mS"
        refine ⟨rfl, ⟨_, _, rfl, rfl⟩, fun j p ρ2 acc hp hI => ?_, fun ρ2 qs hI => ?_⟩
        · obtain ⟨o1, o2, rfl, rfl⟩ := hI
          rw [List.getElem?_map] at hp
          obtain ⟨x, hx, rfl⟩ := Option.map_eq_some_iff.mp hp
          dsimp only [wipeE, List.set]
          refine ⟨_, bindT2 rfl rfl (Nat.le_of_ble_eq_true rfl) rfl rfl (Nat.le_of_ble_eq_true rfl), ?_⟩
          (try walk_at "mn"); repeat walk_at "mS"
          refine ⟨?_, _, _, rfl, ?_⟩
          · rw [List.length_map]; unfold nmsT; rw [List.length_map, List.length_take]; show _ < 1000000; omega
          · rw [List.take_succ, hx]; unfold nmsT; rw [List.map_append, List.map_append]; rfl
        rw [List.length_map, List.take_length] at hI
        obtain ⟨o1, o2, rfl, rfl⟩ := hI
        (try walk_at "mo")
        (try walk_at "mn"); repeat walk_at "mS"
        obtain ⟨p2, h2, e2, k2, hd2⟩ := hO _ d _ (.l ((nmsT w.tr).map PyData.str)) ((nmsT w.tr).map PyData.str) hd1 (by omega) (Or.inl rfl) (by rw [List.length_map]; omega) (by rw [List.length_map]; omega)
        refine ⟨_, _, e2, ?_⟩
        obtain ⟨kd, hkd, rfl⟩ := List.mem_map.mp k2
        (try walk_at "mn"); repeat walk_at "mS"
        exact ⟨h2, kd, rfl, hkd, hd2.mono (by omega)⟩
      · cases o5 with
        | none => cases hn
        | some kd =>
          (try walk_at "mn"); repeat walk_at "mS"
          exact ⟨h1, kd, rfl, hok5 kd rfl, hd1.mono (by omega)⟩
    rintro _ ⟨h2, kd, rfl, hkd, hd2⟩
    (try walk_at "mn"); repeat walk_at "mC"
    refine ws_cut (fun ρ => ∃ (h' : M) (zs : List Str) (o6 : Option M), ρ = [some h', some (wdM w wa wb), some (.d env), some (.v (.int lvl)), some (.v (.str y)), some (.v (.str kd)), o6, none, none, none, none, none, none, none, none] ∧ (o6 = some (.l (zs.map PyData.str)) ∨ o6 = some (.v (.list (zs.map PyData.str)))) ∧ zs.length ≤ 6 ∧ (∀ z ∈ zs, z ∈ w.deeds) ∧ Hd (t + 4) d h') ?_ ?_
    · (try walk_at "mn"); repeat walk_at "mS"
      obtain ⟨r3, h3, e3, _, _, hd3⟩ := hT _ d _ 8 hd2 (by omega) (by omega)
      refine ⟨_, _, e3, ?_⟩
      (try walk_at "mn"); repeat walk_at "mS"
      refine ⟨fun _ => ?_, fun _ => ?_⟩
      · (try walk_at "mn"); repeat walk_at "mS"
        exact ⟨h3, w.deeds, _, rfl, Or.inr rfl, hd6, fun z hz => hz, hd3.mono (by omega)⟩
      · (try walk_at "mn"); repeat walk_at "mS"
        refine ⟨h3, cut w.deeds (some (lvl + 1)) none, _, rfl, Or.inl (by rw [cut_map]), Nat.le_trans (cut_len _ _ _) hd6, fun z hz => cut_mem hz, hd3.mono (by omega)⟩
    rintro _ ⟨h3, zs, o6, rfl, ho6, hzl, hzm, hd3⟩
    (try walk_at "mn"); repeat walk_at "mC"
    refine ws_cut (fun ρ => ∃ (ps : List (Str × Str)) (o6 o8 : Option M), ρ = [some h3, some (wdM w wa wb), some (.d env), some (.v (.int lvl)), some (.v (.str y)), some (.v (.str kd)), o6, some (.l (ps.map wayP)), o8, none, none, none, none, none, none] ∧ isLk o8 = false ∧ ps.length ≤ 72 ∧ ∀ x ∈ ps, WayOk w x) ?_ ?_
    · rcases ho6 with rfl | rfl
      · skip
        refine ws_fr (fun j ρ => ∃ (ps : List (Str × Str)) (o8 : Option M), ρ = [some h3, some (wdM w wa wb), some (.d env), some (.v (.int lvl)), some (.v (.str y)), some (.v (.str kd)), some (.k (.l (zs.map PyData.str))), some (.l (ps.map wayP)), o8, none, none, none, none, none, none] ∧ isLk o8 = false ∧ ps.length ≤ 12 * j ∧ ∀ x ∈ ps, WayOk w x) rfl ?_
        refine wi_lkk rfl rfl ?_
        refine ⟨⟨[], _, rfl, rfl, by simp, fun x hx => (by cases hx)⟩, fun j p ρ2 hp hI => ?_, fun ρ2 hI => ?_⟩
        · obtain ⟨ps, o8, rfl, u8, hpl, hps⟩ := hI
          rw [List.getElem?_map] at hp
          obtain ⟨dd, hdd, rfl⟩ := Option.map_eq_some_iff.mp hp
          have hj := (List.getElem?_eq_some_iff.mp hdd).1
          have hddm : dd ∈ w.deeds := hzm dd (List.mem_of_getElem? hdd)
          refine ⟨_, sto_go u8 rfl (Nat.le_of_ble_eq_true rfl), ?_⟩
          (try walk_at "mn"); repeat walk_at "mS"
          refine we_comp (fun i ρ acc => ∃ (o : Option M) (qs : List (Str × Str)), ρ = [some h3, some (wdM w wa wb), some (.d env), some (.v (.int lvl)), some (.v (.str y)), some (.v (.str kd)), some (.k (.l (zs.map PyData.str))), some (.l (ps.map wayP)), some (.v (.str dd)), none, none, none, o, none, none] ∧ acc = qs.map wayP ∧ qs.length ≤ i ∧ ∀ x ∈ qs, WayOk w x) rfl ?_
          refine wi_of ?_
          (try walk_at "mn"); repeat walk_at "mS"
          obtain ⟨ll, hll, hl12, e6⟩ := hLn w wa wb kd hW hkd
          refine ⟨_, _, e6, ?_⟩
          (try walk_at "mn"); repeat walk_at "mS"
          refine ⟨rfl, ⟨_, [], rfl, rfl, by simp, fun x hx => (by cases hx)⟩, fun i p ρ2 acc hp hI => ?_, fun ρ2 qs hI => ?_⟩
          · obtain ⟨o, qs, rfl, rfl, hql, hqs⟩ := hI
            rw [List.getElem?_map] at hp
            obtain ⟨k, hk, rfl⟩ := Option.map_eq_some_iff.mp hp
            have hi := (List.getElem?_eq_some_iff.mp hk).1
            have hkm : k ∈ nmsT w.tr := hll.mem.2 k (List.mem_of_getElem? hk)
            obtain ⟨l2, ol, hl2, hol, e7⟩ := hHs w wa wb k dd hW hkm hddm
            (try walk_at "mn"); repeat walk_at "mS"
            refine ⟨_, _, e7, ?_⟩
            (try walk_at "mn"); repeat walk_at "mS"
            refine ⟨fun _ => ?_, fun hany => ?_⟩
            · exact ⟨_, qs, rfl, rfl, by omega, hqs⟩
            · (try walk_at "mn"); repeat walk_at "mS"
              refine ⟨by rw [List.length_map]; show _ < 1000000; omega, _, qs ++ [(k, dd)], rfl, by rw [List.map_append]; rfl, by rw [List.length_append]; simp; omega, fun x hx => ?_⟩
              rcases List.mem_append.mp hx with c | c
              · exact hqs x c
              · simp at c; subst c
                obtain ⟨k', hk', hk2⟩ := List.any_eq_true.mp hany
                exact ⟨hkm, hddm, l2, ol, hl2, hol, k', hk', of_decide_eq_true hk2⟩
          obtain ⟨o, qs, rfl, rfl, hql, hqs⟩ := hI
          rw [List.length_map] at hql
          (try walk_at "mo")
          refine ⟨_, _, rfl, rfl, by rw [List.length_map, List.length_map]; show _ ≤ 1000000; omega, ?_⟩
          (try walk_at "mn"); repeat walk_at "mS"
          refine ⟨ps ++ qs, _, by rw [List.map_append], rfl, by rw [List.length_append]; omega, fun x hx => ?_⟩
          rcases List.mem_append.mp hx with c | c
          · exact hps x c
          · exact hqs x c
        rw [List.length_map] at hI
        obtain ⟨ps, o8, rfl, u8, hpl, hps⟩ := hI
        (try walk_at "mo")
        exact ⟨ps, _, _, rfl, u8, by omega, hps⟩
      · skip
        refine ws_fr (fun j ρ => ∃ (ps : List (Str × Str)) (o8 : Option M), ρ = [some h3, some (wdM w wa wb), some (.d env), some (.v (.int lvl)), some (.v (.str y)), some (.v (.str kd)), some (.v (.list (zs.map PyData.str))), some (.l (ps.map wayP)), o8, none, none, none, none, none, none] ∧ isLk o8 = false ∧ ps.length ≤ 12 * j ∧ ∀ x ∈ ps, WayOk w x) rfl ?_
        refine wi_lkv rfl rfl ?_
        refine ⟨⟨[], _, rfl, rfl, by simp, fun x hx => (by cases hx)⟩, fun j p ρ2 hp hI => ?_, fun ρ2 hI => ?_⟩
        · obtain ⟨ps, o8, rfl, u8, hpl, hps⟩ := hI
          rw [List.getElem?_map] at hp
          obtain ⟨dd, hdd, rfl⟩ := Option.map_eq_some_iff.mp hp
          have hj := (List.getElem?_eq_some_iff.mp hdd).1
          have hddm : dd ∈ w.deeds := hzm dd (List.mem_of_getElem? hdd)
          refine ⟨_, sto_go u8 rfl (Nat.le_of_ble_eq_true rfl), ?_⟩
          (try walk_at "mn"); repeat walk_at "mS"
          refine we_comp (fun i ρ acc => ∃ (o : Option M) (qs : List (Str × Str)), ρ = [some h3, some (wdM w wa wb), some (.d env), some (.v (.int lvl)), some (.v (.str y)), some (.v (.str kd)), some (.v (.list (zs.map PyData.str))), some (.l (ps.map wayP)), some (.v (.str dd)), none, none, none, o, none, none] ∧ acc = qs.map wayP ∧ qs.length ≤ i ∧ ∀ x ∈ qs, WayOk w x) rfl ?_
          refine wi_of ?_
          (try walk_at "mn"); repeat walk_at "mS"
          obtain ⟨ll, hll, hl12, e6⟩ := hLn w wa wb kd hW hkd
          refine ⟨_, _, e6, ?_⟩
          (try walk_at "mn"); repeat walk_at "mS"
          refine ⟨rfl, ⟨_, [], rfl, rfl, by simp, fun x hx => (by cases hx)⟩, fun i p ρ2 acc hp hI => ?_, fun ρ2 qs hI => ?_⟩
          · obtain ⟨o, qs, rfl, rfl, hql, hqs⟩ := hI
            rw [List.getElem?_map] at hp
            obtain ⟨k, hk, rfl⟩ := Option.map_eq_some_iff.mp hp
            have hi := (List.getElem?_eq_some_iff.mp hk).1
            have hkm : k ∈ nmsT w.tr := hll.mem.2 k (List.mem_of_getElem? hk)
            obtain ⟨l2, ol, hl2, hol, e7⟩ := hHs w wa wb k dd hW hkm hddm
            (try walk_at "mn"); repeat walk_at "mS"
            refine ⟨_, _, e7, ?_⟩
            (try walk_at "mn"); repeat walk_at "mS"
            refine ⟨fun _ => ?_, fun hany => ?_⟩
            · exact ⟨_, qs, rfl, rfl, by omega, hqs⟩
            · (try walk_at "mn"); repeat walk_at "mS"
              refine ⟨by rw [List.length_map]; show _ < 1000000; omega, _, qs ++ [(k, dd)], rfl, by rw [List.map_append]; rfl, by rw [List.length_append]; simp; omega, fun x hx => ?_⟩
              rcases List.mem_append.mp hx with c | c
              · exact hqs x c
              · simp at c; subst c
                obtain ⟨k', hk', hk2⟩ := List.any_eq_true.mp hany
                exact ⟨hkm, hddm, l2, ol, hl2, hol, k', hk', of_decide_eq_true hk2⟩
          obtain ⟨o, qs, rfl, rfl, hql, hqs⟩ := hI
          rw [List.length_map] at hql
          (try walk_at "mo")
          refine ⟨_, _, rfl, rfl, by rw [List.length_map, List.length_map]; show _ ≤ 1000000; omega, ?_⟩
          (try walk_at "mn"); repeat walk_at "mS"
          refine ⟨ps ++ qs, _, by rw [List.map_append], rfl, by rw [List.length_append]; omega, fun x hx => ?_⟩
          rcases List.mem_append.mp hx with c | c
          · exact hps x c
          · exact hqs x c
        rw [List.length_map] at hI
        obtain ⟨ps, o8, rfl, u8, hpl, hps⟩ := hI
        (try walk_at "mo")
        exact ⟨ps, _, _, rfl, u8, by omega, hps⟩
    rintro _ ⟨ps, o6, o8, rfl, u8, hpl, hps⟩
    (try walk_at "mn"); repeat walk_at "mS"
    refine lf_cmp rfl rfl (eq_nil (fun p hp => by obtain ⟨x, _, rfl⟩ := List.mem_map.mp hp; exact shal_way x)) ?_
    (try walk_at "mn"); repeat walk_at "mS"
    refine ⟨fun _ => ?_, fun hne => ?_⟩
    · (try walk_at "mn"); repeat walk_at "mS"
      obtain ⟨r, h4, env', e4, q1, q2, q3, q4⟩ := hMk _ d _ w wa wb env hd3 (by omega) hW (hE.mono (by omega))
      refine ⟨_, _, e4, ?_⟩
      (try walk_at "mn"); repeat walk_at "mS"
      exact ⟨r, h4, env', rfl, rfl, q1, q2, q3.mono (by omega), q4.mono (by omega)⟩
    · (try walk_at "mn"); repeat walk_at "mS"
      have hlp : 0 < ps.length := by
        cases ps with
        | nil => cases hne
        | cons x r => simp
      obtain ⟨p4, h4, e4, k4, hd4⟩ := hO _ d _ (.l (ps.map wayP)) (ps.map wayP) hd3 (by omega) (Or.inl rfl) (by rw [List.length_map]; omega) (by rw [List.length_map]; omega)
      refine ⟨_, _, e4, ?_⟩
      obtain ⟨⟨av, dd⟩, hx, rfl⟩ := List.mem_map.mp k4
      obtain ⟨ha1, ha2, l, ol, ha3, ha4, ha5⟩ := hps _ hx
      refine ⟨_, _, rfl, bindT2 rfl rfl (Nat.le_of_ble_eq_true rfl) u8 rfl (Nat.le_of_ble_eq_true rfl), ?_⟩
      (try walk_at "mn"); repeat walk_at "mS"
      obtain ⟨xs, h5, r, wl, e5, hr, hwl, hxl, hxs, hd5⟩ := hAr _ d _ w wa wb env av dd hd4 (by omega) hW (hE.mono (by omega)) ha1 ha2
      refine ⟨_, _, e5, ?_⟩
      (try walk_at "mn"); repeat walk_at "mS"
      obtain ⟨x, h6, e6, hx2, hd6'⟩ := hTg _ d _ w wa wb env hd5 (by omega) hW (hE.mono (by omega))
      refine ⟨_, _, e6, ?_⟩
      (try walk_at "mn"); repeat walk_at "mS"
      refine we_getf rfl rfl (wd_told w wa wb) rfl ?_
      obtain ⟨o, ho, hok⟩ := hA.get (.inr dd)
      rw [ho]
      (try walk_at "mn"); repeat walk_at "mS"
      refine lf_sto rfl rfl (putM_d (by show _ < 1000000; omega)) ?_
      (try walk_at "mn"); repeat walk_at "mS"
      exact ⟨.call x y av dd xs, h6, _, rfl, rfl, rfl, fun n => .call hx2 hy ha1 ha2 ha3 ha4 ha5 hr hwl hxl hxs, (hE.put (Or.inr hx2) hok).mono (by omega), hd6'.mono (by omega)⟩
  obtain ⟨r, ms, e, x, h', env', rfl, rfl, q1, q2, q3, q4⟩ := key
  exact ⟨_, _, _, e, q1, q2, q3, q4⟩
end Mn
open PySem
namespace Mn
def F_law_row (ix : Ix) : Fn := ⟨(Str.ofString "_law_row"), 5, [(Str.ofString "_law_hand_here"), (Str.ofString "_law_world_here"), (Str.ofString "_law_env"), (Str.ofString "_law_level"), (Str.ofString "_law_deep"), (Str.ofString "_law_way"), (Str.ofString "_law_y"), (Str.ofString "_law_x"), (Str.ofString "_law_lots"), (Str.ofString "_law_k")], (.cons (.asg (.nm 5) (.call ix.l_take (.cons (.pl 0) (.cons (.ki 14) .nil)))) (.cons (.ifs (.cmp .lt (.pl 5) (.ki 3)) (.cons (.ret (.call ix.l_make (.cons (.pl 0) (.cons (.pl 1) (.cons (.pl 2) .nil))))) .nil) .nil) (.cons (.ifs (.cmp .eq (.pl 5) (.ki 3)) (.cons (.asg (.nm 6) (.call ix.l_variable (.cons (.pl 0) (.cons (.pl 1) (.cons (.pl 2) .nil))))) (.cons (.asg (.nm 7) (.call ix.l_target (.cons (.pl 0) (.cons (.pl 1) (.cons (.pl 2) .nil))))) (.cons (.sto 2 (.tk 7) (.mt .get (.pl 2) (.cons (.tk 6) .nil))) (.cons (.ret (.tup (.cons (.ks (Str.ofString "copy")) (.cons (.tk 7) (.cons (.tk 6) .nil))))) .nil)))) .nil) (.cons (.ifs (.cmp .lt (.pl 5) (.ki 6)) (.cons (.ret (.call ix.l_field (.cons (.pl 0) (.cons (.pl 1) (.cons (.pl 2) .nil))))) .nil) .nil) (.cons (.ifs (.ban (.cmp .eq (.pl 5) (.ki 7)) (.cmp .ne (.sub (.pl 1) (.ks (Str.ofString "late"))) (.lst .nil))) (.cons (.ret (.tup (.cons (.ks (Str.ofString "bring")) (.cons (.call ix.l_of (.cons (.pl 0) (.cons (.sub (.pl 1) (.ks (Str.ofString "late"))) .nil))) .nil)))) .nil) .nil) (.cons (.ifs (.bor (.cmp .eq (.pl 5) (.ki 6)) (.cmp .eq (.pl 5) (.ki 7))) (.cons (.ret (.tup (.cons (.ks (Str.ofString "say")) (.cons (.call ix.l_of (.cons (.pl 0) (.cons (.sub (.pl 1) (.ks (Str.ofString "fields"))) .nil))) .nil)))) .nil) .nil) (.cons (.ifs (.ban (.cmp .lt (.pl 5) (.ki 10)) (.ban (.cmp .gt (.pl 4) (.ki 0)) (.cmp .gt (.sub (.pl 0) (.ki 3)) (.ki 2)))) (.cons (.asg (.nm 8) (.comp [9] (.nm 9) (.rg (.cons (.bin .sub (.ki 10) (.pl 5)) .nil)) .nil (.call ix.l_rows (.cons (.pl 0) (.cons (.pl 1) (.cons (.pl 2) (.cons (.pl 3) (.cons (.bin .sub (.pl 4) (.ki 1)) (.cons (.ki 3) .nil))))))))) (.cons (.ret (.bin .add (.tup (.cons (.sub (.lst (.cons (.ks (Str.ofString "again")) (.cons (.ks (Str.ofString "either")) .nil))) (.bin .sub (.bi .len (.cons (.pl 8) .nil)) (.ki 1))) .nil)) (.bi .tup (.cons (.pl 8) .nil)))) .nil)) .nil) (.cons (.ret (.call ix.l_call (.cons (.pl 0) (.cons (.pl 1) (.cons (.pl 2) (.cons (.pl 3) .nil)))))) .nil))))))))⟩
def F_law_rows (ix : Ix) : Fn := ⟨(Str.ofString "_law_rows"), 6, [(Str.ofString "_law_hand_here"), (Str.ofString "_law_world_here"), (Str.ofString "_law_env"), (Str.ofString "_law_level"), (Str.ofString "_law_deep"), (Str.ofString "_law_most"), (Str.ofString "_law_rows_here"), (Str.ofString "_law_k")], (.cons (.asg (.nm 6) (.lst .nil)) (.cons (.fr (.nm 7) (.rg (.cons (.call ix.l_take (.cons (.pl 0) (.cons (.bin .add (.pl 5) (.ki 1)) .nil))) .nil)) (.cons (.ifs (.cmp .gt (.sub (.pl 0) (.ki 3)) (.ki 0)) (.cons (.sto 0 (.ki 3) (.bin .sub (.sub (.pl 0) (.ki 3)) (.ki 1))) (.cons (.app 6 (.call ix.l_row (.cons (.pl 0) (.cons (.pl 1) (.cons (.pl 2) (.cons (.pl 3) (.cons (.pl 4) .nil))))))) .nil)) .nil) .nil)) (.cons (.ret (.bi .tup (.cons (.pl 6) .nil))) .nil)))⟩
def SpRow (C : FnC) (i n : Nat) : Prop := ∀ (t d : Int) (h : M) (w : Wd) (a b env : List (Key × P)) (lvl : Int), Hd t d h → 0 ≤ d → t + 64 * d + 200 + 10 * n ≤ LT → WdOk w → EnvOk w t env → HeldOk w t a → HeldOk w t b → ∃ (r : Rw) (h' : M) (b' env' : List (Key × P)), C i [h, wdM w a b, .d env, .v (.int lvl), .v (.int n)] = some (.v r.toP, [h', wdM w a b', .d env', .v (.int lvl), .v (.int n)]) ∧ RwOk w n r ∧ 1 ≤ r.size ∧ (r.size : Int) ≤ d + 1 ∧ EnvOk w (t + 64 * r.size - 4) env' ∧ HeldOk w (t + 64 * r.size - 4) b' ∧ Hd (t + 64 * r.size - 4) (d + 1 - r.size) h'
def SpRows (C : FnC) (i n : Nat) : Prop := ∀ (t d : Int) (h : M) (w : Wd) (a b env : List (Key × P)) (lvl : Int) (most : Nat), Hd t d h → 0 ≤ d → t + 64 * d + 200 + 10 * n ≤ LT → WdOk w → EnvOk w t env → HeldOk w t a → HeldOk w t b → most ≤ 20 → ∃ (rs : List Rw) (h' : M) (b' env' : List (Key × P)), C i [h, wdM w a b, .d env, .v (.int lvl), .v (.int n), .v (.int most)] = some (.v (.tuple (rwsP rs)), [h', wdM w a b', .d env', .v (.int lvl), .v (.int n), .v (.int most)]) ∧ (∀ r ∈ rs, RwOk w n r) ∧ rs.length ≤ most ∧ (rwsN rs : Int) ≤ d ∧ EnvOk w (t + 2 + 64 * rwsN rs) env' ∧ HeldOk w (t + 2 + 64 * rwsN rs) b' ∧ Hd (t + 2 + 64 * rwsN rs) (d - rwsN rs) h'
theorem rwsP_snoc : ∀ (a : List Rw) (r : Rw), rwsP (a ++ [r]) = rwsP a ++ [r.toP]
  | [], r => rfl
  | x :: a, r => by
    show x.toP :: rwsP (a ++ [r]) = _
    rw [rwsP_snoc a r]; rfl
theorem rwsN_snoc : ∀ (a : List Rw) (r : Rw), rwsN (a ++ [r]) = rwsN a + r.size
  | [], r => by show r.size + rwsN [] = rwsN [] + r.size; omega
  | x :: a, r => by
    show x.size + rwsN (a ++ [r]) = x.size + rwsN a + r.size
    rw [rwsN_snoc a r]; omega
theorem rwsP_len : ∀ a : List Rw, (rwsP a).length = a.length
  | [] => rfl
  | x :: a => by show (rwsP a).length + 1 = _; rw [rwsP_len a]; rfl
theorem rows_ok (ix : Ix) (T : Tab) (C : FnC) (n : Nat) (hT : SpTake C ix.l_take) (hR : SpRow C ix.l_row n) : ∀ (t d : Int) (h : M) (w : Wd) (a b env : List (Key × P)) (lvl : Int) (most : Nat), Hd t d h → 0 ≤ d → t + 64 * d + 200 + 10 * n ≤ LT → WdOk w → EnvOk w t env → HeldOk w t a → HeldOk w t b → most ≤ 20 → ∃ (rs : List Rw) (h' : M) (b' env' : List (Key × P)), runF T C (F_law_rows ix) [h, wdM w a b, .d env, .v (.int lvl), .v (.int n), .v (.int most)] = some (.v (.tuple (rwsP rs)), [h', wdM w a b', .d env', .v (.int lvl), .v (.int n), .v (.int most)]) ∧ (∀ r ∈ rs, RwOk w n r) ∧ rs.length ≤ most ∧ (rwsN rs : Int) ≤ d ∧ EnvOk w (t + 2 + 64 * rwsN rs) env' ∧ HeldOk w (t + 2 + 64 * rwsN rs) b' ∧ Hd (t + 2 + 64 * rwsN rs) (d - rwsN rs) h' := by
  intro t d h w wa wb env lvl most hd hd0 hLT hW hE hA hB hmost
  have hL : LT = 500000 := rfl
  obtain ⟨a, b, c, e, hb, hc, ht⟩ := hd
  subst e
  have hd : Hd t d (.l [.int a, .int b, .int c, .int d]) := ⟨a, b, c, rfl, hb, hc, ht⟩
  have key : ∃ r ms, runF T C (F_law_rows ix) [.l [.int a, .int b, .int c, .int d], wdM w wa wb, .d env, .v (.int lvl), .v (.int n), .v (.int most)] = some (r, ms) ∧ ∃ (rs : List Rw) (h' : M) (b' env' : List (Key × P)), r = .v (.tuple (rwsP rs)) ∧ ms = [h', wdM w wa b', .d env', .v (.int lvl), .v (.int n), .v (.int most)] ∧ (∀ r ∈ rs, RwOk w n r) ∧ rs.length ≤ most ∧ (rwsN rs : Int) ≤ d ∧ EnvOk w (t + 2 + 64 * rwsN rs) env' ∧ HeldOk w (t + 2 + 64 * rwsN rs) b' ∧ Hd (t + 2 + 64 * rwsN rs) (d - rwsN rs) h' := by
    apply run_of rfl
    unfold F_law_rows
    show WSS _ _ [some _, some _, some _, some _, some _, some _, none, none] _ _
    dsimp only
    (try walk_at "mn"); repeat walk_at "mS"
    refine ws_fr (fun j ρ => ∃ (h' : M) (b' env' : List (Key × P)) (rs : List Rw) (o7 : Option M), ρ = [some h', some (wdM w wa b'), some (.d env'), some (.v (.int lvl)), some (.v (.int n)), some (.v (.int most)), some (.l (rwsP rs)), o7] ∧ isLk o7 = false ∧ (∀ r ∈ rs, RwOk w n r) ∧ rs.length ≤ j ∧ (rwsN rs : Int) ≤ d ∧ EnvOk w (t + 1 + 64 * rwsN rs) env' ∧ HeldOk w (t + 1 + 64 * rwsN rs) b' ∧ Hd (t + 1 + 64 * rwsN rs) (d - rwsN rs) h') rfl ?_
    refine wi_rg ?_
    (try walk_at "mn"); repeat walk_at "mS"
    obtain ⟨r1, h1, e1, k1, k2, hd1⟩ := hT _ d _ ((most : Int) + 1) hd (by omega) (by omega)
    refine ⟨_, _, e1, ?_⟩
    (try walk_at "mn"); repeat walk_at "mS"
    refine ⟨_, _, rfl, rg1 (by omega), ⟨h1, wb, env, [], _, rfl, rfl, fun r hr => (by cases hr), by simp, by simpa [rwsN] using hd0, hE.mono (by simp [rwsN]; omega), hB.mono (by simp [rwsN]; omega), by simpa [rwsN] using hd1⟩, fun j p ρ2 hp hI => ?_, fun ρ2 hI => ?_⟩
    · obtain ⟨hj, rfl⟩ := rg1_get hp
      obtain ⟨h2, b2, env2, rs, o7, rfl, u7, hrs, hrl, hrd, hE2, hB2, hd2⟩ := hI
      obtain ⟨a2, bb2, c2, rfl, hb2, hc2, ht2⟩ := hd2
      refine ⟨_, sto_go u7 rfl (Nat.le_of_ble_eq_true rfl), ?_⟩
      (try walk_at "mn"); repeat walk_at "mS"
      refine ⟨fun hpos => ?_, fun hpos => ?_⟩
      · have hpos' := of_decide_eq_true hpos
        (try walk_at "mn"); repeat walk_at "mS"
        have hd3 : Hd (t + 1 + 64 * rwsN rs) (d - rwsN rs - 1) (.l [.int a2, .int bb2, .int c2, .int (d - rwsN rs - 1)]) := ⟨a2, bb2, c2, rfl, hb2, hc2, ht2⟩
        obtain ⟨r, h4, b4, env4, e4, q1, q2, q3, q4, q5, q6⟩ := hR _ (d - rwsN rs - 1) _ w wa b2 env2 lvl hd3 (by omega) (by omega) hW hE2 (hA.mono (by omega)) hB2
        refine ⟨_, _, e4, ?_⟩
        (try walk_at "mn"); repeat walk_at "mS"
        refine lf_app rfl rfl (by rw [rwsP_len]; show _ < 1000000; omega) ?_
        (try walk_at "mn"); repeat walk_at "mS"
        refine ⟨h4, b4, env4, rs ++ [r], some (.v (.int j)), ?_, rfl, fun x hx => ?_, ?_, ?_, ?_, ?_, ?_⟩
        · rw [rwsP_snoc]
        · rcases List.mem_append.mp hx with c | c
          · exact hrs x c
          · simp at c; subst c; exact q1
        · rw [List.length_append]; simp; omega
        · rw [rwsN_snoc]; omega
        · rw [rwsN_snoc]; exact q4.mono (by omega)
        · rw [rwsN_snoc]; exact q5.mono (by omega)
        · rw [rwsN_snoc]
          have : d - rwsN rs - 1 + 1 - r.size = d - ((rwsN rs + r.size : Nat) : Int) := by omega
          rw [this] at q6
          exact q6.mono (by omega)
      · (try walk_at "mn"); repeat walk_at "mS"
        exact ⟨_, b2, env2, rs, _, rfl, rfl, hrs, by omega, hrd, hE2, hB2, a2, bb2, c2, rfl, hb2, hc2, ht2⟩
    · rw [List.length_map, List.length_range] at hI
      obtain ⟨h2, b2, env2, rs, o7, rfl, u7, hrs, hrl, hrd, hE2, hB2, hd2⟩ := hI
      (try walk_at "mn"); repeat walk_at "mS"
      exact ⟨rs, h2, b2, env2, rfl, rfl, hrs, by omega, hrd, hE2.mono (by omega), hB2.mono (by omega), hd2.mono (by omega)⟩
  obtain ⟨r, ms, e, rs, h', b', env', rfl, rfl, q1, q2, q3, q4, q5, q6⟩ := key
  exact ⟨_, _, _, _, e, q1, q2, q3, q4, q5, q6⟩
end Mn
open PySem
namespace Mn
def sumN : List (List Rw) → Nat
  | [] => 0
  | a :: r => rwsN a + sumN r
theorem sumN_snoc : ∀ (a : List (List Rw)) (r : List Rw), sumN (a ++ [r]) = sumN a + rwsN r
  | [], r => by show rwsN r + sumN [] = sumN [] + rwsN r; omega
  | x :: a, r => by
    show rwsN x + sumN (a ++ [r]) = rwsN x + sumN a + rwsN r
    rw [sumN_snoc a r]; omega
def bodyP (rs : List Rw) : P := .tuple (rwsP rs)
theorem row_ok (ix : Ix) (T : Tab) (C : FnC) (n : Nat) (hT : SpTake C ix.l_take) (hO : SpOf C ix.l_of) (hV : SpVar C ix.l_variable) (hTg : SpTarget C ix.l_target) (hMk : SpMake C ix.l_make) (hF : SpField C ix.l_field) (hC : SpCall C ix.l_call) (hRs : ∀ m, n = m + 1 → SpRows C ix.l_rows m) : ∀ (t d : Int) (h : M) (w : Wd) (a b env : List (Key × P)) (lvl : Int), Hd t d h → 0 ≤ d → t + 64 * d + 200 + 10 * n ≤ LT → WdOk w → EnvOk w t env → HeldOk w t a → HeldOk w t b → ∃ (r : Rw) (h' : M) (b' env' : List (Key × P)), runF T C (F_law_row ix) [h, wdM w a b, .d env, .v (.int lvl), .v (.int n)] = some (.v r.toP, [h', wdM w a b', .d env', .v (.int lvl), .v (.int n)]) ∧ RwOk w n r ∧ 1 ≤ r.size ∧ (r.size : Int) ≤ d + 1 ∧ EnvOk w (t + 64 * r.size - 4) env' ∧ HeldOk w (t + 64 * r.size - 4) b' ∧ Hd (t + 64 * r.size - 4) (d + 1 - r.size) h' := by
  intro t d h w wa wb env lvl hd hd0 hLT hW hE hA hB
  have hL : LT = 500000 := rfl
  obtain ⟨a, b, c, e, hb, hc, ht⟩ := hd
  subst e
  have hd : Hd t d (.l [.int a, .int b, .int c, .int d]) := ⟨a, b, c, rfl, hb, hc, ht⟩
  have hEl := hE.len
  have key : ∃ r ms, runF T C (F_law_row ix) [.l [.int a, .int b, .int c, .int d], wdM w wa wb, .d env, .v (.int lvl), .v (.int n)] = some (r, ms) ∧ ∃ (r' : Rw) (h' : M) (b' env' : List (Key × P)), r = .v r'.toP ∧ ms = [h', wdM w wa b', .d env', .v (.int lvl), .v (.int n)] ∧ RwOk w n r' ∧ 1 ≤ r'.size ∧ (r'.size : Int) ≤ d + 1 ∧ EnvOk w (t + 64 * r'.size - 4) env' ∧ HeldOk w (t + 64 * r'.size - 4) b' ∧ Hd (t + 64 * r'.size - 4) (d + 1 - r'.size) h' := by
    have one : ∀ (r' : Rw) (h' : M) (b' env' : List (Key × P)), r'.size = 1 → RwOk w n r' → EnvOk w (t + 40) env' → HeldOk w (t + 40) b' → Hd (t + 40) d h' → ∃ (r'' : Rw) (h'' : M) (b'' env'' : List (Key × P)), M.v r'.toP = .v r''.toP ∧ [h', wdM w wa b', .d env', .v (.int lvl), .v (.int n)] = [h'', wdM w wa b'', .d env'', .v (.int lvl), .v (.int n)] ∧ RwOk w n r'' ∧ 1 ≤ r''.size ∧ (r''.size : Int) ≤ d + 1 ∧ EnvOk w (t + 64 * r''.size - 4) env'' ∧ HeldOk w (t + 64 * r''.size - 4) b'' ∧ Hd (t + 64 * r''.size - 4) (d + 1 - r''.size) h'' := fun r' h' b' env' k1 k2 k3 k4 k5 => ⟨r', h', b', env', rfl, rfl, k2, by omega, by omega, k3.mono (by omega), k4.mono (by omega), by
      have : d + 1 - (r'.size : Int) = d := by omega
      rw [this]; exact k5.mono (by omega)⟩
    apply run_of rfl
    unfold F_law_row
    show WSS _ _ [some _, some _, some _, some _, some _, none, none, none, none, none] _ _
    dsimp only
    (try walk_at "mn"); repeat walk_at "mS"
    obtain ⟨way, h1, e1, k1, k2, hd1⟩ := hT _ d _ 14 hd (by omega) (by omega)
    refine ⟨_, _, e1, ?_⟩
    (try walk_at "mn"); repeat walk_at "mS"
    refine ⟨fun _ => ?_, fun w3 => ?_⟩
    · (try walk_at "mn"); repeat walk_at "mS"
      obtain ⟨r, h2, env2, e2, q1, q2, q3, q4⟩ := hMk _ d _ w wa wb env hd1 (by omega) hW (hE.mono (by omega))
      refine ⟨_, _, e2, ?_⟩
      (try walk_at "mn"); repeat walk_at "mS"
      exact one r h2 wb env2 q1 (q2 n) (q3.mono (by omega)) (hB.mono (by omega)) (q4.mono (by omega))
    (try walk_at "mn"); repeat walk_at "mS"
    refine ⟨fun _ => ?_, fun w4 => ?_⟩
    · (try walk_at "mn"); repeat walk_at "mS"
      obtain ⟨y, h2, e2, hy, hd2⟩ := hV _ d _ w wa wb env hd1 (by omega) hW (hE.mono (by omega))
      refine ⟨_, _, e2, ?_⟩
      (try walk_at "mn"); repeat walk_at "mS"
      obtain ⟨x, h3, e3, hx, hd3⟩ := hTg _ d _ w wa wb env hd2 (by omega) hW (hE.mono (by omega))
      refine ⟨_, _, e3, ?_⟩
      (try walk_at "mn"); repeat walk_at "mS"
      refine lf_mt rfl rfl (get_d _ _) ?_
      obtain ⟨o, ho, hok⟩ := hE.get (.inr y)
      rw [ho]
      (try walk_at "mn"); repeat walk_at "mS"
      refine lf_sto rfl rfl (putM_d (by show _ < 1000000; omega)) ?_
      (try walk_at "mn"); repeat walk_at "mS"
      exact one (.copy x y) h3 wb _ rfl (.copy hx hy) ((hE.put (Or.inr hx) hok).mono (by omega)) (hB.mono (by omega)) (hd3.mono (by omega))
    (try walk_at "mn"); repeat walk_at "mS"
    refine ⟨fun _ => ?_, fun w6 => ?_⟩
    · (try walk_at "mn"); repeat walk_at "mS"
      obtain ⟨r, h2, b2, env2, e2, q1, q2, q3, q4, q5⟩ := hF _ d _ w wa wb env hd1 (by omega) hW (hE.mono (by omega)) (hB.mono (by omega))
      refine ⟨_, _, e2, ?_⟩
      (try walk_at "mn"); repeat walk_at "mS"
      exact one r h2 b2 env2 q1 (q2 n) (q3.mono (by omega)) (q4.mono (by omega)) (q5.mono (by omega))
    (try walk_at "mn"); repeat walk_at "mC"
    refine ws_cut (fun ρ => ρ = [some h1, some (wdM w wa wb), some (.d env), some (.v (.int lvl)), some (.v (.int n)), some (.v (.int way)), none, none, none, none]) ?_ ?_
    · (try walk_at "mn"); repeat walk_at "mS"
      refine ⟨fun w7 => ?_, fun _ => ?_⟩
      · (try walk_at "mn"); repeat walk_at "mS"
        refine lf_cmp rfl rfl (ne_nilL (shal_strs w.late)) ?_
        (try walk_at "mn"); repeat walk_at "mS"
        refine ⟨fun hne => ?_, fun _ => ?_⟩
        · (try walk_at "mn"); repeat walk_at "mS"
          have hlp : 0 < w.late.length := by
            cases e : w.late with
            | nil => rw [e] at hne; cases hne
            | cons x r => simp
          have hl6 := hW.tree.llen
          obtain ⟨p2, h2, e2, k3, hd2⟩ := hO _ d _ (.v (.list (w.late.map PyData.str))) (w.late.map PyData.str) hd1 (by omega) (Or.inr rfl) (by rw [List.length_map]; omega) (by rw [List.length_map]; omega)
          refine ⟨_, _, e2, ?_⟩
          obtain ⟨k, hk, rfl⟩ := List.mem_map.mp k3
          (try walk_at "mn"); repeat walk_at "mS"
          exact one (.bring k) h2 wb env rfl (.bring hk) (hE.mono (by omega)) (hB.mono (by omega)) (hd2.mono (by omega))
        · (try walk_at "mn"); repeat walk_at "mS"
          rfl
      · (try walk_at "mn"); repeat walk_at "mS"
        rfl
    rintro _ rfl
    (try walk_at "mn"); repeat walk_at "mC"
    refine ws_cut (fun ρ => ρ = [some h1, some (wdM w wa wb), some (.d env), some (.v (.int lvl)), some (.v (.int n)), some (.v (.int way)), none, none, none, none] ∧ 8 ≤ way) ?_ ?_
    · have say : ∃ p2 h2, C ix.l_of [h1, .v (.list (w.fields.map PyData.str))] = some (.v p2, [h2, .v (.list (w.fields.map PyData.str))]) ∧ p2 ∈ w.fields.map PyData.str ∧ Hd (t + 1 + 1) d h2 := hO _ d _ (.v (.list (w.fields.map PyData.str))) (w.fields.map PyData.str) hd1 (by omega) (Or.inr rfl) (by rw [List.length_map, hW.fl]; omega) (by rw [List.length_map, hW.fl]; omega)
      obtain ⟨p2, h2, e2, k3, hd2⟩ := say
      obtain ⟨f, hf, rfl⟩ := List.mem_map.mp k3
      (try walk_at "mn"); repeat walk_at "mS"
      refine ⟨fun _ => ?_, fun w6' => ?_⟩
      · (try walk_at "mn"); repeat walk_at "mS"
        refine ⟨_, _, e2, ?_⟩
        (try walk_at "mn"); repeat walk_at "mS"
        exact one (.say f) h2 wb env rfl (.say hf) (hE.mono (by omega)) (hB.mono (by omega)) (hd2.mono (by omega))
      · (try walk_at "mn"); repeat walk_at "mS"
        refine ⟨fun _ => ?_, fun w7' => ?_⟩
        · (try walk_at "mn"); repeat walk_at "mS"
          refine ⟨_, _, e2, ?_⟩
          (try walk_at "mn"); repeat walk_at "mS"
          exact one (.say f) h2 wb env rfl (.say hf) (hE.mono (by omega)) (hB.mono (by omega)) (hd2.mono (by omega))
        · (try walk_at "mn"); repeat walk_at "mS"
          have h3 := of_decide_eq_false w6
          rw [eqv_int] at w6' w7'
          have h4 := of_decide_eq_false w6'
          have h5 := of_decide_eq_false w7'
          exact ⟨rfl, by omega⟩
    rintro _ ⟨rfl, w8⟩
    (try walk_at "mn"); repeat walk_at "mC"
    refine ws_cut (fun ρ => ρ = [some h1, some (wdM w wa wb), some (.d env), some (.v (.int lvl)), some (.v (.int n)), some (.v (.int way)), none, none, none, none]) ?_ ?_
    · (try walk_at "mn"); repeat walk_at "mS"
      refine ⟨fun w10 => ?_, fun _ => ?_⟩
      · have w10' := of_decide_eq_true w10
        (try walk_at "mn"); repeat walk_at "mS"
        refine ⟨fun hn0 => ?_, fun _ => ?_⟩
        · have hn0' := of_decide_eq_true hn0
          obtain ⟨m, rfl⟩ : ∃ m, n = m + 1 := ⟨n - 1, by omega⟩
          obtain ⟨a1, b1, c1, rfl, hb1, hc1, ht1⟩ := hd1
          have hd1 : Hd (t + 1) d (.l [.int a1, .int b1, .int c1, .int d]) := ⟨a1, b1, c1, rfl, hb1, hc1, ht1⟩
          (try walk_at "mn"); repeat walk_at "mS"
          refine ⟨fun hd2 => ?_, fun _ => ?_⟩
          · have hd2' := of_decide_eq_true hd2
            (try walk_at "mn"); repeat walk_at "mS"
            refine we_comp (fun j ρ acc => ∃ (h' : M) (b' env' : List (Key × P)) (rss : List (List Rw)) (o9 : Option M), ρ = [some h', some (wdM w wa b'), some (.d env'), some (.v (.int lvl)), some (.v (.int ((m + 1 : Nat) : Int))), some (.v (.int way)), none, none, none, o9] ∧ acc = rss.map bodyP ∧ rss.length = j ∧ j ≤ 2 ∧ (∀ rs ∈ rss, rs.length ≤ 3 ∧ ∀ r ∈ rs, RwOk w m r) ∧ (sumN rss : Int) ≤ d ∧ EnvOk w (t + 1 + 2 * j + 64 * sumN rss) env' ∧ HeldOk w (t + 1 + 2 * j + 64 * sumN rss) b' ∧ Hd (t + 1 + 2 * j + 64 * sumN rss) (d - sumN rss) h') rfl ?_
            refine wi_rg ?_
            (try walk_at "mn"); repeat walk_at "mS"
            refine ⟨_, _, rfl, rg1 (by omega), rfl, ⟨_, wb, env, [], none, rfl, rfl, rfl, by omega, fun rs hrs => (by cases hrs), by simpa [sumN] using hd0, hE.mono (by simp [sumN]; omega), hB.mono (by simp [sumN]; omega), by simpa [sumN] using hd1⟩, fun j p ρ2 acc hp hI => ?_, fun ρ2 qs hI => ?_⟩
            · obtain ⟨hj, rfl⟩ := rg1_get hp
              obtain ⟨h3, b3, env3, rss, o9, rfl, rfl, hrl, hj2, hrs, hsd, hE3, hB3, hd3⟩ := hI
              (try walk_at "mn"); repeat walk_at "mS"
              have hm : ((m + 1 : Nat) : Int) - 1 = (m : Int) := by omega
              rw [hm]
              obtain ⟨rs, h4, b4, env4, e4, q1, q2, q3, q4, q5, q6⟩ := hRs m rfl _ (d - sumN rss) _ w wa b3 env3 lvl 3 hd3 (by omega) (by omega) hW hE3 (hA.mono (by omega)) hB3 (by omega)
              refine ⟨_, _, e4, ?_⟩
              (try walk_at "mn"); repeat walk_at "mS"
              refine ⟨by rw [List.length_map]; show _ < 1000000; omega, h4, b4, env4, rss ++ [rs], _, rfl, by rw [List.map_append]; rfl, by rw [List.length_append, hrl]; rfl, by omega, fun x hx => ?_, ?_, ?_, ?_, ?_⟩
              · rcases List.mem_append.mp hx with c | c
                · exact hrs x c
                · simp at c; subst c; exact ⟨q2, q1⟩
              · rw [sumN_snoc]; omega
              · rw [sumN_snoc]; exact q4.mono (by omega)
              · rw [sumN_snoc]; exact q5.mono (by omega)
              · rw [sumN_snoc]
                have : d - sumN rss - rwsN rs = d - ((sumN rss + rwsN rs : Nat) : Int) := by omega
                rw [this] at q6
                exact q6.mono (by omega)
            rw [List.length_map, List.length_range] at hI
            obtain ⟨h3, b3, env3, rss, o9, rfl, rfl, hrl, hj2, hrs, hsd, hE3, hB3, hd3⟩ := hI
            (try walk_at "mo")
            (try walk_at "mn"); repeat walk_at "mS"
            have hw9 : way = 8 ∨ way = 9 := by omega
            rcases hw9 with rfl | rfl
            · obtain ⟨ra, rb, rfl⟩ : ∃ ra rb, rss = [ra, rb] := by
                match rss, hrl with
                | [ra, rb], _ => exact ⟨ra, rb, rfl⟩
              (try walk_at "mn"); repeat walk_at "mS"
              obtain ⟨ha1, ha2⟩ := hrs ra (by simp)
              obtain ⟨hb1, hb2⟩ := hrs rb (by simp)
              have hs : sumN [ra, rb] = rwsN ra + rwsN rb := by simp [sumN]
              rw [hs] at hsd hE3 hB3 hd3
              have hsz : (Rw.either ra rb).size = 1 + (rwsN ra + rwsN rb) := rfl
              refine ⟨.either ra rb, h3, b3, env3, rfl, rfl, .either ha1 hb1 ha2 hb2, by omega, by omega, hE3.mono (by omega), hB3.mono (by omega), ?_⟩
              have : d - ((rwsN ra + rwsN rb : Nat) : Int) = d + 1 - ((Rw.either ra rb).size : Int) := by omega
              rw [this] at hd3
              exact hd3.mono (by omega)
            · obtain ⟨ra, rfl⟩ : ∃ ra, rss = [ra] := by
                match rss, hrl with
                | [ra], _ => exact ⟨ra, rfl⟩
              (try walk_at "mn"); repeat walk_at "mS"
              obtain ⟨ha1, ha2⟩ := hrs ra (by simp)
              have hs : sumN [ra] = rwsN ra := by simp [sumN]
              rw [hs] at hsd hE3 hB3 hd3
              have hsz : (Rw.again ra).size = 1 + rwsN ra := rfl
              refine ⟨.again ra, h3, b3, env3, rfl, rfl, .again ha1 ha2, by omega, by omega, hE3.mono (by omega), hB3.mono (by omega), ?_⟩
              have : d - (rwsN ra : Int) = d + 1 - ((Rw.again ra).size : Int) := by omega
              rw [this] at hd3
              exact hd3.mono (by omega)
          · (try walk_at "mn"); repeat walk_at "mS"
            rfl
        · (try walk_at "mn"); repeat walk_at "mS"
          rfl
      · (try walk_at "mn"); repeat walk_at "mS"
        rfl
    rintro _ rfl
    (try walk_at "mn"); repeat walk_at "mS"
    obtain ⟨r, h2, env2, e2, q1, q2, q3, q4⟩ := hC _ d _ w wa wb env lvl hd1 (by omega) hW (hE.mono (by omega)) (hA.mono (by omega))
    refine ⟨_, _, e2, ?_⟩
    (try walk_at "mn"); repeat walk_at "mS"
    exact one r h2 wb env2 q1 (q2 n) (q3.mono (by omega)) (hB.mono (by omega)) (q4.mono (by omega))
  obtain ⟨r, ms, e, rs, h', b', env', rfl, rfl, q1, q2, q3, q4, q5, q6⟩ := key
  exact ⟨_, _, _, _, e, q1, q2, q3, q4, q5, q6⟩
end Mn
open PySem
namespace Mn
def F_law_deed (ix : Ix) : Fn := ⟨(Str.ofString "_law_deed"), 4, [(Str.ofString "_law_hand_here"), (Str.ofString "_law_world_here"), (Str.ofString "_law_kind"), (Str.ofString "_law_level"), (Str.ofString "_law_deed_here"), (Str.ofString "_law_pool"), (Str.ofString "_law_wanted"), (Str.ofString "_law_params"), (Str.ofString "_law_env"), (Str.ofString "_law_rows_here"), (Str.ofString "_law_gives"), (Str.ofString "_law_want")], (.cons (.asg (.nm 4) (.sub (.sub (.pl 1) (.ks (Str.ofString "deeds"))) (.tk 3))) (.cons (.asg (.nm 5) (.bin .add (.sub (.pl 1) (.ks (Str.ofString "params"))) (.slc (.sub (.pl 1) (.ks (Str.ofString "vars"))) .no (.ki 2)))) (.cons (.asg (.nm 6) (.sub (.sub (.pl 1) (.ks (Str.ofString "wants"))) (.tup (.cons (.sub (.sub (.pl 1) (.ks (Str.ofString "roots"))) (.tk 2)) (.cons (.tk 4) .nil))))) (.cons (.asg (.nm 7) (.comp [11] (.nm 11) (.lk 6) .nil (.pop 5 (.cons (.call ix.l_take (.cons (.pl 0) (.cons (.bi .len (.cons (.pl 5) .nil)) .nil))) .nil)))) (.cons (.asg (.nm 8) (.bi .dict (.cons (.bin .add (.lst (.cons (.tup (.cons (.ks (Str.ofString "own")) (.cons (.tk 2) .nil))) .nil)) (.bi .listZip (.cons (.pl 7) (.cons (.pl 6) .nil)))) .nil))) (.cons (.asg (.nm 9) (.call ix.l_rows (.cons (.pl 0) (.cons (.pl 1) (.cons (.pl 8) (.cons (.pl 3) (.cons (.call ix.l_take (.cons (.pl 0) (.cons (.ki 3) .nil))) (.cons (.call ix.l_of (.cons (.pl 0) (.cons (.lst (.cons (.ki 1) (.cons (.ki 2) (.cons (.ki 3) (.cons (.ki 4) (.cons (.ki 6) .nil)))))) .nil))) .nil)))))))) (.cons (.asg (.nm 10) (.call ix.l_of (.cons (.pl 0) (.cons (.lst (.cons .kn (.cons (.call ix.l_variable (.cons (.pl 0) (.cons (.pl 1) (.cons (.pl 8) .nil)))) (.cons (.call ix.l_variable (.cons (.pl 0) (.cons (.pl 1) (.cons (.pl 8) .nil)))) .nil)))) .nil)))) (.cons (.stf 1 (Str.ofString "told") (.tk 4) (.mt .get (.pl 8) (.cons (.tk 10) .nil))) (.cons (.ret (.tup (.cons (.tk 4) (.cons (.bi .tup (.cons (.pl 7) .nil)) (.cons (.tk 9) (.cons (.tk 10) .nil)))))) .nil)))))))))⟩
structure Dd where
  nm : Str
  ps : List Str
  rows : List Rw
  gives : Option Str
def Dd.toP (x : Dd) : P := .tuple [.str x.nm, .tuple (x.ps.map PyData.str), .tuple (rwsP x.rows), optP x.gives]
/-- a deed of a kind, as the drawing gives it -/
structure DdOk (w : Wd) (k : Str) (x : Dd) : Prop where
  nm : x.nm ∈ w.deeds
  ps : x.ps.Nodup
  psm : ∀ v ∈ x.ps, v ∈ w.vars ∨ v ∈ w.params
  psl : ∃ (r : Str) (wl : List Str), getA w.rootT (.inr k) = some (.str r) ∧ getA w.wantT [.inr r, .inr x.nm] = some (.list (wl.map PyData.str)) ∧ x.ps.length = wl.length
  psn : x.ps.length ≤ 4
  rows : ∃ n, n ≤ 2 ∧ ∀ r ∈ x.rows, RwOk w n r
  rl : x.rows.length ≤ 6
  gv : ∀ v, x.gives = some v → VarOk w v
theorem merge_mem {κ α : Type} [DecidableEq κ] : ∀ (kvs acc : List (κ × α)) (kv : κ × α), kv ∈ mergeA acc kvs → kv ∈ acc ∨ kv ∈ kvs
  | [], acc, kv, h => Or.inl h
  | (k, v) :: r, acc, kv, h => by
    rcases merge_mem r (putA acc k v) kv h with c | c
    · rcases putA_mem c with c | c
      · exact Or.inl c
      · exact Or.inr (by rw [c]; simp)
    · exact Or.inr (List.mem_cons_of_mem _ c)
theorem listZip_ok {a b : List P} (h : min a.length b.length ≤ 1000000) : biM .listZip [.l a, .v (.list b)] = some (.l (zipP a b)) := if_pos (show min a.length b.length ≤ LIM from h)
theorem pairs_zip : ∀ (a b : List Str), pairsK (zipP (a.map PyData.str) (b.map PyData.str)) = some ((a.zip b).map fun x => ((.inr x.1 : Key), PyData.str x.2))
  | [], _ => by simp [zipP]; rfl
  | _ :: _, [] => by simp [zipP]; rfl
  | x :: a, y :: b => by
    show pairsK (.tuple [.str x, .str y] :: zipP (a.map PyData.str) (b.map PyData.str)) = _
    unfold pairsK
    rw [pairs_zip a b]; rfl
theorem dict_env (k : Str) (a b : List Str) : biM .dict [.l ([PyData.tuple [.str (Str.ofString "own"), .str k]] ++ zipP (a.map PyData.str) (b.map PyData.str))] = some (.d (mergeA [] ((.inr (Str.ofString "own"), .str k) :: (a.zip b).map fun x => ((.inr x.1 : Key), PyData.str x.2)))) := by
  show (pairsK (.tuple [.str (Str.ofString "own"), .str k] :: zipP (a.map PyData.str) (b.map PyData.str))).map _ = _
  unfold pairsK
  rw [pairs_zip a b]; rfl
theorem get1_opt (kvs : List (Key × P)) (e : Option Str) : ∃ p, mtM .get (.d kvs) [.v (optP e)] = some (.v p) ∧ (p = .none ∨ ∃ s, e = some s ∧ p = (getA kvs (.inr s)).getD .none) := by
  cases e with
  | none => exact ⟨.none, rfl, Or.inl rfl⟩
  | some s => exact ⟨_, rfl, Or.inr ⟨s, rfl, rfl⟩⟩
theorem erase_perm {α : Type} : ∀ (l : List α) (i : Nat) (x : α), l[i]? = some x → (x :: l.eraseIdx i).Perm l
  | [], i, x, h => by simp at h
  | a :: l, 0, x, h => by simp at h; subst h; exact List.Perm.refl _
  | a :: l, i + 1, x, h => by
    simp at h
    exact (List.Perm.swap a x _).trans ((erase_perm l i x h).cons a)
theorem erase_map {α β : Type} (f : α → β) : ∀ (l : List α) (i : Nat), (l.map f).eraseIdx i = (l.eraseIdx i).map f
  | [], i => by simp
  | a :: l, 0 => rfl
  | a :: l, i + 1 => by
    show f a :: (l.map f).eraseIdx i = f a :: (l.eraseIdx i).map f
    rw [erase_map f l i]
def SpDeed (C : FnC) (i : Nat) : Prop := ∀ (t d : Int) (h : M) (w : Wd) (a b : List (Key × P)) (k : Str) (lvl : Nat), Hd t d h → 0 ≤ d → t + 64 * d + 400 ≤ LT → WdOk w → w.ow = true → HeldOk w t a → HeldOk w t b → k ∈ nmsT w.tr → lvl < w.deeds.length → ∃ (x : Dd) (h' : M) (a' b' : List (Key × P)), C i [h, wdM w a b, .v (.str k), .v (.int lvl)] = some (.v x.toP, [h', wdM w a' b', .v (.str k), .v (.int lvl)]) ∧ w.deeds[lvl]? = some x.nm ∧ DdOk w k x ∧ (rwsN x.rows : Int) ≤ d ∧ HeldOk w (t + 40 + 64 * rwsN x.rows) a' ∧ HeldOk w (t + 40 + 64 * rwsN x.rows) b' ∧ Hd (t + 40 + 64 * rwsN x.rows) (d - rwsN x.rows) h'
theorem deed_ok (ix : Ix) (T : Tab) (C : FnC) (hT : SpTake C ix.l_take) (hO : SpOf C ix.l_of) (hV : SpVar C ix.l_variable) (hRs : ∀ n, n ≤ 4 → SpRows C ix.l_rows n) : ∀ (t d : Int) (h : M) (w : Wd) (a b : List (Key × P)) (k : Str) (lvl : Nat), Hd t d h → 0 ≤ d → t + 64 * d + 400 ≤ LT → WdOk w → w.ow = true → HeldOk w t a → HeldOk w t b → k ∈ nmsT w.tr → lvl < w.deeds.length → ∃ (x : Dd) (h' : M) (a' b' : List (Key × P)), runF T C (F_law_deed ix) [h, wdM w a b, .v (.str k), .v (.int lvl)] = some (.v x.toP, [h', wdM w a' b', .v (.str k), .v (.int lvl)]) ∧ w.deeds[lvl]? = some x.nm ∧ DdOk w k x ∧ (rwsN x.rows : Int) ≤ d ∧ HeldOk w (t + 40 + 64 * rwsN x.rows) a' ∧ HeldOk w (t + 40 + 64 * rwsN x.rows) b' ∧ Hd (t + 40 + 64 * rwsN x.rows) (d - rwsN x.rows) h' := by
  intro t d h w wa wb k lvl hd hd0 hLT hW how hA hB hk hlv
  have hL : LT = 500000 := rfl
  obtain ⟨a, b, c, e, hb, hc, ht⟩ := hd
  subst e
  have hd : Hd t d (.l [.int a, .int b, .int c, .int d]) := ⟨a, b, c, rfl, hb, hc, ht⟩
  obtain ⟨dd, hdd⟩ : ∃ dd, w.deeds[lvl]? = some dd := ⟨_, List.getElem?_eq_getElem hlv⟩
  have hddm : dd ∈ w.deeds := List.mem_of_getElem? hdd
  obtain ⟨r, wl, hr, hwl, hwl4, hwlm⟩ := hW.want k hk dd hddm
  have hAl := hA.len
  have hBl := hB.len
  have key : ∃ r ms, runF T C (F_law_deed ix) [.l [.int a, .int b, .int c, .int d], wdM w wa wb, .v (.str k), .v (.int lvl)] = some (r, ms) ∧ ∃ (x : Dd) (h' : M) (a' b' : List (Key × P)), r = .v x.toP ∧ ms = [h', wdM w a' b', .v (.str k), .v (.int lvl)] ∧ w.deeds[lvl]? = some x.nm ∧ DdOk w k x ∧ (rwsN x.rows : Int) ≤ d ∧ HeldOk w (t + 40 + 64 * rwsN x.rows) a' ∧ HeldOk w (t + 40 + 64 * rwsN x.rows) b' ∧ Hd (t + 40 + 64 * rwsN x.rows) (d - rwsN x.rows) h' := by
    apply run_of rfl
    unfold F_law_deed
    show WSS _ _ [some _, some _, some _, some _, none, none, none, none, none, none, none, none] _ _
    dsimp only
    (try walk_at "mn"); repeat walk_at "mS"
    refine lf_sub rfl (subLL (c := .str dd) (by omega) (by rw [List.getElem?_map, show ((lvl : Int)).toNat = lvl by omega, hdd]; rfl)) ?_
    (try walk_at "mn"); repeat walk_at "mS"
    have hv2 : cut (w.vars.map PyData.str) none (some 2) = (w.vars.take 2).map PyData.str := by rw [cut_map, cut_hi (by omega), hW.vl]; rfl
    rw [hv2]
    refine lf_bin rfl rfl (addLL (by rw [List.length_map, List.length_map, hW.pl, List.length_take]; omega)) ?_
    rw [← List.map_append]
    (try walk_at "mn"); repeat walk_at "mS"
    refine lf_sub rfl (subFD hr) ?_
    (try walk_at "mn"); repeat walk_at "mS"
    refine lf_sub rfl (subFT hwl) ?_
    (try walk_at "mn"); repeat walk_at "mS"
    have hpool : (w.params ++ w.vars.take 2).length = 6 := by rw [List.length_append, hW.pl, List.length_take, hW.vl]; rfl
    refine we_comp (fun j ρ acc => ∃ (h' : M) (pool pr : List Str) (o : Option M), ρ = [some h', some (wdM w wa wb), some (.v (.str k)), some (.v (.int lvl)), some (.v (.str dd)), some (.l (pool.map PyData.str)), some (.v (.list (wl.map PyData.str))), none, none, none, none, o] ∧ acc = pr.map PyData.str ∧ pr.length = j ∧ pool.length + j = 6 ∧ (pr ++ pool).Perm (w.params ++ w.vars.take 2) ∧ Hd (t + j) d h') rfl ?_
    refine wi_lkv rfl rfl ?_
    refine ⟨rfl, ⟨_, _, [], none, rfl, rfl, rfl, by omega, by simp, hd.mono (by omega)⟩, fun j p ρ2 acc hp hI => ?_, fun ρ2 qs hI => ?_⟩
    · obtain ⟨h1, pool, pr, o, rfl, rfl, hprl, hpl, hperm, hd1⟩ := hI
      rw [List.getElem?_map] at hp
      obtain ⟨kw, hkw, rfl⟩ := Option.map_eq_some_iff.mp hp
      have hj := (List.getElem?_eq_some_iff.mp hkw).1
      (try walk_at "mn"); repeat walk_at "mS"
      refine we_pop1 rfl ?_
      (try walk_at "mn"); repeat walk_at "mS"
      have hpml : (pool.map PyData.str).length = pool.length := List.length_map _
      obtain ⟨r2, h2, e2, k1, k2, hd2⟩ := hT _ d _ ((pool.map PyData.str).length : Int) hd1 (by omega) (by omega)
      refine ⟨_, _, e2, ?_⟩
      (try walk_at "mn"); repeat walk_at "mS"
      obtain ⟨x, hx⟩ : ∃ x, pool[r2.toNat]? = some x := ⟨_, List.getElem?_eq_getElem (by omega)⟩
      refine ⟨_, r2, .str x, rfl, rfl, ⟨by omega, by omega, by show _ ≤ 1000000; omega⟩, by rw [List.getElem?_map, hx]; rfl, ?_⟩
      (try walk_at "mn"); repeat walk_at "mS"
      have hperm2 : (x :: pool.eraseIdx r2.toNat).Perm pool := erase_perm _ _ _ hx
      refine ⟨by rw [List.length_map]; show _ < 1000000; omega, h2, pool.eraseIdx r2.toNat, pr ++ [x], some (.v (.str kw)), ?_, by rw [List.map_append]; rfl, by rw [List.length_append, hprl]; rfl, ?_, ?_, hd2.mono (by omega)⟩
      · rw [erase_map]
      · rw [List.length_eraseIdx]; split <;> omega
      · rw [List.append_assoc]
        exact (List.Perm.append_left pr hperm2).trans hperm
    rw [List.length_map] at hI
    obtain ⟨h1, pool, pr, o, rfl, rfl, hprl, hpl, hperm, hd1⟩ := hI
    have hndp : (w.params ++ w.vars.take 2).Nodup := by
      have h1 := hW.vnd
      rw [List.nodup_append] at h1
      rw [List.nodup_append]
      exact ⟨h1.2.1, (List.take_sublist _ _).nodup h1.1, fun a ha b hb e => h1.2.2 b (List.mem_of_mem_take hb) a ha e.symm⟩
    have hprn : pr.Nodup := (List.nodup_append.mp (hperm.nodup_iff.mpr hndp)).1
    have hprm : ∀ v ∈ pr, v ∈ w.vars ∨ v ∈ w.params := fun v hv => by
      have := hperm.mem_iff.mp (List.mem_append_left pool hv)
      rcases List.mem_append.mp this with c | c
      · exact Or.inr c
      · exact Or.inl (List.mem_of_mem_take c)
    (try walk_at "mo")
    (try walk_at "mn"); repeat walk_at "mS"
    refine lf_bi rfl (listZip_ok (by rw [List.length_map, List.length_map]; omega)) ?_
    refine lf_bin rfl rfl (addL (by unfold zipP; rw [List.length_map, List.length_zip, List.length_map, List.length_map]; simp; omega)) ?_
    (try walk_at "mn"); repeat walk_at "mS"
    refine lf_bi rfl (dict_env k pr wl) ?_
    (try walk_at "mn"); repeat walk_at "mS"
    have hE0 : EnvOk w (t + 10) (mergeA [] ((.inr (Str.ofString "own"), .str k) :: (pr.zip wl).map fun x => ((.inr x.1 : Key), PyData.str x.2))) := by
      refine ⟨?_, fun kv hkv => ?_⟩
      · have h1 := (merge_keys ((.inr (Str.ofString "own"), .str k) :: (pr.zip wl).map fun x => ((.inr x.1 : Key), PyData.str x.2)) []).2
        rw [List.length_cons, List.length_map, List.length_zip, List.length_nil] at h1
        omega
      · rcases merge_mem _ _ _ hkv with c | c
        · cases c
        · rcases List.mem_cons.mp c with c | c
          · subst c
            exact ⟨⟨_, rfl, Or.inl ⟨how, rfl⟩⟩, some k, rfl, fun s hs => by cases hs; exact hk⟩
          · obtain ⟨⟨x, y⟩, hxy, rfl⟩ := List.mem_map.mp c
            have h2 := List.of_mem_zip hxy
            exact ⟨⟨x, rfl, Or.inr (hprm x h2.1)⟩, some y, rfl, fun s hs => by cases hs; exact hwlm y h2.2⟩
    generalize mergeA [] ((.inr (Str.ofString "own"), .str k) :: (pr.zip wl).map fun x => ((.inr x.1 : Key), PyData.str x.2)) = env at hE0 ⊢
    obtain ⟨r2, h2, e2, k1, k2, hd2⟩ := hT _ d _ 3 hd1 (by omega) (by omega)
    refine ⟨_, _, e2, ?_⟩
    (try walk_at "mn"); repeat walk_at "mS"
    obtain ⟨p3, h3, e3, k3, hd3⟩ := hO _ d _ (.l ([1, 2, 3, 4, 6].map PyData.int)) ([1, 2, 3, 4, 6].map PyData.int) hd2 (by omega) (Or.inl rfl) (show 0 < 5 by omega) (show 5 < 1000000 by omega)
    refine ⟨_, _, e3, ?_⟩
    obtain ⟨i3, k4, rfl⟩ := mem_ints (l := [1, 2, 3, 4, 6]) k3
    obtain ⟨mo, mo6, rfl⟩ : ∃ n : Nat, n ≤ 6 ∧ i3 = n := ⟨i3.toNat, by simp at k4; omega, by simp at k4; omega⟩
    obtain ⟨n, hn, rfl⟩ : ∃ n : Nat, n ≤ 2 ∧ r2 = n := ⟨r2.toNat, by omega, by omega⟩
    (try walk_at "mn"); repeat walk_at "mS"
    obtain ⟨rs, h4, b4, env4, e4, q1, q2, q3, q4, q5, q6⟩ := hRs n (by omega) (t + 10) d _ w wa wb env lvl mo (hd3.mono (by omega)) hd0 (by omega) hW hE0 (hA.mono (by omega)) (hB.mono (by omega)) (by omega)
    refine ⟨_, _, e4, ?_⟩
    (try walk_at "mn"); repeat walk_at "mS"
    obtain ⟨x5, h5, e5, hx5, hd5⟩ := hV _ _ _ w wa b4 env4 q6 (by omega) hW q4
    refine ⟨_, _, e5, ?_⟩
    (try walk_at "mn"); repeat walk_at "mS"
    obtain ⟨x6, h6, e6, hx6, hd6⟩ := hV _ _ _ w wa b4 env4 hd5 (by omega) hW (q4.mono (by omega))
    refine ⟨_, _, e6, ?_⟩
    (try walk_at "mn"); repeat walk_at "mS"
    obtain ⟨p7, h7, e7, k7, hd7⟩ := hO _ _ _ (.l [.none, .str x5, .str x6]) [.none, .str x5, .str x6] hd6 (by omega) (Or.inl rfl) (show 0 < 3 by omega) (show 3 < 1000000 by omega)
    refine ⟨_, _, e7, ?_⟩
    obtain ⟨g, hg, rfl⟩ : ∃ g : Option Str, (∀ v, g = some v → VarOk w v) ∧ p7 = optP g := by
      simp only [List.mem_cons, List.not_mem_nil, or_false] at k7
      rcases k7 with rfl | rfl | rfl
      · exact ⟨none, fun v hv => (by cases hv), rfl⟩
      · exact ⟨some x5, fun v hv => (by cases hv; exact hx5), rfl⟩
      · exact ⟨some x6, fun v hv => (by cases hv; exact hx6), rfl⟩
    (try walk_at "mn"); repeat walk_at "mS"
    refine ws_stf rfl ?_
    (try walk_at "mn"); repeat walk_at "mS"
    obtain ⟨pg, hpg, hpg2⟩ := get1_opt env4 g
    refine lf_mt rfl rfl hpg ?_
    obtain ⟨o8, rfl, ho8⟩ : ∃ o, pg = optP o ∧ KOk w o := by
      rcases hpg2 with rfl | ⟨s, _, rfl⟩
      · exact ⟨none, rfl, fun s hs => by cases hs⟩
      · exact q4.get _
    refine ⟨_, _, _, rfl, rfl, wd_told w wa b4, ?_⟩
    (try walk_at "mn"); repeat walk_at "mS"
    refine ⟨_, _, rfl, rfl, rfl, by show _ < 1000000; omega, ?_⟩
    (try walk_at "mn"); repeat walk_at "mS"
    refine ⟨⟨dd, pr, rs, g⟩, h7, putA wa (.inr dd) (optP o8), b4, rfl, rfl, hdd, ⟨hddm, hprn, hprm, ⟨r, wl, hr, hwl, hprl⟩, by show pr.length ≤ 4; omega, ⟨n, hn, q1⟩, by show rs.length ≤ 6; omega, hg⟩, q3, (hA.put ho8).mono (by show _ ≤ t + 40 + 64 * (rwsN rs : Int); omega), q5.mono (by show _ ≤ t + 40 + 64 * (rwsN rs : Int); omega), hd7.mono (by show _ ≤ t + 40 + 64 * (rwsN rs : Int); omega)⟩
  obtain ⟨r, ms, e, x, h', a', b', rfl, rfl, q1, q2, q3, q4, q5, q6⟩ := key
  exact ⟨_, _, _, _, e, q1, q2, q3, q4, q5, q6⟩
end Mn
open PySem
namespace Mn
def F_law_program (ix : Ix) : Fn := ⟨(Str.ofString "_law_program"), 2, [(Str.ofString "_law_hand_here"), (Str.ofString "_law_most"), (Str.ofString "_law_world_here"), ix.nm_by, (Str.ofString "_law_level"), (Str.ofString "_law_main"), (Str.ofString "_law_kinds"), (Str.ofString "_law_kind"), (Str.ofString "_law_name"), (Str.ofString "_law_elder")], (.cons (.asg (.nm 2) (.call ix.l_world (.cons (.pl 0) .nil))) (.cons (.asg (.nm 3) (.dnw 2)) (.cons (.sto 0 (.ki 3) (.bin .sub (.pl 1) (.bin .div (.pl 1) (.ki 3)))) (.cons (.fr (.nm 4) (.rg (.cons (.bin .sub (.bi .len (.cons (.sub (.pl 2) (.ks (Str.ofString "deeds"))) .nil)) (.ki 1)) (.cons (.neg (.ki 1)) (.cons (.neg (.ki 1)) .nil)))) (.cons (.fr (.nm 7) (.of (.sub (.sub (.pl 2) (.ks (Str.ofString "owners"))) (.sub (.sub (.pl 2) (.ks (Str.ofString "deeds"))) (.tk 4)))) (.cons (.sda 3 (.tk 7) (.call ix.l_deed (.cons (.pl 0) (.cons (.pl 2) (.cons (.pl 7) (.cons (.pl 4) .nil)))))) .nil)) .nil)) (.cons (.sto 0 (.ki 3) (.bin .add (.sub (.pl 0) (.ki 3)) (.bin .div (.pl 1) (.ki 3)))) (.cons (.asg (.nm 5) (.call ix.l_rows (.cons (.pl 0) (.cons (.pl 2) (.cons (.dnw 0) (.cons (.neg (.ki 1)) (.cons (.call ix.l_take (.cons (.pl 0) (.cons (.ki 5) .nil))) (.cons (.call ix.l_of (.cons (.pl 0) (.cons (.lst (.cons (.ki 4) (.cons (.ki 8) (.cons (.ki 12) (.cons (.ki 20) .nil))))) .nil))) .nil)))))))) (.cons (.asg (.nm 6) (.comp [8, 9] (.tp [(.nm 8), (.nm 9)]) (.of (.sub (.pl 2) (.ks (Str.ofString "tree")))) .nil (.tup (.cons (.tk 8) (.cons (.tk 9) (.cons (.bi .tup (.cons (.rev (.getn 3 (.tk 8))) .nil)) .nil)))))) (.cons (.ret (.tup (.cons (.bi .tup (.cons (.pl 6) .nil)) (.cons (.bi .tup (.cons (.bi .sorted (.cons (.sub (.pl 2) (.ks (Str.ofString "late"))) .nil)) .nil)) (.cons (.tk 5) .nil))))) .nil))))))))⟩
structure Kd where
  nm : Str
  up : Option Str
  deeds : List Dd
structure Pg where
  kinds : List Kd
  late : List Str
  main : List Rw
def Kd.toP (k : Kd) : P := .tuple [.str k.nm, optP k.up, .tuple (k.deeds.map Dd.toP)]
def Pg.toP (p : Pg) : P := .tuple [.tuple (p.kinds.map Kd.toP), .tuple (p.late.map PyData.str), .tuple (rwsP p.main)]
def ddsN : List Dd → Nat
  | [] => 0
  | x :: r => rwsN x.rows + ddsN r
theorem ddsN_snoc : ∀ (a : List Dd) (x : Dd), ddsN (a ++ [x]) = ddsN a + rwsN x.rows
  | [], x => by show rwsN x.rows + 0 = 0 + rwsN x.rows; omega
  | y :: a, x => by
    show rwsN y.rows + ddsN (a ++ [x]) = rwsN y.rows + ddsN a + rwsN x.rows
    rw [ddsN_snoc a x]; omega
theorem ddsN_rev : ∀ a : List Dd, ddsN a.reverse = ddsN a
  | [] => rfl
  | x :: a => by
    rw [List.reverse_cons, ddsN_snoc, ddsN_rev a]
    show _ = rwsN x.rows + ddsN a
    omega
def sumL : List Nat → Nat
  | [] => 0
  | x :: r => x + sumL r
theorem sumL_upd {l : List Str} (h : l.Nodup) {k : Str} (hk : k ∈ l) (f g : Str → Nat) (c : Nat) (h1 : g k = f k + c) (h2 : ∀ y, y ≠ k → g y = f y) : sumL (l.map g) = sumL (l.map f) + c := by
  induction l with
  | nil => cases hk
  | cons a r ih =>
    rw [List.nodup_cons] at h
    show g a + sumL (r.map g) = f a + sumL (r.map f) + c
    by_cases e : a = k
    · subst e
      have : r.map g = r.map f := List.map_congr_left fun y hy => h2 y fun e => h.1 (e ▸ hy)
      rw [this, h1]; omega
    · rw [h2 a e, ih h.2 ((List.mem_cons.mp hk).resolve_left fun c => e c.symm)]; omega
/-- the deeds by kind while they are drawn; L: the levels from it on are done, of the one below it the kinds in dn -/
structure BkI (w : Wd) (L : Nat) (dn : List Str) (bk : List (Key × M)) (f : Str → List Dd) (N cnt : Nat) : Prop where
  at_ : ∀ k, (getA bk (.inr k) = none ∧ f k = []) ∨ getA bk (.inr k) = some (.l ((f k).map Dd.toP))
  len : bk.length ≤ cnt
  fl : ∀ k, (f k).length ≤ cnt
  ok : ∀ k, ∀ x ∈ f k, DdOk w k x
  sum : sumL ((nmsT w.tr).map fun k => ddsN (f k)) = N
  ord : ∀ k, ((f k).map Dd.nm).Sublist (w.deeds.drop (if k ∈ dn then L - 1 else L)).reverse
  has : ∀ k (m : Nat) d (ol : List Str), w.deeds[m]? = some d → getA w.ownT (.inr d) = some (.list (ol.map PyData.str)) → (L ≤ m ∨ (m + 1 = L ∧ k ∈ dn)) → k ∈ ol → d ∈ (f k).map Dd.nm
  own : ∀ k, ∀ d ∈ (f k).map Dd.nm, ∀ ol : List Str, getA w.ownT (.inr d) = some (.list (ol.map PyData.str)) → k ∈ ol
theorem strs_inj {a b : List Str} (h : a.map PyData.str = b.map PyData.str) : a = b := by
  induction a generalizing b with
  | nil => cases b with
    | nil => rfl
    | cons y b => cases h
  | cons x a ih => cases b with
    | nil => cases h
    | cons y b =>
      rw [List.map_cons, List.map_cons] at h
      injection h with h1 h2
      cases h1
      rw [ih h2]
theorem BkI.step {w : Wd} {L : Nat} {dn : List Str} {bk : List (Key × M)} {f : Str → List Dd} {N cnt : Nat} (h : BkI w L dn bk f N cnt) (hnd : (nmsT w.tr).Nodup) {k : Str} {x : Dd} {ol : List Str} (hL : 0 < L) (hd : w.deeds[L - 1]? = some x.nm) (hx : DdOk w k x) (hk : k ∈ nmsT w.tr) (hkd : k ∉ dn) (hol : getA w.ownT (.inr x.nm) = some (.list (ol.map PyData.str))) (hko : k ∈ ol) :
    BkI w L (dn ++ [k]) (putA bk (.inr k) (.l ((f k).map Dd.toP ++ [x.toP]))) (fun y => if y = k then f k ++ [x] else f y) (N + rwsN x.rows) (cnt + 1) := by
  have hdrop : w.deeds.drop (L - 1) = x.nm :: w.deeds.drop L := by
    have hlt := (List.getElem?_eq_some_iff.mp hd)
    obtain ⟨h1, h2⟩ := hlt
    rw [List.drop_eq_getElem_cons h1, h2]
    congr 2; omega
  refine ⟨fun y => ?_, ?_, fun y => ?_, fun y z hz => ?_, ?_, fun y => ?_, fun y m d ol' hm ho hc hy => ?_, fun y d hd' ol' ho => ?_⟩
  · rw [getA_put]
    by_cases e : y = k
    · subst e
      right
      rw [if_pos rfl, if_pos rfl, List.map_append]; rfl
    · rw [if_neg (fun c => e (by cases c; rfl)), if_neg e]
      exact h.at_ y
  · exact Nat.le_trans (putA_len _ _ _) (by have := h.len; omega)
  · by_cases e : y = k
    · subst e
      rw [if_pos rfl, List.length_append]
      have := h.fl y
      simp; omega
    · rw [if_neg e]
      have := h.fl y
      omega
  · by_cases e : y = k
    · subst e
      rw [if_pos rfl] at hz
      rcases List.mem_append.mp hz with c | c
      · exact h.ok y z c
      · simp at c; subst c; exact hx
    · rw [if_neg e] at hz
      exact h.ok y z hz
  · rw [← h.sum]
    refine sumL_upd hnd hk _ _ _ ?_ fun y hy => ?_
    · simp only [if_pos]
      rw [ddsN_snoc]
    · simp only [if_neg hy]
  · by_cases e : y = k
    · subst e
      have h1 := h.ord y
      rw [if_neg hkd] at h1
      rw [if_pos rfl, if_pos (by simp), hdrop, List.reverse_cons, List.map_append]
      exact List.Sublist.append h1 (List.Sublist.refl _)
    · rw [if_neg e]
      have h1 := h.ord y
      have h2 : (y ∈ dn ++ [k]) ↔ y ∈ dn := by simp [e]
      by_cases c : y ∈ dn
      · rw [if_pos c] at h1
        rw [if_pos (h2.mpr c)]; exact h1
      · rw [if_neg c] at h1
        rw [if_neg (fun z => c (h2.mp z))]; exact h1
  · by_cases e : y = k
    · subst e
      rw [if_pos rfl, List.map_append]
      by_cases c : m + 1 = L
      · have : m = L - 1 := by omega
        subst this
        rw [hd] at hm
        cases hm
        simp
      · refine List.mem_append_left _ (h.has y m d ol' hm ho (Or.inl ?_) hy)
        rcases hc with hc | hc
        · exact hc
        · exact absurd hc.1 c
    · rw [if_neg e]
      refine h.has y m d ol' hm ho ?_ hy
      rcases hc with hc | ⟨hc, hc2⟩
      · exact Or.inl hc
      · exact Or.inr ⟨hc, by simpa [e] using hc2⟩
  · by_cases e : y = k
    · subst e
      rw [if_pos rfl, List.map_append] at hd'
      rcases List.mem_append.mp hd' with c | c
      · exact h.own y d c ol' ho
      · simp at c; subst c
        rw [hol] at ho
        have := strs_inj (by injection ho with ho; injection ho : ol.map PyData.str = ol'.map PyData.str)
        rw [← this]; exact hko
    · rw [if_neg e] at hd'
      exact h.own y d hd' ol' ho
theorem BkI.next {w : Wd} {L : Nat} {ol : List Str} {d : Str} {bk : List (Key × M)} {f : Str → List Dd} {N cnt : Nat} (h : BkI w L ol bk f N cnt) (hL : 0 < L) (hd : w.deeds[L - 1]? = some d) (hol : getA w.ownT (.inr d) = some (.list (ol.map PyData.str))) : BkI w (L - 1) [] bk f N cnt := by
  refine ⟨h.at_, h.len, h.fl, h.ok, h.sum, fun k => ?_, fun k m d' ol' hm ho hc hk => ?_, h.own⟩
  · have h1 := h.ord k
    rw [if_neg (by simp)]
    by_cases c : k ∈ ol
    · rwa [if_pos c] at h1
    · rw [if_neg c] at h1
      refine h1.trans (List.Sublist.reverse ?_)
      exact List.drop_sublist_drop_left _ (by omega)
  · by_cases c : L ≤ m
    · exact h.has k m d' ol' hm ho (Or.inl c) hk
    · have hm2 : m = L - 1 := by
        rcases hc with hc | hc
        · omega
        · cases hc.2
      subst hm2
      rw [hd] at hm
      cases hm
      rw [hol] at ho
      have := strs_inj (by injection ho with ho; injection ho : ol.map PyData.str = ol'.map PyData.str)
      rw [← this] at hk
      exact h.has k (L - 1) d ol hd hol (Or.inr ⟨by omega, hk⟩) hk
theorem BkI.sd {w : Wd} {L : Nat} {dn : List Str} {bk : List (Key × M)} {f : Str → List Dd} {N cnt : Nat} (h : BkI w L dn bk f N cnt) (hc : cnt < LIM) (k : Str) : sdN bk (.inr k) = some ((f k).map Dd.toP) := by
  have h1 := h.len
  have h2 := h.fl k
  unfold sdN
  rcases h.at_ k with ⟨e1, e2⟩ | e
  · rw [e1, e2]
    simp only
    rw [if_pos (by omega)]; rfl
  · rw [e]
    simp only
    rw [if_pos ⟨by rw [List.length_map]; omega, by omega⟩]
end Mn
open PySem
namespace Mn
/-- a program as it is drawn -/
structure PgOk (w : Wd) (p : Pg) (most : Nat) : Prop where
  kinds : p.kinds.map (fun k => (k.nm, k.up)) = w.tr
  late : p.late = sortS w.late
  dok : ∀ k ∈ p.kinds, ∀ x ∈ k.deeds, DdOk w k.nm x
  dord : ∀ k ∈ p.kinds, (k.deeds.map Dd.nm).Sublist w.deeds
  dhas : ∀ k ∈ p.kinds, ∀ d (ol : List Str), d ∈ w.deeds → getA w.ownT (.inr d) = some (.list (ol.map PyData.str)) → (k.nm ∈ ol ↔ d ∈ k.deeds.map Dd.nm)
  main : ∃ n, n ≤ 4 ∧ ∀ r ∈ p.main, RwOk { w with ow := false } n r
  ml : p.main.length ≤ 20
  tot : sumL (p.kinds.map fun k => ddsN k.deeds) + rwsN p.main ≤ most
theorem rg3 {i : Int} (h : -(2 ^ 62) ≤ i ∧ i < 2 ^ 62) : rgItems [.v (.int i), .v (.int (-1)), .v (.int (-1))] = some ((List.range (i - -1).toNat).map fun (k : Nat) => .int (i + (k : Nat) * -1)) := if_pos ⟨rfl, h.1, h.2, by omega, by omega⟩
theorem strs_of : ∀ l : List Str, strsOf (l.map PyData.str) = some l
  | [] => rfl
  | x :: l => by
    rw [List.map_cons]
    unfold strsOf
    rw [strs_of l]; rfl
theorem sorted_strs {l : List Str} (h : l.length < 64) : biM .sorted [.v (.list (l.map PyData.str))] = some (.l ((sortS l).map PyData.str)) := by
  show (if (l.map PyData.str).length < 64 then _ else _) = _
  rw [if_pos (by rw [List.length_map]; exact h), strs_of]
theorem WdOk.ow {w : Wd} (h : WdOk w) (b : Bool) : WdOk { w with ow := b } := ⟨h.tree, h.pos, h.len, h.dnd, h.dw, h.dpos, h.dlen, h.root, h.want, h.own, h.vl, h.pl, h.fl, h.ww, h.vnd, h.fnd⟩
theorem HeldOk.ow {w : Wd} {t : Int} {kvs : List (Key × P)} (h : HeldOk w t kvs) (b : Bool) : HeldOk { w with ow := b } t kvs := ⟨h.len, h.ok⟩
theorem getN_none {ρ : Env} {i : Nat} {kvs : List (Key × M)} {k : Str} (h : getA kvs (.inr k) = none) (e : slot ρ i = some (.n kvs) := by rfl) : getN ρ i (.str k) = some (.v (.list []), ρ) := by
  unfold getN
  rw [e, show keyOf (.str k) = some (.inr k) from rfl]
  simp only [h]
theorem getN_l {ρ : Env} {i : Nat} {kvs : List (Key × M)} {k : Str} {ps : List P} (h : getA kvs (.inr k) = some (.l ps)) (e : slot ρ i = some (.n kvs) := by rfl) : getN ρ i (.str k) = some (.v (.list ps), ρ.set i (some (.n (putA kvs (.inr k) (.v (.list ps)))))) := by
  unfold getN
  rw [e, show keyOf (.str k) = some (.inr k) from rfl]
  simp only [h]
def SpProg (C : FnC) (i : Nat) : Prop := ∀ (t d : Int) (h : M) (most : Nat), Hd t d h → most ≤ 1000 → t + 64 * most + 8000 ≤ LT → ∃ (w : Wd) (p : Pg) (h' : M), C i [h, .v (.int most)] = some (.v p.toP, [h', .v (.int most)]) ∧ WdOk w ∧ PgOk w p most ∧ ∃ d' : Int, Hd (t + 64 * most + 8000) d' h'
theorem program_ok (ix : Ix) (T : Tab) (C : FnC) (hT : SpTake C ix.l_take) (hO : SpOf C ix.l_of) (hWd : SpWorld C ix.l_world) (hDd : SpDeed C ix.l_deed) (hRs : ∀ n, n ≤ 4 → SpRows C ix.l_rows n) : ∀ (t d : Int) (h : M) (most : Nat), Hd t d h → most ≤ 1000 → t + 64 * most + 8000 ≤ LT → ∃ (w : Wd) (p : Pg) (h' : M), runF T C (F_law_program ix) [h, .v (.int most)] = some (.v p.toP, [h', .v (.int most)]) ∧ WdOk w ∧ PgOk w p most ∧ ∃ d' : Int, Hd (t + 64 * most + 8000) d' h' := by
  intro t d h most hd hm hLT
  have hL : LT = 500000 := rfl
  obtain ⟨a, b, c, e, hb, hc, ht⟩ := hd
  subst e
  have hd : Hd t d (.l [.int a, .int b, .int c, .int d]) := ⟨a, b, c, rfl, hb, hc, ht⟩
  have key : ∃ r ms, runF T C (F_law_program ix) [.l [.int a, .int b, .int c, .int d], .v (.int most)] = some (r, ms) ∧ ∃ (w : Wd) (p : Pg) (h' : M), r = .v p.toP ∧ ms = [h', .v (.int most)] ∧ WdOk w ∧ PgOk w p most ∧ ∃ d' : Int, Hd (t + 64 * most + 8000) d' h' := by
    apply run_of rfl
    unfold F_law_program
    show WSS _ _ [some _, some _, none, none, none, none, none, none, none, none] _ _
    dsimp only
    (try walk_at "mn"); repeat walk_at "mS"
    obtain ⟨w, h1, e1, hW, how, hd1⟩ := hWd t d _ hd (by omega)
    refine ⟨_, _, e1, ?_⟩
    obtain ⟨a1, b1, c1, rfl, hb1, hc1, ht1⟩ := hd1
    (try walk_at "mn"); repeat walk_at "mS"
    have hD0 : ∃ D0 : Int, D0 = (most : Int) - (most : Int) / 3 ∧ 0 ≤ D0 ∧ D0 ≤ most := ⟨_, rfl, by omega, by omega⟩
    obtain ⟨D0, hD0, hD1, hD2⟩ := hD0
    rw [← hD0]
    have hdl := hW.dlen
    have hdp := hW.dpos
    have hdml : (w.deeds.map PyData.str).length = w.deeds.length := List.length_map _
    refine ws_fr (fun j ρ => ∃ (h' : M) (wa wb : List (Key × P)) (bk : List (Key × M)) (f : Str → List Dd) (N cnt : Nat) (o4 o7 : Option M), ρ = [some h', some (.v (.int most)), some (wdM w wa wb), some (.n bk), o4, none, none, o7, none, none] ∧ isLk o4 = false ∧ isLk o7 = false ∧ BkI w (w.deeds.length - j) [] bk f N cnt ∧ cnt ≤ 12 * j ∧ (N : Int) ≤ D0 ∧ HeldOk w (t + 600 + 45 * cnt + 64 * N) wa ∧ HeldOk w (t + 600 + 45 * cnt + 64 * N) wb ∧ Hd (t + 600 + 45 * cnt + 64 * N) (D0 - N) h') rfl ?_
    refine wi_rg ?_
    (try walk_at "mn"); repeat walk_at "mS"
    refine ⟨_, _, rfl, rg3 (by omega), ?_, fun j p ρ2 hp hI => ?_, fun ρ2 hI => ?_⟩
    · refine ⟨_, [], [], [], fun _ => [], 0, 0, none, none, rfl, rfl, rfl, ⟨fun k => Or.inl ⟨rfl, rfl⟩, by simp, fun k => by simp, fun k x hx => (by cases hx), ?_, fun k => by simp, fun k m d ol hm ho hc hk => ?_, fun k d hd => (by cases hd)⟩, by omega, by simpa using hD1, ⟨by simp; omega, fun kv hkv => (by cases hkv)⟩, ⟨by simp; omega, fun kv hkv => (by cases hkv)⟩, ?_⟩
      · have : ∀ l : List Str, sumL (l.map fun _ => ddsN []) = 0 := by
          intro l
          induction l with
          | nil => rfl
          | cons a r ih => show 0 + sumL (r.map fun _ => ddsN []) = 0; omega
        exact this _
      · have := (List.getElem?_eq_some_iff.mp hm).1
        rcases hc with hc | hc
        · omega
        · cases hc.2
      · exact ⟨a1, b1, c1, by simp, hb1, hc1, by simp; omega⟩
    · rw [List.getElem?_map] at hp
      obtain ⟨j', hj1, hj2⟩ := Option.map_eq_some_iff.mp hp
      have hjl := (List.getElem?_eq_some_iff.mp hj1).1
      rw [List.length_range] at hjl
      rw [List.getElem?_range hjl] at hj1
      cases hj1
      have hj : j < w.deeds.length := by omega
      have hlv : ((w.deeds.map PyData.str).length : Int) - 1 + (j : Int) * -1 = ((w.deeds.length - j - 1 : Nat) : Int) := by omega
      rw [hlv] at hj2
      subst hj2
      obtain ⟨h2, wa, wb, bk, f, N, cnt, o4, o7, rfl, u4, u7, hBk, hcn, hND, hA, hB, hd2⟩ := hI
      obtain ⟨dd, hdd⟩ : ∃ dd, w.deeds[w.deeds.length - j - 1]? = some dd := ⟨_, List.getElem?_eq_getElem (by omega)⟩
      obtain ⟨ol, hol, hols, holp⟩ := hW.own dd (List.mem_of_getElem? hdd)
      have holn : ol.Nodup := hols.nodup hW.tree.nd
      have holl : ol.length ≤ 12 := by
        have h1 := hols.length_le
        have h2 := hW.len
        unfold nmsT at h1
        rw [List.length_map] at h1
        omega
      refine ⟨_, sto_go u4 rfl (Nat.le_of_ble_eq_true rfl), ?_⟩
      (try walk_at "mn"); repeat walk_at "mS"
      refine ws_fr (fun q ρ => ∃ (h' : M) (wa wb : List (Key × P)) (bk : List (Key × M)) (f : Str → List Dd) (N cnt : Nat) (o7 : Option M), ρ = [some h', some (.v (.int most)), some (wdM w wa wb), some (.n bk), some (.v (.int ((w.deeds.length - j - 1 : Nat) : Int))), none, none, o7, none, none] ∧ isLk o7 = false ∧ BkI w (w.deeds.length - j) (ol.take q) bk f N cnt ∧ cnt ≤ 12 * j + q ∧ (N : Int) ≤ D0 ∧ HeldOk w (t + 600 + 45 * cnt + 64 * N) wa ∧ HeldOk w (t + 600 + 45 * cnt + 64 * N) wb ∧ Hd (t + 600 + 45 * cnt + 64 * N) (D0 - N) h') rfl ?_
      refine wi_of ?_
      (try walk_at "mn"); repeat walk_at "mS"
      refine lf_sub rfl (subLL (c := .str dd) (by omega) (by rw [List.getElem?_map, show (((w.deeds.length - j - 1 : Nat) : Int)).toNat = w.deeds.length - j - 1 by omega, hdd]; rfl)) ?_
      refine lf_sub rfl (subFD hol) ?_
      (try walk_at "mn"); repeat walk_at "mS"
      refine ⟨⟨h2, wa, wb, bk, f, N, cnt, o7, rfl, u7, hBk, by omega, hND, hA, hB, hd2⟩, fun q p ρ2 hp hI => ?_, fun ρ2 hI => ?_⟩
      · obtain ⟨h2, wa, wb, bk, f, N, cnt, o7, rfl, u7, hBk, hcn, hND, hA, hB, hd2⟩ := hI
        rw [List.getElem?_map] at hp
        obtain ⟨k, hk, rfl⟩ := Option.map_eq_some_iff.mp hp
        have hq := (List.getElem?_eq_some_iff.mp hk).1
        have hko : k ∈ ol := List.mem_of_getElem? hk
        have hkn : k ∈ nmsT w.tr := hols.subset hko
        have hkd : k ∉ ol.take q := fun c => by
          obtain ⟨i, hi⟩ := List.mem_iff_getElem?.mp c
          have hij : i < q := by
            have := (List.getElem?_eq_some_iff.mp hi).1
            rw [List.length_take] at this; omega
          rw [List.getElem?_take_of_lt hij] at hi
          have := (List.getElem?_inj (by omega) holn).mp (hi.trans hk.symm)
          omega
        refine ⟨_, sto_go u7 rfl (Nat.le_of_ble_eq_true rfl), ?_⟩
        (try walk_at "mn"); repeat walk_at "mS"
        refine ws_sda rfl ?_
        (try walk_at "mn"); repeat walk_at "mS"
        refine ⟨_, _, _, _, rfl, rfl, rfl, hBk.sd (by show _ < 1000000; omega) k, ?_⟩
        (try walk_at "mn"); repeat walk_at "mS"
        obtain ⟨x, h3, wa3, wb3, e3, q1, q2, q3, q4, q5, q6⟩ := hDd _ (D0 - N) _ w wa wb k (w.deeds.length - j - 1) hd2 (by omega) (by omega) hW how hA hB hkn (by omega)
        refine ⟨_, _, e3, ?_⟩
        (try walk_at "mn"); repeat walk_at "mS"
        refine ⟨rfl, ?_⟩
        (try walk_at "mn"); repeat walk_at "mS"
        have hxn : x.nm = dd := by rw [hdd] at q1; exact (Option.some.inj q1).symm
        have hst := hBk.step hW.tree.nd (x := x) (ol := ol) (by omega) (by rw [q1]) q2 hkn hkd (by rw [hxn]; exact hol) hko
        have htk : ol.take (q + 1) = ol.take q ++ [k] := by rw [List.take_succ, hk]; rfl
        rw [← htk] at hst
        refine ⟨h3, wa3, wb3, _, _, _, _, _, rfl, rfl, hst, by omega, by omega, q4.mono (by omega), q5.mono (by omega), ?_⟩
        have : D0 - N - rwsN x.rows = D0 - ((N + rwsN x.rows : Nat) : Int) := by omega
        rw [this] at q6
        exact q6.mono (by omega)
      · rw [List.length_map, List.take_length] at hI
        obtain ⟨h2, wa, wb, bk, f, N, cnt, o7, rfl, u7, hBk, hcn, hND, hA, hB, hd2⟩ := hI
        (try walk_at "mn"); repeat walk_at "mS"
        have hnx := hBk.next (by omega) hdd hol
        have : w.deeds.length - (j + 1) = w.deeds.length - j - 1 := by omega
        refine ⟨h2, wa, wb, bk, f, N, cnt, _, o7, rfl, rfl, u7, by rw [this]; exact hnx, by omega, hND, hA, hB, hd2⟩
    rw [List.length_map, List.length_range] at hI
    have hjl : (((w.deeds.map PyData.str).length : Int) - 1 - -1).toNat = w.deeds.length := by omega
    rw [hjl, Nat.sub_self] at hI
    obtain ⟨h2, wa, wb, bk, f, N, cnt, o4, o7, rfl, u4, u7, hBk, hcn, hND, hA, hB, hd2⟩ := hI
    obtain ⟨a2, b2, c2, rfl, hb2, hc2, ht2⟩ := hd2
    (try walk_at "mn"); repeat walk_at "mS"
    have hd2 : Hd (t + 600 + 45 * cnt + 64 * N) (D0 - N + (most : Int) / 3) (.l [.int a2, .int b2, .int c2, .int (D0 - N + (most : Int) / 3)]) := ⟨a2, b2, c2, rfl, hb2, hc2, ht2⟩
    obtain ⟨r3, h3, e3, k1, k2, hd3⟩ := hT _ _ _ 5 hd2 (by omega) (by omega)
    refine ⟨_, _, e3, ?_⟩
    (try walk_at "mn"); repeat walk_at "mS"
    obtain ⟨p4, h4, e4, k4, hd4⟩ := hO _ _ _ (.l ([4, 8, 12, 20].map PyData.int)) ([4, 8, 12, 20].map PyData.int) hd3 (by omega) (Or.inl rfl) (show 0 < 4 by omega) (show 4 < 1000000 by omega)
    refine ⟨_, _, e4, ?_⟩
    obtain ⟨i4, k5, rfl⟩ := mem_ints (l := [4, 8, 12, 20]) k4
    obtain ⟨mo, mo6, rfl⟩ : ∃ n : Nat, n ≤ 20 ∧ i4 = n := ⟨i4.toNat, by simp at k5; omega, by simp at k5; omega⟩
    obtain ⟨n, hn, rfl⟩ : ∃ n : Nat, n ≤ 4 ∧ r3 = n := ⟨r3.toNat, by omega, by omega⟩
    (try walk_at "mn"); repeat walk_at "mS"
    obtain ⟨rs, h5, wb5, env5, e5, q1, q2, q3, q4, q5, q6⟩ := hRs n hn _ _ _ { w with ow := false } wa wb [] (-1) mo hd4 (by omega) (by omega) (hW.ow false) ⟨by simp; omega, fun kv hkv => (by cases hkv)⟩ ((hA.mono (by omega)).ow false) ((hB.mono (by omega)).ow false) mo6
    refine ⟨_, _, e5, ?_⟩
    (try walk_at "mn"); repeat walk_at "mS"
    have hfin : ∀ k, (getA bk (.inr k) = none ∧ f k = []) ∨ getA bk (.inr k) = some (.l ((f k).map Dd.toP)) := hBk.at_
    refine we_comp (fun j ρ acc => ∃ (bk : List (Key × M)) (o8 o9 : Option M), ρ = [some h5, some (.v (.int most)), some (wdM w wa wb5), some (.n bk), o4, some (.v (.tuple (rwsP rs))), none, o7, o8, o9] ∧ acc = (w.tr.take j).map (fun x => Kd.toP ⟨x.1, x.2, (f x.1).reverse⟩) ∧ ∀ k, k ∉ nmsT (w.tr.take j) → (getA bk (.inr k) = none ∧ f k = []) ∨ getA bk (.inr k) = some (.l ((f k).map Dd.toP))) rfl ?_
    refine wi_of ?_
    (try walk_at "mn"); repeat walk_at "mS"
    refine ⟨rfl, ⟨bk, none, none, rfl, rfl, fun k _ => hfin k⟩, fun j p ρ2 acc hp hI => ?_, fun ρ2 qs hI => ?_⟩
    · obtain ⟨bk, o8, o9, rfl, rfl, hb⟩ := hI
      rw [List.getElem?_map] at hp
      obtain ⟨⟨k, el⟩, hx, rfl⟩ := Option.map_eq_some_iff.mp hp
      have htk : w.tr.take (j + 1) = w.tr.take j ++ [(k, el)] := by rw [List.take_succ, hx]; rfl
      have hnew : k ∉ nmsT (w.tr.take j) := fun c => by
        have hnd := hW.tree.nd
        unfold nmsT at c hnd
        rw [List.map_take] at c
        obtain ⟨i, hi⟩ := List.mem_iff_getElem?.mp c
        have hij : i < j := by
          have := (List.getElem?_eq_some_iff.mp hi).1
          rw [List.length_take] at this; omega
        rw [List.getElem?_take_of_lt hij] at hi
        have h2 : (w.tr.map (·.1))[j]? = some k := by rw [List.getElem?_map, hx]; rfl
        have := (List.getElem?_inj (by have := (List.getElem?_eq_some_iff.mp h2).1; omega) hnd).mp (hi.trans h2.symm)
        omega
      have hjl := (List.getElem?_eq_some_iff.mp hx).1
      have hwl := hW.len
      dsimp only [wipeE, List.set]
      refine ⟨_, bindT2 rfl rfl (Nat.le_of_ble_eq_true rfl) rfl rfl (Nat.le_of_ble_eq_true rfl), ?_⟩
      (try walk_at "mn"); repeat walk_at "mS"
      refine we_getn rfl ?_
      (try walk_at "mn"); repeat walk_at "mS"
      have hacc : (List.map (fun x => Kd.toP ⟨x.1, x.2, (f x.1).reverse⟩) (w.tr.take j)).length < LIM := by
        rw [List.length_map, List.length_take]; show _ < 1000000; omega
      have hac2 : List.map (fun x => Kd.toP ⟨x.1, x.2, (f x.1).reverse⟩) (w.tr.take j) ++ [.tuple [.str k, optP el, .tuple ((f k).map Dd.toP).reverse]] = List.map (fun x => Kd.toP ⟨x.1, x.2, (f x.1).reverse⟩) (w.tr.take (j + 1)) := by
        rw [htk, List.map_append, ← List.map_reverse]; rfl
      rcases hb k hnew with ⟨g1, g2⟩ | g1
      · refine ⟨_, _, getN_none g1, ?_⟩
        refine ⟨_, _, rfl, rfl, ?_⟩
        (try walk_at "mn"); repeat walk_at "mS"
        refine ⟨hacc, bk, _, _, rfl, ?_, fun k' hk' => ?_⟩
        · rw [← hac2, g2]; rfl
        · exact hb k' (fun c => hk' (by rw [htk, nmsT_snoc]; exact List.mem_append_left _ c))
      · refine ⟨_, _, getN_l g1, ?_⟩
        refine ⟨_, _, rfl, rfl, ?_⟩
        (try walk_at "mn"); repeat walk_at "mS"
        refine ⟨hacc, _, _, _, rfl, ?_, fun k' hk' => ?_⟩
        · rw [← hac2]
        · rw [htk, nmsT_snoc] at hk'
          have hne : k' ≠ k := fun c => hk' (by rw [c]; simp)
          rw [getA_put, if_neg (fun c => hne (by cases c; rfl))]
          exact hb k' (fun c => hk' (List.mem_append_left _ c))
    rw [List.length_map, List.take_length] at hI
    obtain ⟨bk2, o8, o9, rfl, rfl, hb⟩ := hI
    (try walk_at "mo")
    (try walk_at "mn"); repeat walk_at "mS"
    have hll := hW.tree.llen
    refine lf_bi rfl (sorted_strs (by omega)) ?_
    (try walk_at "mn"); repeat walk_at "mS"
    have hmem : ∀ k : Kd, k ∈ w.tr.map (fun x => (⟨x.1, x.2, (f x.1).reverse⟩ : Kd)) → k.deeds = (f k.nm).reverse := fun k hk => by
      obtain ⟨x, _, rfl⟩ := List.mem_map.mp hk
      rfl
    refine ⟨w, ⟨w.tr.map fun x => ⟨x.1, x.2, (f x.1).reverse⟩, sortS w.late, rs⟩, h5, ?_, rfl, hW, ⟨?_, rfl, fun k hk x hx => ?_, fun k hk => ?_, fun k hk d ol hd hol => ?_, ⟨n, hn, q1⟩, by show rs.length ≤ 20; omega, ?_⟩, ⟨_, q6.mono (by omega)⟩⟩
    · show _ = M.v (.tuple [.tuple ((w.tr.map fun x => (⟨x.1, x.2, (f x.1).reverse⟩ : Kd)).map Kd.toP), .tuple ((sortS w.late).map PyData.str), .tuple (rwsP rs)])
      rw [List.map_map]; rfl
    · show (w.tr.map fun x => (⟨x.1, x.2, (f x.1).reverse⟩ : Kd)).map _ = _
      rw [List.map_map]
      exact List.map_id' _
    · rw [hmem k hk] at hx
      exact hBk.ok _ x (List.mem_reverse.mp hx)
    · rw [hmem k hk, List.map_reverse]
      have h1 := hBk.ord k.nm
      rw [if_neg (by simp), List.drop_zero] at h1
      have := h1.reverse
      rwa [List.reverse_reverse] at this
    · rw [hmem k hk, List.map_reverse, List.mem_reverse]
      constructor
      · intro hko
        obtain ⟨m, hm⟩ := List.mem_iff_getElem?.mp hd
        exact hBk.has k.nm m d ol hm hol (Or.inl (by omega)) hko
      · intro hdm
        exact hBk.own k.nm d hdm ol hol
    · have h1 : sumL ((w.tr.map fun x => (⟨x.1, x.2, (f x.1).reverse⟩ : Kd)).map fun k => ddsN k.deeds) = N := by
        rw [← hBk.sum, List.map_map]
        unfold nmsT
        rw [List.map_map]
        congr 1
        refine List.map_congr_left fun x _ => ?_
        exact ddsN_rev _
      show sumL ((w.tr.map fun x => (⟨x.1, x.2, (f x.1).reverse⟩ : Kd)).map fun k => ddsN k.deeds) + rwsN rs ≤ most
      rw [h1]; omega
  obtain ⟨r, ms, e, w, p, h', rfl, rfl, q1, q2⟩ := key
  exact ⟨w, p, _, e, q1, q2⟩
end Mn
open PySem
namespace Mn
structure GenT (T : Tab) (ix : Ix) : Prop where
  f_hand : T.fs[ix.l_hand]? = some (F_law_hand ix)
  f_take : T.fs[ix.l_take]? = some (F_law_take ix)
  f_of : T.fs[ix.l_of]? = some (F_law_of ix)
  f_words : T.fs[ix.l_words]? = some (F_law_words ix)
  f_tree : T.fs[ix.l_tree]? = some (F_law_tree ix)
  f_world : T.fs[ix.l_world]? = some (F_law_world ix)
  f_line : T.fs[ix.l_line]? = some (F_law_line ix)
  f_has : T.fs[ix.l_has]? = some (F_law_has ix)
  f_variable : T.fs[ix.l_variable]? = some (F_law_variable ix)
  f_target : T.fs[ix.l_target]? = some (F_law_target ix)
  f_make : T.fs[ix.l_make]? = some (F_law_make ix)
  f_args : T.fs[ix.l_args]? = some (F_law_args ix)
  f_call : T.fs[ix.l_call]? = some (F_law_call ix)
  f_field : T.fs[ix.l_field]? = some (F_law_field ix)
  f_row : T.fs[ix.l_row]? = some (F_law_row ix)
  f_rows : T.fs[ix.l_rows]? = some (F_law_rows ix)
  f_deed : T.fs[ix.l_deed]? = some (F_law_deed ix)
  f_program : T.fs[ix.l_program]? = some (F_law_program ix)
theorem callF_at {T : Tab} {i : Nat} {F : Fn} (h : T.fs[i]? = some F) (k : Nat) (ms : List M) : callF T (k + 1) i ms = runF T (callF T k) F ms := by
  show (match T.fs[i]? with
    | some F => runF T (callF T k) F ms
    | none => none) = _
  rw [h]
section
variable {T : Tab} {ix : Ix} (g : GenT T ix)
include g
theorem g_hand : ∀ K, 1 ≤ K → SpHand (callF T K) ix.l_hand := fun K hK => by
  obtain ⟨K, rfl⟩ : ∃ k, K = k + 1 := ⟨K - 1, by omega⟩
  intro ns k h1 h2
  rw [callF_at g.f_hand]
  exact hand_ok ix T _ ns k h1 h2
theorem g_take : ∀ K, 1 ≤ K → SpTake (callF T K) ix.l_take := fun K hK => by
  obtain ⟨K, rfl⟩ : ∃ k, K = k + 1 := ⟨K - 1, by omega⟩
  intro t d h m h1 h2 h3
  rw [callF_at g.f_take]
  exact take_ok ix T _ t d h m h1 h2 h3
theorem g_of : ∀ K, 2 ≤ K → SpOf (callF T K) ix.l_of := fun K hK => by
  obtain ⟨K, rfl⟩ : ∃ k, K = k + 1 := ⟨K - 1, by omega⟩
  have h := of_ok ix T (callF T K) (g_take g K (by omega))
  unfold SpOf
  simp only [callF_at g.f_of]
  exact h
theorem g_words : ∀ K, 2 ≤ K → SpWords (callF T K) ix.l_words := fun K hK => by
  obtain ⟨K, rfl⟩ : ∃ k, K = k + 1 := ⟨K - 1, by omega⟩
  have h := words_ok ix T (callF T K) (g_take g K (by omega))
  unfold SpWords
  simp only [callF_at g.f_words]
  exact h
theorem g_tree : ∀ K, 3 ≤ K → SpTree (callF T K) ix.l_tree := fun K hK => by
  obtain ⟨K, rfl⟩ : ∃ k, K = k + 1 := ⟨K - 1, by omega⟩
  have h := tree_ok ix T (callF T K) (g_take g K (by omega)) (g_of g K (by omega)) (g_words g K (by omega))
  unfold SpTree
  simp only [callF_at g.f_tree]
  exact h
theorem g_world : ∀ K, 4 ≤ K → SpWorld (callF T K) ix.l_world := fun K hK => by
  obtain ⟨K, rfl⟩ : ∃ k, K = k + 1 := ⟨K - 1, by omega⟩
  have h := world_ok ix T (callF T K) (g_take g K (by omega)) (g_of g K (by omega)) (g_words g K (by omega)) (g_tree g K (by omega))
  unfold SpWorld
  simp only [callF_at g.f_world]
  exact h
theorem g_line : ∀ K, 1 ≤ K → SpLine (callF T K) ix.l_line := fun K hK => by
  obtain ⟨K, rfl⟩ : ∃ k, K = k + 1 := ⟨K - 1, by omega⟩
  have h := line_ok ix T (callF T K) 
  unfold SpLine
  simp only [callF_at g.f_line]
  exact h
theorem g_has : ∀ K, 2 ≤ K → SpHas (callF T K) ix.l_has := fun K hK => by
  obtain ⟨K, rfl⟩ : ∃ k, K = k + 1 := ⟨K - 1, by omega⟩
  have h := has_ok ix T (callF T K) (g_line g K (by omega))
  unfold SpHas
  simp only [callF_at g.f_has]
  exact h
theorem g_variable : ∀ K, 3 ≤ K → SpVar (callF T K) ix.l_variable := fun K hK => by
  obtain ⟨K, rfl⟩ : ∃ k, K = k + 1 := ⟨K - 1, by omega⟩
  have h := variable_ok ix T (callF T K) (g_take g K (by omega)) (g_of g K (by omega))
  unfold SpVar
  simp only [callF_at g.f_variable]
  exact h
theorem g_target : ∀ K, 3 ≤ K → SpTarget (callF T K) ix.l_target := fun K hK => by
  obtain ⟨K, rfl⟩ : ∃ k, K = k + 1 := ⟨K - 1, by omega⟩
  have h := target_ok ix T (callF T K) (g_of g K (by omega))
  unfold SpTarget
  simp only [callF_at g.f_target]
  exact h
theorem g_make : ∀ K, 4 ≤ K → SpMake (callF T K) ix.l_make := fun K hK => by
  obtain ⟨K, rfl⟩ : ∃ k, K = k + 1 := ⟨K - 1, by omega⟩
  have h := make_ok ix T (callF T K) (g_take g K (by omega)) (g_of g K (by omega)) (g_target g K (by omega))
  unfold SpMake
  simp only [callF_at g.f_make]
  exact h
theorem g_args : ∀ K, 4 ≤ K → SpArgs (callF T K) ix.l_args := fun K hK => by
  obtain ⟨K, rfl⟩ : ∃ k, K = k + 1 := ⟨K - 1, by omega⟩
  have h := args_ok ix T (callF T K) (g_take g K (by omega)) (g_of g K (by omega)) (g_variable g K (by omega)) (g_line g K (by omega))
  unfold SpArgs
  simp only [callF_at g.f_args]
  exact h
theorem g_call : ∀ K, 5 ≤ K → SpCall (callF T K) ix.l_call := fun K hK => by
  obtain ⟨K, rfl⟩ : ∃ k, K = k + 1 := ⟨K - 1, by omega⟩
  have h := call_ok ix T (callF T K) (g_take g K (by omega)) (g_of g K (by omega)) (g_variable g K (by omega)) (g_target g K (by omega)) (g_make g K (by omega)) (g_args g K (by omega)) (g_line g K (by omega)) (g_has g K (by omega))
  unfold SpCall
  simp only [callF_at g.f_call]
  exact h
theorem g_field : ∀ K, 4 ≤ K → SpField (callF T K) ix.l_field := fun K hK => by
  obtain ⟨K, rfl⟩ : ∃ k, K = k + 1 := ⟨K - 1, by omega⟩
  have h := field_ok ix T (callF T K) (g_take g K (by omega)) (g_of g K (by omega)) (g_variable g K (by omega)) (g_target g K (by omega))
  unfold SpField
  simp only [callF_at g.f_field]
  exact h
theorem g_both : ∀ n K, (6 + 2 * n ≤ K → SpRow (callF T K) ix.l_row n) ∧ (7 + 2 * n ≤ K → SpRows (callF T K) ix.l_rows n) := by
  intro n
  induction n with
  | zero =>
    have hrow : ∀ K, 6 ≤ K → SpRow (callF T K) ix.l_row 0 := fun K hK => by
      obtain ⟨K, rfl⟩ : ∃ k, K = k + 1 := ⟨K - 1, by omega⟩
      have h := row_ok ix T (callF T K) 0 (g_take g K (by omega)) (g_of g K (by omega)) (g_variable g K (by omega)) (g_target g K (by omega)) (g_make g K (by omega)) (g_field g K (by omega)) (g_call g K (by omega)) (fun m hm => by omega)
      unfold SpRow
      simp only [callF_at g.f_row]
      exact h
    refine fun K => ⟨fun hK => hrow K (by omega), fun hK => ?_⟩
    obtain ⟨K, rfl⟩ : ∃ k, K = k + 1 := ⟨K - 1, by omega⟩
    have h := rows_ok ix T (callF T K) 0 (g_take g K (by omega)) (hrow K (by omega))
    unfold SpRows
    simp only [callF_at g.f_rows]
    exact h
  | succ n ih =>
    have hrow : ∀ K, 6 + 2 * (n + 1) ≤ K → SpRow (callF T K) ix.l_row (n + 1) := fun K hK => by
      obtain ⟨K, rfl⟩ : ∃ k, K = k + 1 := ⟨K - 1, by omega⟩
      have h := row_ok ix T (callF T K) (n + 1) (g_take g K (by omega)) (g_of g K (by omega)) (g_variable g K (by omega)) (g_target g K (by omega)) (g_make g K (by omega)) (g_field g K (by omega)) (g_call g K (by omega)) (fun m hm => by
        have : m = n := by omega
        subst this
        exact (ih K).2 (by omega))
      unfold SpRow
      simp only [callF_at g.f_row]
      exact h
    refine fun K => ⟨fun hK => hrow K (by omega), fun hK => ?_⟩
    obtain ⟨K, rfl⟩ : ∃ k, K = k + 1 := ⟨K - 1, by omega⟩
    have h := rows_ok ix T (callF T K) (n + 1) (g_take g K (by omega)) (hrow K (by omega))
    unfold SpRows
    simp only [callF_at g.f_rows]
    exact h
theorem g_deed : ∀ K, 16 ≤ K → SpDeed (callF T K) ix.l_deed := fun K hK => by
  obtain ⟨K, rfl⟩ : ∃ k, K = k + 1 := ⟨K - 1, by omega⟩
  have h := deed_ok ix T (callF T K) (g_take g K (by omega)) (g_of g K (by omega)) (g_variable g K (by omega)) (fun n hn => (g_both g n K).2 (by omega))
  unfold SpDeed
  simp only [callF_at g.f_deed]
  exact h
theorem g_program : ∀ K, 17 ≤ K → SpProg (callF T K) ix.l_program := fun K hK => by
  obtain ⟨K, rfl⟩ : ∃ k, K = k + 1 := ⟨K - 1, by omega⟩
  have h := program_ok ix T (callF T K) (g_take g K (by omega)) (g_of g K (by omega)) (g_world g K (by omega)) (g_deed g K (by omega)) (fun n hn => (g_both g n K).2 (by omega))
  unfold SpProg
  simp only [callF_at g.f_program]
  exact h
end
end Mn
open PySem
namespace Mn
structure Ip where
  kind_row : Nat
  line_up : Nat
  elders : Nat
  is_below : Nat
  deed_row : Nat
  inner_rows : Nat
  rows_flat : Nat
  bodies : Nat
  body_row : Nat
  all_rows : Nat
  calls : Nat
  is_here : Nat
  by_tree : Nat
  answer : Nat
  owed_by_row : Nat
  made_paper : Nat
  told_by_made : Nat
  by_made : Nat
  asked : Nat
  kind_names : Nat
  is_word : Nat
  are_unlike : Nat
  is_deed : Nat
  is_kind : Nat
  are_kinds : Nat
  are_late : Nat
  keep_params : Nat
  is_read : Nat
  is_given : Nat
  is_call : Nat
  is_row : Nat
  are_rows : Nat
  is_program : Nat
  main_of : Nat
  rows_of : Nat
  variable_at : Nat
  kinds_held : Nat
  kinds_met : Nat
  body_for : Nat
  bodies_met : Nat
  carried_on : Nat
  held_by_field : Nat
  held_by_call : Nat
  held_by_row : Nat
  told_of : Nat
  rises : Nat
  are_texts : Nat
  is_body : Nat
  are_bodies : Nat
  is_spot : Nat
  are_holds : Nat
  is_pair : Nat
  made_there : Nat
  answers_for : Nat
  shows_made : Nat
  shows_flow : Nat
  shows : Nat
  told_by : Nat
  c_MAIN : Nat
  c_LETTERS : Nat
  c_MOST_LETTERS : Nat
  c_MOST_KINDS : Nat
  c_MOST_DEEDS : Nat
  c_MOST_PARAMS : Nat
  c_MOST_LATE : Nat
  c_MOST_IN_ROWS : Nat
  c_MOST_DEEP : Nat
  c_MOST_ROWS : Nat
  c_OWN : Nat
  c_LONG : Nat
def F_kind_row (ix : Ip) : Fn := ⟨(Str.ofString "kind_row"), 2, [(Str.ofString "program"), (Str.ofString "name"), (Str.ofString "row")], (.cons (.fr (.nm 2) (.of (.sub (.pl 0) (.ki 0))) (.cons (.ifs (.cmp .eq (.sub (.pl 2) (.ki 0)) (.pl 1)) (.cons (.ret (.mv 2)) .nil) .nil) .nil)) (.cons (.ret .kn) .nil))⟩
def F_deed_row (ix : Ip) : Fn := ⟨(Str.ofString "deed_row"), 3, [(Str.ofString "program"), (Str.ofString "kind"), (Str.ofString "deed"), (Str.ofString "row")], (.cons (.fr (.nm 3) (.of (.sub (.call ix.kind_row (.cons (.pl 0) (.cons (.pl 1) .nil))) (.ki 2))) (.cons (.ifs (.cmp .eq (.sub (.pl 3) (.ki 0)) (.pl 2)) (.cons (.ret (.mv 3)) .nil) .nil) .nil)) (.cons (.ret .kn) .nil))⟩
def F_inner_rows (ix : Ip) : Fn := ⟨(Str.ofString "inner_rows"), 1, [(Str.ofString "row")], (.cons (.ifs (.cmp .eq (.sub (.pl 0) (.ki 0)) (.ks (Str.ofString "either"))) (.cons (.ret (.lst (.cons (.sub (.pl 0) (.ki 1)) (.cons (.sub (.pl 0) (.ki 2)) .nil)))) .nil) .nil) (.cons (.ifs (.cmp .eq (.sub (.pl 0) (.ki 0)) (.ks (Str.ofString "again"))) (.cons (.ret (.lst (.cons (.sub (.pl 0) (.ki 1)) .nil))) .nil) .nil) (.cons (.ret (.lst .nil)) .nil)))⟩
def F_rows_flat (ix : Ip) : Fn := ⟨(Str.ofString "rows_flat"), 1, [(Str.ofString "rows"), (Str.ofString "found"), (Str.ofString "row"), (Str.ofString "lot")], (.cons (.asg (.nm 1) (.lst .nil)) (.cons (.fr (.nm 2) (.lk 0) (.cons (.app 1 (.tk 2)) (.cons (.fr (.nm 3) (.of (.call ix.inner_rows (.cons (.pl 2) .nil))) (.cons (.ext 1 (.call ix.rows_flat (.cons (.pl 3) .nil))) .nil)) .nil))) (.cons (.ret (.mv 1)) .nil)))⟩
def F_bodies (ix : Ip) : Fn := ⟨(Str.ofString "bodies"), 1, [(Str.ofString "program"), (Str.ofString "found"), (Str.ofString "name"), (Str.ofString "elder"), (Str.ofString "deeds"), (Str.ofString "deed")], (.cons (.asg (.nm 1) (.lst (.cons (.g ix.c_MAIN) .nil))) (.cons (.fr (.tp [(.nm 2), (.nm 3), (.nm 4)]) (.of (.sub (.pl 0) (.ki 0))) (.cons (.ext 1 (.comp [5] (.nm 5) (.lk 4) .nil (.tup (.cons (.tk 2) (.cons (.sub (.pl 5) (.ki 0)) .nil))))) .nil)) (.cons (.ret (.mv 1)) .nil)))⟩
def F_body_row (ix : Ip) : Fn := ⟨(Str.ofString "body_row"), 2, [(Str.ofString "program"), (Str.ofString "body")], (.cons (.ifs (.cmp .eq (.pl 1) (.g ix.c_MAIN)) (.cons (.ret (.tup (.cons (.ks (Str.ofString "")) (.cons (.tup .nil) (.cons (.sub (.pl 0) (.ki 2)) (.cons .kn .nil)))))) .nil) .nil) (.cons (.ret (.call ix.deed_row (.cons (.pl 0) (.cons (.sub (.pl 1) (.ki 0)) (.cons (.sub (.pl 1) (.ki 1)) .nil))))) .nil))⟩
def F_all_rows (ix : Ip) : Fn := ⟨(Str.ofString "all_rows"), 1, [(Str.ofString "program"), (Str.ofString "found"), (Str.ofString "body"), (Str.ofString "number"), (Str.ofString "row")], (.cons (.asg (.nm 1) (.lst .nil)) (.cons (.fr (.nm 2) (.of (.call ix.bodies (.cons (.pl 0) .nil))) (.cons (.ext 1 (.comp [4] (.nm 4) (.of (.call ix.rows_flat (.cons (.sub (.call ix.body_row (.cons (.pl 0) (.cons (.pl 2) .nil))) (.ki 2)) .nil))) .nil (.tup (.cons (.tk 2) (.cons (.tk 4) .nil))))) .nil)) (.cons (.ret (.comp [3, 2, 4] (.tp [(.nm 3), (.tp [(.nm 2), (.nm 4)])]) (.en (.tk 1)) .nil (.tup (.cons (.tk 3) (.cons (.tk 2) (.cons (.tk 4) .nil)))))) .nil)))⟩
def F_calls (ix : Ip) : Fn := ⟨(Str.ofString "calls"), 1, [(Str.ofString "program"), (Str.ofString "one")], (.cons (.ret (.bi .tup (.cons (.comp [1] (.nm 1) (.of (.call ix.all_rows (.cons (.pl 0) .nil))) (.cons (.cmp .eq (.sub (.sub (.pl 1) (.ki 2)) (.ki 0)) (.ks (Str.ofString "call"))) .nil) (.tk 1)) .nil))) .nil)⟩
def mainP : P := .tuple [.str (Str.ofString ""), .str (Str.ofString "")]
theorem bindT3 {X : Cxt} {i j k : Nat} {p q r : P} {ρ : Env} (h1 : isLk (slot ρ i) = false) (h2 : pmAt X i = false) (h3 : i < ρ.length) (k1 : isLk (slot (ρ.set i (some (.v p))) j) = false) (k2 : pmAt X j = false) (k3 : j < ρ.length) (l1 : isLk (slot ((ρ.set i (some (.v p))).set j (some (.v q))) k) = false) (l2 : pmAt X k = false) (l3 : k < ρ.length) : bindT X (.tp [.nm i, .nm j, .nm k]) (.tuple [p, q, r]) ρ = some (((ρ.set i (some (.v p))).set j (some (.v q))).set k (some (.v r))) := by
  unfold bindT bindTs bindTs bindTs bindTs bindT
  rw [sto_go h1 h2 h3]
  simp only
  rw [sto_go k1 k2 (by rw [List.length_set]; exact k3)]
  simp only
  rw [sto_go l1 l2 (by rw [List.length_set, List.length_set]; exact l3)]
/-- a number and a pair -/
theorem bindT12 {X : Cxt} {i j k : Nat} {p q r : P} {ρ : Env} (h1 : isLk (slot ρ i) = false) (h2 : pmAt X i = false) (h3 : i < ρ.length) (k1 : isLk (slot (ρ.set i (some (.v p))) j) = false) (k2 : pmAt X j = false) (k3 : j < ρ.length) (l1 : isLk (slot ((ρ.set i (some (.v p))).set j (some (.v q))) k) = false) (l2 : pmAt X k = false) (l3 : k < ρ.length) : bindT X (.tp [.nm i, .tp [.nm j, .nm k]]) (.tuple [p, .tuple [q, r]]) ρ = some (((ρ.set i (some (.v p))).set j (some (.v q))).set k (some (.v r))) := by
  have h : bindT X (.tp [.nm i, .tp [.nm j, .nm k]]) (.tuple [p, .tuple [q, r]]) ρ = bindT X (.tp [.nm i, .nm j, .nm k]) (.tuple [p, q, r]) ρ := by
    simp only [bindT, bindTs]
    cases sto X i (.v p) ρ with
    | none => rfl
    | some ρ1 =>
      simp only
      cases sto X j (.v q) ρ1 with
      | none => rfl
      | some ρ2 =>
        simp only
        cases sto X k (.v r) ρ2 with
        | none => rfl
        | some ρ3 => rfl
  rw [h]
  exact bindT3 h1 h2 h3 k1 k2 k3 l1 l2 l3
def Rw.hd : Rw → Str
  | .make _ _ => Str.ofString "make"
  | .copy _ _ => Str.ofString "copy"
  | .take _ _ _ => Str.ofString "take"
  | .put _ _ _ => Str.ofString "put"
  | .call _ _ _ _ _ => Str.ofString "call"
  | .say _ => Str.ofString "say"
  | .bring _ => Str.ofString "bring"
  | .again _ => Str.ofString "again"
  | .either _ _ => Str.ofString "either"
def Rw.tl : Rw → List P
  | .make x k => [.str x, .str k]
  | .copy x y => [.str x, .str y]
  | .take z y f => [.str z, .str y, .str f]
  | .put x f y => [.str x, .str f, .str y]
  | .call x y a d args => [.str x, .str y, .str a, .str d, .tuple (args.map PyData.str)]
  | .say s => [.str s]
  | .bring k => [.str k]
  | .again a => [.tuple (rwsP a)]
  | .either a b => [.tuple (rwsP a), .tuple (rwsP b)]
theorem Rw.ht : ∀ r : Rw, r.toP = .tuple (.str r.hd :: r.tl)
  | .make _ _ | .copy _ _ | .take _ _ _ | .put _ _ _ | .call _ _ _ _ _ | .say _ | .bring _ => by unfold Rw.toP; rfl
  | .again _ | .either _ _ => by unfold Rw.toP; rfl
def Rw.inner : Rw → List (List Rw)
  | .again a => [a]
  | .either a b => [a, b]
  | _ => []
mutual
def Rw.flat : Rw → List Rw
  | .again a => .again a :: flatR a
  | .either a b => .either a b :: (flatR a ++ flatR b)
  | r => [r]
def flatR : List Rw → List Rw
  | [] => []
  | r :: rs => r.flat ++ flatR rs
end
mutual
def Rw.dp : Rw → Nat
  | .again a => 1 + rwsD a
  | .either a b => 1 + max (rwsD a) (rwsD b)
  | _ => 0
def rwsD : List Rw → Nat
  | [] => 0
  | r :: rs => max r.dp (rwsD rs)
end
def flatsR : List (List Rw) → List Rw
  | [] => []
  | a :: r => flatR a ++ flatsR r
theorem flat_eq (r : Rw) : r.flat = r :: flatsR r.inner := by
  cases r <;> simp [Rw.flat, Rw.inner, flatsR]
theorem flatR_snoc : ∀ (a : List Rw) (r : Rw), flatR (a ++ [r]) = flatR a ++ r.flat
  | [], r => by simp [flatR]
  | x :: a, r => by simp [flatR, flatR_snoc a r]
theorem flatsR_snoc : ∀ (a : List (List Rw)) (r : List Rw), flatsR (a ++ [r]) = flatsR a ++ flatR r
  | [], r => by simp [flatsR]
  | x :: a, r => by simp [flatsR, flatsR_snoc a r]
mutual
theorem rwFlat_len : ∀ r : Rw, r.flat.length = r.size
  | .again a => by
    simp only [Rw.flat, Rw.size, List.length_cons]
    rw [flatR_len a]; omega
  | .either a b => by
    simp only [Rw.flat, Rw.size, List.length_cons, List.length_append]
    rw [flatR_len a, flatR_len b]; omega
  | .make _ _ | .copy _ _ | .take _ _ _ | .put _ _ _ | .call _ _ _ _ _ | .say _ | .bring _ => by simp [Rw.flat, Rw.size]
theorem flatR_len : ∀ rs : List Rw, (flatR rs).length = rwsN rs
  | [] => by simp [flatR, rwsN]
  | r :: rs => by
    simp only [flatR, rwsN, List.length_append]
    rw [rwFlat_len r, flatR_len rs]
end
theorem rwsD_get : ∀ {rs : List Rw} {r : Rw}, r ∈ rs → r.dp ≤ rwsD rs
  | [], r, h => by cases h
  | x :: rs, r, h => by
    unfold rwsD
    rcases List.mem_cons.mp h with c | c
    · rw [c]; omega
    · have := rwsD_get c; omega
theorem inner_dp {r : Rw} {a : List Rw} (h : a ∈ r.inner) : rwsD a + 1 ≤ r.dp := by
  cases r <;> simp [Rw.inner] at h
  · subst h; unfold Rw.dp; omega
  · rcases h with c | c <;> subst c <;> unfold Rw.dp <;> omega
theorem rwsP_map : ∀ rs : List Rw, rwsP rs = rs.map Rw.toP
  | [] => by simp [rwsP]
  | r :: rs => by simp [rwsP, rwsP_map rs]
theorem rwsN_take_le : ∀ (rs : List Rw) (j : Nat), rwsN (rs.take j) ≤ rwsN rs
  | [], j => by simp
  | r :: rs, 0 => by simp [rwsN]
  | r :: rs, j + 1 => by
    have := rwsN_take_le rs j
    simp only [List.take_succ_cons, rwsN]; omega
theorem rwsD_le {w : Wd} : ∀ {n : Nat} {rs : List Rw}, (∀ r ∈ rs, RwOk w n r) → rwsD rs ≤ n := by
  intro n
  induction n with
  | zero =>
    intro rs h
    induction rs with
    | nil => simp [rwsD]
    | cons r rs ih =>
      unfold rwsD
      have h1 := ih fun x hx => h x (List.mem_cons_of_mem _ hx)
      have h2 := h r List.mem_cons_self
      cases h2 <;> simp only [Rw.dp] <;> omega
  | succ n ihn =>
    intro rs h
    induction rs with
    | nil => simp [rwsD]
    | cons r rs ih =>
      unfold rwsD
      have h1 := ih fun x hx => h x (List.mem_cons_of_mem _ hx)
      have h2 := h r List.mem_cons_self
      cases h2 with
      | again _ k => have := ihn k; simp only [Rw.dp]; omega
      | either _ _ k1 k2 => have := ihn k1; have := ihn k2; simp only [Rw.dp]; omega
      | _ => simp only [Rw.dp]; omega
/-- the bodies: main's as a deed without a name -/
def mainD (p : Pg) : Dd := ⟨Str.ofString "", [], p.main, none⟩
def bodsD (p : Pg) : List ((Str × Str) × Dd) := ((Str.ofString "", Str.ofString ""), mainD p) :: p.kinds.flatMap fun k => k.deeds.map fun x => ((k.nm, x.nm), x)
def bdP (b : Str × Str) : P := .tuple [.str b.1, .str b.2]
def rowsAt (p : Pg) : List ((Str × Str) × Rw) := (bodsD p).flatMap fun b => (flatR b.2.rows).map fun r => (b.1, r)
def numP (x : ((Str × Str) × Rw) × Nat) : P := .tuple [.int x.2, bdP x.1.1, x.1.2.toP]
def trOf (p : Pg) : List (Str × Option Str) := p.kinds.map fun k => (k.nm, k.up)
structure PgV (p : Pg) : Prop where
  nd : (p.kinds.map Kd.nm).Nodup
  ne : ∀ k ∈ p.kinds, k.nm ≠ Str.ofString ""
  dnd : ∀ k ∈ p.kinds, (k.deeds.map Dd.nm).Nodup
  kl : p.kinds.length ≤ 12
  dl : ∀ k ∈ p.kinds, k.deeds.length ≤ 6
  dp : ∀ b ∈ bodsD p, rwsD b.2.rows ≤ 4
  bl : (bodsD p).length ≤ 100
  rl : (rowsAt p).length ≤ 1000
  al : ∀ x ∈ rowsAt p, ∀ a b c d args, x.2 = .call a b c d args → args.length ≤ 4
  tree : ∃ late, TreeP (trOf p) late
theorem flat_rows {w : Wd} : ∀ {n : Nat} {rs : List Rw}, (∀ r ∈ rs, RwOk w n r) → ∀ r ∈ flatR rs, ∃ m, RwOk w m r := by
  intro n
  induction n with
  | zero =>
    intro rs h
    induction rs with
    | nil => intro r hr; simp [flatR] at hr
    | cons x rs ih =>
      intro r hr
      unfold flatR at hr
      rcases List.mem_append.mp hr with c | c
      · have h2 := h x List.mem_cons_self
        cases h2 <;> (simp [Rw.flat] at c; subst c; exact ⟨0, h _ List.mem_cons_self⟩)
      · exact ih (fun y hy => h y (List.mem_cons_of_mem _ hy)) r c
  | succ n ihn =>
    intro rs h
    induction rs with
    | nil => intro r hr; simp [flatR] at hr
    | cons x rs ih =>
      intro r hr
      unfold flatR at hr
      rcases List.mem_append.mp hr with c | c
      · have h2 := h x List.mem_cons_self
        rw [flat_eq] at c
        rcases List.mem_cons.mp c with c | c
        · exact ⟨n + 1, by rw [c]; exact h2⟩
        · cases h2 with
          | again _ k => simp [Rw.inner, flatsR] at c; exact ihn k r c
          | either _ _ k1 k2 =>
            simp [Rw.inner, flatsR] at c
            rcases c with c | c
            · exact ihn k1 r c
            · exact ihn k2 r c
          | _ => simp [Rw.inner, flatsR] at c
      · exact ih (fun y hy => h y (List.mem_cons_of_mem _ hy)) r c
theorem RwOk.args {w : Wd} {n : Nat} {a b c d : Str} {args : List Str} (hW : WdOk w) (h : RwOk w n (.call a b c d args)) : args.length ≤ 4 := by
  cases h with
  | call h1 h2 h3 h4 h5 h6 h7 h8 h9 h10 h11 =>
    obtain ⟨r2, l2, k1, k2, k3, k4⟩ := hW.want _ h3 _ h4
    rw [h8] at k1
    cases k1
    rw [h9] at k2
    have e := strs_inj (PyData.list.inj (Option.some.inj k2))
    rw [h10, e]
    exact k3
theorem IsW.ne {x : Str} (h : IsW x) : x ≠ Str.ofString "" := fun c => by
  have := h.pos
  rw [c] at this
  exact absurd this (by decide)
theorem flatMap_len {α β : Type} (f : α → List β) (n : Nat) : ∀ l : List α, (∀ x ∈ l, (f x).length ≤ n) → (l.flatMap f).length ≤ n * l.length
  | [], _ => by simp
  | a :: l, h => by
    rw [List.flatMap_cons, List.length_append, List.length_cons]
    have h1 := h a List.mem_cons_self
    have h2 := flatMap_len f n l fun x hx => h x (List.mem_cons_of_mem _ hx)
    rw [Nat.mul_succ]; omega
theorem deeds_len : ∀ l : List Dd, (l.flatMap fun x => flatR x.rows).length = ddsN l
  | [] => rfl
  | x :: l => by
    rw [List.flatMap_cons, List.length_append, deeds_len l, flatR_len]; rfl
theorem flatMap_sum {α β : Type} (f : α → List β) (g : α → Nat) (h : ∀ x, (f x).length = g x) : ∀ l : List α, (l.flatMap f).length = sumL (l.map g)
  | [] => rfl
  | a :: l => by
    rw [List.flatMap_cons, List.length_append, flatMap_sum f g h l, h]; rfl
theorem rowsAt_eq (p : Pg) : rowsAt p = (flatR p.main).map (fun r => ((Str.ofString "", Str.ofString ""), r)) ++ p.kinds.flatMap fun k => k.deeds.flatMap fun x => (flatR x.rows).map fun r => ((k.nm, x.nm), r) := by
  unfold rowsAt bodsD
  rw [List.flatMap_cons, List.flatMap_assoc]
  congr 1
  congr 1
  funext k
  rw [List.flatMap_map]
theorem rowsAt_len (p : Pg) : (rowsAt p).length = rwsN p.main + sumL (p.kinds.map fun k => ddsN k.deeds) := by
  rw [rowsAt_eq, List.length_append, List.length_map, flatR_len]
  congr 1
  refine flatMap_sum _ _ (fun k => ?_) _
  rw [← deeds_len, List.length_flatMap, List.length_flatMap]
  congr 1
  exact List.map_congr_left fun x _ => List.length_map _
theorem PgOk.v {w : Wd} {p : Pg} {most : Nat} (hW : WdOk w) (h : PgOk w p most) (hm : most ≤ 1000) : PgV p := by
  have hnm : p.kinds.map Kd.nm = nmsT w.tr := by rw [← h.kinds]; unfold nmsT; rw [List.map_map]; rfl
  have hkl : p.kinds.length ≤ 12 := by
    have := congrArg List.length h.kinds
    rw [List.length_map] at this
    have := hW.len
    omega
  have hdl : ∀ k ∈ p.kinds, k.deeds.length ≤ 6 := fun k hk => by
    have h1 := (h.dord k hk).length_le
    have h2 := hW.dlen
    rw [List.length_map] at h1
    omega
  refine ⟨by rw [hnm]; exact hW.tree.nd, fun k hk => ?_, fun k hk => (h.dord k hk).nodup hW.dnd, hkl, hdl, fun b hb => ?_, ?_, ?_, fun x hx a b c d args e => ?_, ⟨w.late, by unfold trOf; rw [h.kinds]; exact hW.tree⟩⟩
  · have h1 : (k.nm, k.up) ∈ w.tr := by rw [← h.kinds]; exact List.mem_map.mpr ⟨k, hk, rfl⟩
    exact (hW.tree.w _ h1).ne
  · unfold bodsD at hb
    rcases List.mem_cons.mp hb with c | c
    · subst c
      obtain ⟨n, hn, h1⟩ := h.main
      have := rwsD_le h1
      show rwsD p.main ≤ 4
      omega
    · obtain ⟨k, hk, c⟩ := List.mem_flatMap.mp c
      obtain ⟨x, hx, rfl⟩ := List.mem_map.mp c
      obtain ⟨n, hn, h1⟩ := (h.dok k hk x hx).rows
      have := rwsD_le h1
      show rwsD x.rows ≤ 4
      omega
  · unfold bodsD
    rw [List.length_cons]
    have := flatMap_len (fun k : Kd => k.deeds.map fun x => ((k.nm, x.nm), x)) 6 p.kinds fun k hk => by rw [List.length_map]; exact hdl k hk
    omega
  · rw [rowsAt_len]
    have := h.tot
    omega
  · unfold rowsAt at hx
    obtain ⟨bd, hbd, hx⟩ := List.mem_flatMap.mp hx
    obtain ⟨r, hr, rfl⟩ := List.mem_map.mp hx
    simp only at e
    unfold bodsD at hbd
    rcases List.mem_cons.mp hbd with q | q
    · subst q
      obtain ⟨n, _, h1⟩ := h.main
      obtain ⟨m, h2⟩ := flat_rows h1 r hr
      rw [e] at h2
      exact h2.args (hW.ow false)
    · obtain ⟨k, hk, q⟩ := List.mem_flatMap.mp q
      obtain ⟨y, hy, rfl⟩ := List.mem_map.mp q
      obtain ⟨n, _, h1⟩ := (h.dok k hk y hy).rows
      obtain ⟨m, h2⟩ := flat_rows h1 r hr
      rw [e] at h2
      exact h2.args hW
theorem bod_rl {p : Pg} (h : PgV p) {b : (Str × Str) × Dd} (hb : b ∈ bodsD p) : (flatR b.2.rows).length ≤ 1000 := by
  have h1 := h.rl
  obtain ⟨i, hi⟩ := List.mem_iff_getElem?.mp hb
  have : ∀ (l : List ((Str × Str) × Dd)) (i : Nat), l[i]? = some b → (flatR b.2.rows).length ≤ (l.flatMap fun b => (flatR b.2.rows).map fun r => (b.1, r)).length := fun l => by
    induction l with
    | nil => intro i h; simp at h
    | cons a l ih =>
      intro i h
      rw [List.flatMap_cons, List.length_append]
      cases i with
      | zero => simp at h; subst h; rw [List.length_map]; omega
      | succ i => have := ih i (by simpa using h); omega
  have := this _ i hi
  unfold rowsAt at h1
  omega
theorem we_gT {T : Tab} {C : FnC} {ms : List M} {c : Nat} {p : P} {ρ : Env} {Q : M → Env → Prop} (hc : (T.gs[c]?).map (·.2) = some p) (h : Q (.v p) ρ) : WE (cxt T C ms) (.g c) ρ Q := we_g hc h
theorem subTT {l : List P} {r : Int} {c : P} (h0 : 0 ≤ r) (h : l[r.toNat]? = some c) : subM (.v (.tuple l)) (.v (.int r)) = some (.v c) := subL h0 h
theorem sub_hd {p : P} {ps : List P} : subM (.v (.tuple (p :: ps))) (.v (.int 0)) = some (.v p) := subTT (Int.le_refl 0) rfl
theorem eq_str (a b : Str) : cmpM .eq (.v (.str a)) (.v (.str b)) = some (.v (.bool (decide (a = b)))) := by
  have h : cmpM .eq (.v (.str a)) (.v (.str b)) = (eqP (.str a) (.str b)).map fun c => M.v (.bool c) := rfl
  rw [h]
  unfold eqP
  rw [if_pos ⟨by unfold PyData.depth; omega, by unfold PyData.depth; omega, rfl, rfl⟩, eqv_str]; rfl
theorem eq_bd (a b : Str × Str) : cmpM .eq (.v (bdP a)) (.v (bdP b)) = some (.v (.bool (decide (a = b)))) := by
  have h : cmpM .eq (.v (bdP a)) (.v (bdP b)) = (eqP (bdP a) (bdP b)).map fun c => M.v (.bool c) := rfl
  rw [h]
  unfold eqP bdP
  rw [if_pos ⟨by simp [PyData.depth, PyData.depthAll], by simp [PyData.depth, PyData.depthAll], rfl, rfl⟩]
  show some (M.v (.bool _)) = _
  congr 3
  unfold PyData.eqv PyData.eqvAll PyData.eqvAll PyData.eqvAll
  rw [eqv_str, eqv_str]
  obtain ⟨a1, a2⟩ := a
  obtain ⟨b1, b2⟩ := b
  by_cases h1 : a1 = b1 <;> by_cases h2 : a2 = b2 <;> simp [h1, h2]
def SpKR (C : FnC) (i : Nat) : Prop := ∀ (p : Pg) (k : Kd), (p.kinds.map Kd.nm).Nodup → k ∈ p.kinds → C i [.v p.toP, .v (.str k.nm)] = some (.v k.toP, [.v p.toP, .v (.str k.nm)])
theorem kind_row_ok (ix : Ip) (T : Tab) (C : FnC) (p : Pg) (k : Kd) (hnd : (p.kinds.map Kd.nm).Nodup) (hk : k ∈ p.kinds) : runF T C (F_kind_row ix) [.v p.toP, .v (.str k.nm)] = some (.v k.toP, [.v p.toP, .v (.str k.nm)]) := by
  obtain ⟨i, hi⟩ := List.mem_iff_getElem?.mp hk
  have hil := (List.getElem?_eq_some_iff.mp hi).1
  have key : ∃ r ms, runF T C (F_kind_row ix) [.v p.toP, .v (.str k.nm)] = some (r, ms) ∧ r = .v k.toP ∧ ms = [.v p.toP, .v (.str k.nm)] := by
    apply run_of rfl
    unfold F_kind_row
    show WSS _ _ [some _, some _, none] _ _
    dsimp only
    (try walk_at "mn"); repeat walk_at "mS"
    refine ws_fr (fun j ρ => ∃ (o : Option M), ρ = [some (.v p.toP), some (.v (.str k.nm)), o] ∧ isLk o = false ∧ j ≤ i) rfl ?_
    refine wi_of ?_
    (try walk_at "mn"); repeat walk_at "mS"
    refine ⟨⟨_, rfl, rfl, by omega⟩, fun j q ρ2 hp hI => ?_, fun ρ2 hI => ?_⟩
    · obtain ⟨o, rfl, u, hj⟩ := hI
      rw [List.getElem?_map] at hp
      obtain ⟨k2, hk2, rfl⟩ := Option.map_eq_some_iff.mp hp
      refine ⟨_, sto_go u rfl (Nat.le_of_ble_eq_true rfl), ?_⟩
      (try walk_at "mn"); repeat walk_at "mS"
      rw [eqv_str]
      refine ⟨fun he => ?_, fun he => ?_⟩
      · have he' : k2.nm = k.nm := of_decide_eq_true he
        (try walk_at "mn"); repeat walk_at "mS"
        have e1 : (p.kinds.map Kd.nm)[j]? = some k.nm := by rw [List.getElem?_map, hk2]; exact congrArg some he'
        have e2 : (p.kinds.map Kd.nm)[i]? = some k.nm := by rw [List.getElem?_map, hi]; rfl
        have hij := (List.getElem?_inj (by rw [List.length_map]; exact (List.getElem?_eq_some_iff.mp hk2).1) hnd).mp (e1.trans e2.symm)
        subst hij
        rw [hi] at hk2
        cases hk2
        exact ⟨rfl, rfl⟩
      · have he' : ¬ k2.nm = k.nm := of_decide_eq_false he
        (try walk_at "mn"); repeat walk_at "mS"
        refine ⟨rfl, ?_⟩
        by_cases hij : j = i
        · subst hij
          rw [hi] at hk2
          cases hk2
          exact absurd rfl he'
        · omega
    · rw [List.length_map] at hI
      obtain ⟨o, rfl, u, hj⟩ := hI
      omega
  obtain ⟨r, ms, e, rfl, rfl⟩ := key
  exact e
def SpDR (C : FnC) (i : Nat) : Prop := ∀ (p : Pg) (k : Kd) (x : Dd), PgV p → k ∈ p.kinds → x ∈ k.deeds → C i [.v p.toP, .v (.str k.nm), .v (.str x.nm)] = some (.v x.toP, [.v p.toP, .v (.str k.nm), .v (.str x.nm)])
theorem deed_row_ok (ix : Ip) (T : Tab) (C : FnC) (hK : SpKR C ix.kind_row) (p : Pg) (k : Kd) (x : Dd) (hv : PgV p) (hk : k ∈ p.kinds) (hx : x ∈ k.deeds) : runF T C (F_deed_row ix) [.v p.toP, .v (.str k.nm), .v (.str x.nm)] = some (.v x.toP, [.v p.toP, .v (.str k.nm), .v (.str x.nm)]) := by
  obtain ⟨i, hi⟩ := List.mem_iff_getElem?.mp hx
  have hil := (List.getElem?_eq_some_iff.mp hi).1
  have hnd := hv.dnd k hk
  have key : ∃ r ms, runF T C (F_deed_row ix) [.v p.toP, .v (.str k.nm), .v (.str x.nm)] = some (r, ms) ∧ r = .v x.toP ∧ ms = [.v p.toP, .v (.str k.nm), .v (.str x.nm)] := by
    apply run_of rfl
    unfold F_deed_row
    show WSS _ _ [some _, some _, some _, none] _ _
    dsimp only
    (try walk_at "mn"); repeat walk_at "mS"
    refine ws_fr (fun j ρ => ∃ (o : Option M), ρ = [some (.v p.toP), some (.v (.str k.nm)), some (.v (.str x.nm)), o] ∧ isLk o = false ∧ j ≤ i) rfl ?_
    refine wi_of ?_
    (try walk_at "mn"); repeat walk_at "mS"
    refine ⟨_, _, hK p k hv.nd hk, ?_⟩
    (try walk_at "mn"); repeat walk_at "mS"
    refine ⟨⟨_, rfl, rfl, by omega⟩, fun j q ρ2 hp hI => ?_, fun ρ2 hI => ?_⟩
    · obtain ⟨o, rfl, u, hj⟩ := hI
      rw [List.getElem?_map] at hp
      obtain ⟨k2, hk2, rfl⟩ := Option.map_eq_some_iff.mp hp
      refine ⟨_, sto_go u rfl (Nat.le_of_ble_eq_true rfl), ?_⟩
      (try walk_at "mn"); repeat walk_at "mS"
      rw [eqv_str]
      refine ⟨fun he => ?_, fun he => ?_⟩
      · have he' : k2.nm = x.nm := of_decide_eq_true he
        (try walk_at "mn"); repeat walk_at "mS"
        have e1 : (k.deeds.map Dd.nm)[j]? = some x.nm := by rw [List.getElem?_map, hk2]; exact congrArg some he'
        have e2 : (k.deeds.map Dd.nm)[i]? = some x.nm := by rw [List.getElem?_map, hi]; rfl
        have hij := (List.getElem?_inj (by rw [List.length_map]; exact (List.getElem?_eq_some_iff.mp hk2).1) hnd).mp (e1.trans e2.symm)
        subst hij
        rw [hi] at hk2
        cases hk2
        exact ⟨rfl, rfl⟩
      · have he' : ¬ k2.nm = x.nm := of_decide_eq_false he
        (try walk_at "mn"); repeat walk_at "mS"
        refine ⟨rfl, ?_⟩
        by_cases hij : j = i
        · subst hij
          rw [hi] at hk2
          cases hk2
          exact absurd rfl he'
        · omega
    · rw [List.length_map] at hI
      obtain ⟨o, rfl, u, hj⟩ := hI
      omega
  obtain ⟨r, ms, e, rfl, rfl⟩ := key
  exact e
def SpIn (C : FnC) (i : Nat) : Prop := ∀ r : Rw, C i [.v r.toP] = some (.l (r.inner.map fun a => .tuple (rwsP a)), [.v r.toP])
theorem inner_ok (ix : Ip) (T : Tab) (C : FnC) (r : Rw) : runF T C (F_inner_rows ix) [.v r.toP] = some (.l (r.inner.map fun a => .tuple (rwsP a)), [.v r.toP]) := by
  have key : ∃ x ms, runF T C (F_inner_rows ix) [.v r.toP] = some (x, ms) ∧ x = .l (r.inner.map fun a => .tuple (rwsP a)) ∧ ms = [.v r.toP] := by
    by_cases h1 : r.hd = Str.ofString "either"
    · obtain ⟨a, b, rfl⟩ : ∃ a b, r = .either a b := by cases r <;> first | exact ⟨_, _, rfl⟩ | (simp only [Rw.hd] at h1; exact absurd h1 (by decide))
      apply run_of rfl
      unfold F_inner_rows
      show WSS _ _ [some _] _ _
      dsimp only
      (try walk_at "mn"); repeat walk_at "mS"
      rw [eqv_str]
      refine ⟨fun _ => ?_, fun h => absurd rfl (of_decide_eq_false h)⟩
      (try walk_at "mn"); repeat walk_at "mS"
      exact ⟨rfl, rfl⟩
    · by_cases h2 : r.hd = Str.ofString "again"
      · obtain ⟨a, rfl⟩ : ∃ a, r = .again a := by cases r <;> first | exact ⟨_, rfl⟩ | (simp only [Rw.hd] at h2; exact absurd h2 (by decide))
        apply run_of rfl
        unfold F_inner_rows
        show WSS _ _ [some _] _ _
        dsimp only
        (try walk_at "mn"); repeat walk_at "mS"
        rw [eqv_str]
        refine ⟨fun h => absurd (of_decide_eq_true h) h1, fun _ => ?_⟩
        (try walk_at "mn"); repeat walk_at "mS"
        rw [eqv_str]
        refine ⟨fun _ => ?_, fun h => absurd rfl (of_decide_eq_false h)⟩
        (try walk_at "mn"); repeat walk_at "mS"
        exact ⟨rfl, rfl⟩
      · have hin : r.inner = [] := by cases r <;> first | rfl | exact absurd rfl h1 | exact absurd rfl h2
        rw [hin, Rw.ht]
        apply run_of rfl
        unfold F_inner_rows
        show WSS _ _ [some _] _ _
        dsimp only
        (try walk_at "mn"); repeat walk_at "mS"
        refine lf_sub rfl sub_hd ?_
        (try walk_at "mn"); repeat walk_at "mS"
        rw [eqv_str]
        refine ⟨fun h => absurd (of_decide_eq_true h) h1, fun _ => ?_⟩
        (try walk_at "mn"); repeat walk_at "mS"
        refine lf_sub rfl sub_hd ?_
        (try walk_at "mn"); repeat walk_at "mS"
        rw [eqv_str]
        refine ⟨fun h => absurd (of_decide_eq_true h) h2, fun _ => ?_⟩
        (try walk_at "mn"); repeat walk_at "mS"
        exact ⟨rfl, rfl⟩
  obtain ⟨x, ms, e, rfl, rfl⟩ := key
  exact e
end Mn
open PySem
namespace Mn
def SpFl (C : FnC) (i n : Nat) : Prop := ∀ rs : List Rw, rwsD rs ≤ n → (flatR rs).length ≤ 1000 → C i [.v (.tuple (rwsP rs))] = some (.l ((flatR rs).map Rw.toP), [.v (.tuple (rwsP rs))])
theorem flatR_take_len (rs : List Rw) (j : Nat) : (flatR (rs.take j)).length ≤ (flatR rs).length := by
  rw [flatR_len, flatR_len]
  exact rwsN_take_le rs j
theorem flatR_split {rs : List Rw} {j : Nat} {r : Rw} (h : rs[j]? = some r) : flatR (rs.take (j + 1)) = flatR (rs.take j) ++ r.flat := by
  rw [List.take_succ, h]
  exact flatR_snoc _ r
theorem flatsR_split {as : List (List Rw)} {j : Nat} {a : List Rw} (h : as[j]? = some a) : flatsR (as.take (j + 1)) = flatsR (as.take j) ++ flatR a := by
  rw [List.take_succ, h]
  exact flatsR_snoc _ a
theorem flatsR_take_len : ∀ (as : List (List Rw)) (j : Nat), (flatsR (as.take j)).length ≤ (flatsR as).length
  | [], j => by simp
  | a :: r, 0 => by simp [flatsR]
  | a :: r, j + 1 => by
    have := flatsR_take_len r j
    simp only [List.take_succ_cons, flatsR, List.length_append]; omega
theorem flatR_mem_len : ∀ {as : List (List Rw)} {a : List Rw}, a ∈ as → (flatR a).length ≤ (flatsR as).length
  | [], a, h => by cases h
  | x :: r, a, h => by
    unfold flatsR
    rw [List.length_append]
    rcases List.mem_cons.mp h with c | c
    · rw [c]; omega
    · have := flatR_mem_len c; omega
theorem flat_ok (ix : Ip) (T : Tab) (C : FnC) (hI : SpIn C ix.inner_rows) (n : Nat) (hR : ∀ m, m < n → SpFl C ix.rows_flat m) (rs : List Rw) (hd : rwsD rs ≤ n) (hl : (flatR rs).length ≤ 1000) : runF T C (F_rows_flat ix) [.v (.tuple (rwsP rs))] = some (.l ((flatR rs).map Rw.toP), [.v (.tuple (rwsP rs))]) := by
  have key : ∃ x ms, runF T C (F_rows_flat ix) [.v (.tuple (rwsP rs))] = some (x, ms) ∧ x = .l ((flatR rs).map Rw.toP) ∧ ms = [.v (.tuple (rwsP rs))] := by
    apply run_of rfl
    unfold F_rows_flat
    show WSS _ _ [some _, none, none, none] _ _
    dsimp only
    (try walk_at "mn"); repeat walk_at "mS"
    refine ws_fr (fun j ρ => ∃ (o2 o3 : Option M), ρ = [some (.v (.tuple (rwsP rs))), some (.l ((flatR (rs.take j)).map Rw.toP)), o2, o3] ∧ isLk o2 = false ∧ isLk o3 = false) rfl ?_
    refine wi_lkv rfl rfl ?_
    rw [rwsP_map]
    refine ⟨⟨_, _, rfl, rfl, rfl⟩, fun j q ρ2 hp hJ => ?_, fun ρ2 hJ => ?_⟩
    · obtain ⟨o2, o3, rfl, u2, u3⟩ := hJ
      rw [List.getElem?_map] at hp
      obtain ⟨r, hr, rfl⟩ := Option.map_eq_some_iff.mp hp
      have hrd := rwsD_get (List.mem_of_getElem? hr)
      have hsp := flatR_split hr
      rw [flat_eq] at hsp
      have hle := flatR_take_len rs (j + 1)
      rw [hsp, List.length_append, List.length_cons] at hle
      refine ⟨_, sto_go u2 rfl (Nat.le_of_ble_eq_true rfl), ?_⟩
      (try walk_at "mn"); repeat walk_at "mS"
      refine lf_app rfl rfl (by rw [List.length_map]; show _ < 1000000; omega) ?_
      (try walk_at "mn"); repeat walk_at "mS"
      refine ws_fr (fun i ρ => ∃ (o3 : Option M), ρ = [some (.v (.tuple (rs.map Rw.toP))), some (.l ((flatR (rs.take j) ++ r :: flatsR (r.inner.take i)).map Rw.toP)), some (.v r.toP), o3] ∧ isLk o3 = false) rfl ?_
      refine wi_of ?_
      (try walk_at "mn"); repeat walk_at "mS"
      refine ⟨_, _, hI r, ?_⟩
      (try walk_at "mn"); repeat walk_at "mS"
      refine ⟨⟨_, ?_, u3⟩, fun i q ρ2 hp hJ => ?_, fun ρ2 hJ => ?_⟩
      · simp [flatsR, rwsP_map]
      · obtain ⟨o3, rfl, u3⟩ := hJ
        rw [List.getElem?_map] at hp
        obtain ⟨a, ha, rfl⟩ := Option.map_eq_some_iff.mp hp
        have ham := List.mem_of_getElem? ha
        have had := inner_dp ham
        have hal := flatR_mem_len ham
        have hsa := flatsR_split ha
        have hle2 := flatsR_take_len r.inner (i + 1)
        rw [hsa, List.length_append] at hle2
        refine ⟨_, sto_go u3 rfl (Nat.le_of_ble_eq_true rfl), ?_⟩
        (try walk_at "mn"); repeat walk_at "mS"
        refine ⟨_, _, hR (n - 1) (by omega) a (by omega) (by omega), ?_⟩
        (try walk_at "mn"); repeat walk_at "mS"
        refine ⟨_, _, rfl, rfl, ?_, ?_⟩
        · rw [List.length_map, List.length_map, List.length_append, List.length_cons]; show _ ≤ 1000000; omega
        (try walk_at "mn"); repeat walk_at "mS"
        refine ⟨some (.v (.tuple (rwsP a))), ?_, rfl⟩
        rw [hsa, ← List.map_append, List.append_assoc, List.cons_append]
      · rw [List.length_map, List.take_length] at hJ
        obtain ⟨o3, rfl, u3⟩ := hJ
        (try walk_at "mn"); repeat walk_at "mS"
        refine ⟨some (.v r.toP), o3, ?_, rfl, u3⟩
        rw [hsp]
    · rw [List.length_map, List.take_length] at hJ
      obtain ⟨o2, o3, rfl, u2, u3⟩ := hJ
      (try walk_at "mn"); repeat walk_at "mS"
      exact ⟨rfl, rfl⟩
  obtain ⟨x, ms, e, rfl, rfl⟩ := key
  exact e
def bods (p : Pg) : List (Str × Str) := (bodsD p).map (·.1)
def SpBo (C : FnC) (i : Nat) : Prop := ∀ p : Pg, PgV p → C i [.v p.toP] = some (.l ((bods p).map bdP), [.v p.toP])
theorem bods_eq (p : Pg) : bods p = (Str.ofString "", Str.ofString "") :: p.kinds.flatMap fun k => k.deeds.map fun x => (k.nm, x.nm) := by
  unfold bods bodsD
  rw [List.map_cons, List.map_flatMap]
  congr 2
  funext k
  rw [List.map_map]; rfl
theorem bods_len {p : Pg} (h : PgV p) : (bods p).length ≤ 100 := by
  unfold bods
  rw [List.length_map]
  exact h.bl
theorem flatMap_take_len {α β : Type} (f : α → List β) : ∀ (l : List α) (j : Nat), ((l.take j).flatMap f).length ≤ (l.flatMap f).length
  | [], j => by simp
  | a :: l, 0 => by simp
  | a :: l, j + 1 => by
    have := flatMap_take_len f l j
    rw [List.take_succ_cons, List.flatMap_cons, List.flatMap_cons, List.length_append, List.length_append]; omega
theorem flatMap_split {α β : Type} (f : α → List β) {l : List α} {j : Nat} {a : α} (h : l[j]? = some a) : (l.take (j + 1)).flatMap f = (l.take j).flatMap f ++ f a := by
  rw [List.take_succ, h, List.flatMap_append]
  simp
theorem flatMap_mem_len {α β : Type} (f : α → List β) : ∀ {l : List α} {a : α}, a ∈ l → (f a).length ≤ (l.flatMap f).length
  | [], a, h => by cases h
  | x :: l, a, h => by
    rw [List.flatMap_cons, List.length_append]
    rcases List.mem_cons.mp h with c | c
    · rw [c]; omega
    · have := flatMap_mem_len f c; omega
theorem bodies_ok (ix : Ip) (T : Tab) (C : FnC) (hM : (T.gs[ix.c_MAIN]?).map (·.2) = some mainP) (p : Pg) (hv : PgV p) : runF T C (F_bodies ix) [.v p.toP] = some (.l ((bods p).map bdP), [.v p.toP]) := by
  have hkl := hv.kl
  have key : ∃ x ms, runF T C (F_bodies ix) [.v p.toP] = some (x, ms) ∧ x = .l ((bods p).map bdP) ∧ ms = [.v p.toP] := by
    apply run_of rfl
    unfold F_bodies
    show WSS _ _ [some _, none, none, none, none, none] _ _
    dsimp only
    (try walk_at "mn"); repeat walk_at "mS"
    refine we_gT hM ?_
    (try walk_at "mn"); repeat walk_at "mS"
    refine ws_fr (fun j ρ => ∃ (o2 o3 o4 : Option M), ρ = [some (.v p.toP), some (.l (((Str.ofString "", Str.ofString "") :: (p.kinds.take j).flatMap fun k => k.deeds.map fun x => (k.nm, x.nm)).map bdP)), o2, o3, o4, none] ∧ isLk o2 = false ∧ isLk o3 = false ∧ isLk o4 = false) rfl ?_
    refine wi_of ?_
    (try walk_at "mn"); repeat walk_at "mS"
    refine ⟨⟨_, _, _, rfl, rfl, rfl, rfl⟩, fun j q ρ2 hp hJ => ?_, fun ρ2 hJ => ?_⟩
    · obtain ⟨o2, o3, o4, rfl, u2, u3, u4⟩ := hJ
      rw [List.getElem?_map] at hp
      obtain ⟨k, hk, rfl⟩ := Option.map_eq_some_iff.mp hp
      have hdl := hv.dl k (List.mem_of_getElem? hk)
      have hb := bods_len hv
      rw [bods_eq, List.length_cons] at hb
      have hsp := flatMap_split (fun k : Kd => k.deeds.map fun x => (k.nm, x.nm)) hk
      have hle := flatMap_take_len (fun k : Kd => k.deeds.map fun x => (k.nm, x.nm)) p.kinds (j + 1)
      rw [hsp, List.length_append, List.length_map] at hle
      refine ⟨_, bindT3 u2 rfl (Nat.le_of_ble_eq_true rfl) u3 rfl (Nat.le_of_ble_eq_true rfl) u4 rfl (Nat.le_of_ble_eq_true rfl), ?_⟩
      (try walk_at "mn"); repeat walk_at "mS"
      refine we_comp (fun i ρ acc => ∃ (o5 : Option M), ρ = [some (.v p.toP), some (.l (((Str.ofString "", Str.ofString "") :: (p.kinds.take j).flatMap fun k => k.deeds.map fun x => (k.nm, x.nm)).map bdP)), some (.v (.str k.nm)), some (.v (optP k.up)), some (.v (.tuple (k.deeds.map Dd.toP))), o5] ∧ acc = (k.deeds.take i).map fun x => bdP (k.nm, x.nm)) rfl ?_
      refine wi_lkv rfl rfl ?_
      refine ⟨rfl, ⟨_, rfl, rfl⟩, fun i q ρ2 acc hp hJ => ?_, fun ρ2 qs hJ => ?_⟩
      · obtain ⟨o5, rfl, rfl⟩ := hJ
        rw [List.getElem?_map] at hp
        obtain ⟨x, hx, rfl⟩ := Option.map_eq_some_iff.mp hp
        dsimp only [wipeE, List.set]
        refine lf_ex1 (sto_go rfl rfl (Nat.le_of_ble_eq_true rfl)) ?_
        (try walk_at "mn"); repeat walk_at "mS"
        refine ⟨by rw [List.length_map, List.length_take]; show _ < 1000000; omega, _, rfl, ?_⟩
        rw [List.take_succ, hx, List.map_append]; rfl
      · rw [List.length_map, List.take_length] at hJ
        obtain ⟨o5, rfl, rfl⟩ := hJ
        (try walk_at "mo")
        (try walk_at "mn"); repeat walk_at "mS"
        refine ⟨_, _, rfl, rfl, ?_, ?_⟩
        · rw [List.length_map, List.length_map, List.length_cons]; show _ ≤ 1000000; omega
        (try walk_at "mn"); repeat walk_at "mS"
        refine ⟨some (.v (.str k.nm)), some (.v (optP k.up)), some (.v (.tuple (k.deeds.map Dd.toP))), ?_, rfl, rfl, rfl⟩
        rw [hsp, List.map_cons, List.map_cons, List.map_append, List.map_map]
        rfl
    · rw [List.length_map, List.take_length] at hJ
      obtain ⟨o2, o3, o4, rfl, u2, u3, u4⟩ := hJ
      (try walk_at "mn"); repeat walk_at "mS"
      rw [← bods_eq]
      exact ⟨rfl, rfl⟩
  obtain ⟨x, ms, e, rfl, rfl⟩ := key
  exact e
def SpBR (C : FnC) (i : Nat) : Prop := ∀ (p : Pg) (b : (Str × Str) × Dd), PgV p → b ∈ bodsD p → C i [.v p.toP, .v (bdP b.1)] = some (.v b.2.toP, [.v p.toP, .v (bdP b.1)])
theorem body_row_ok (ix : Ip) (T : Tab) (C : FnC) (hM : (T.gs[ix.c_MAIN]?).map (·.2) = some mainP) (hD : SpDR C ix.deed_row) (p : Pg) (b : (Str × Str) × Dd) (hv : PgV p) (hb : b ∈ bodsD p) : runF T C (F_body_row ix) [.v p.toP, .v (bdP b.1)] = some (.v b.2.toP, [.v p.toP, .v (bdP b.1)]) := by
  have key : ∃ x ms, runF T C (F_body_row ix) [.v p.toP, .v (bdP b.1)] = some (x, ms) ∧ x = .v b.2.toP ∧ ms = [.v p.toP, .v (bdP b.1)] := by
    unfold bodsD at hb
    rcases List.mem_cons.mp hb with c | c
    · subst c
      apply run_of rfl
      unfold F_body_row
      show WSS _ _ [some _, some _] _ _
      dsimp only
      (try walk_at "mn"); repeat walk_at "mN"
      refine we_gT hM ?_
      refine lf_cmp rfl rfl (eq_bd (Str.ofString "", Str.ofString "") (Str.ofString "", Str.ofString "")) ?_
      (try walk_at "mn"); repeat walk_at "mS"
      refine ⟨fun _ => ?_, fun h => absurd rfl (of_decide_eq_false h)⟩
      (try walk_at "mn"); repeat walk_at "mS"
      exact ⟨rfl, rfl⟩
    · obtain ⟨k, hk, c⟩ := List.mem_flatMap.mp c
      obtain ⟨x, hx, rfl⟩ := List.mem_map.mp c
      apply run_of rfl
      unfold F_body_row
      show WSS _ _ [some _, some _] _ _
      dsimp only
      (try walk_at "mn"); repeat walk_at "mN"
      refine we_gT hM ?_
      refine lf_cmp rfl rfl (eq_bd (k.nm, x.nm) (Str.ofString "", Str.ofString "")) ?_
      (try walk_at "mn"); repeat walk_at "mS"
      refine ⟨fun h => absurd (congrArg Prod.fst (of_decide_eq_true h)) (hv.ne k hk), fun _ => ?_⟩
      (try walk_at "mn"); repeat walk_at "mS"
      refine ⟨_, _, hD p k x hv hk hx, ?_⟩
      (try walk_at "mn"); repeat walk_at "mS"
      exact ⟨rfl, rfl⟩
  obtain ⟨x, ms, e, rfl, rfl⟩ := key
  exact e
def SpAR (C : FnC) (i : Nat) : Prop := ∀ p : Pg, PgV p → C i [.v p.toP] = some (.l ((rowsAt p).zipIdx.map numP), [.v p.toP])
def brP (x : (Str × Str) × Rw) : P := .tuple [bdP x.1, x.2.toP]
theorem all_rows_ok (ix : Ip) (T : Tab) (C : FnC) (hB : SpBo C ix.bodies) (hBR : SpBR C ix.body_row) (hF : ∀ n, n ≤ 4 → SpFl C ix.rows_flat n) (p : Pg) (hv : PgV p) : runF T C (F_all_rows ix) [.v p.toP] = some (.l ((rowsAt p).zipIdx.map numP), [.v p.toP]) := by
  have hrl := hv.rl
  have key : ∃ x ms, runF T C (F_all_rows ix) [.v p.toP] = some (x, ms) ∧ x = .l ((rowsAt p).zipIdx.map numP) ∧ ms = [.v p.toP] := by
    apply run_of rfl
    unfold F_all_rows
    show WSS _ _ [some _, none, none, none, none] _ _
    dsimp only
    (try walk_at "mn"); repeat walk_at "mS"
    refine ws_fr (fun j ρ => ∃ (o2 : Option M), ρ = [some (.v p.toP), some (.l ((((bodsD p).take j).flatMap fun b => (flatR b.2.rows).map fun r => (b.1, r)).map brP)), o2, none, none] ∧ (o2 = none ∨ ∃ q, o2 = some (.v q))) rfl ?_
    refine wi_of ?_
    (try walk_at "mn"); repeat walk_at "mS"
    refine ⟨_, _, hB p hv, ?_⟩
    (try walk_at "mn"); repeat walk_at "mS"
    refine ⟨⟨_, rfl, Or.inl rfl⟩, fun j q ρ2 hp hJ => ?_, fun ρ2 hJ => ?_⟩
    · obtain ⟨o2, rfl, u2⟩ := hJ
      have u2 : isLk o2 = false := by rcases u2 with rfl | ⟨q, rfl⟩ <;> rfl
      unfold bods at hp
      rw [List.map_map, List.getElem?_map] at hp
      obtain ⟨b, hb, rfl⟩ := Option.map_eq_some_iff.mp hp
      have hbm := List.mem_of_getElem? hb
      have hbl := bod_rl hv hbm
      have hsp := flatMap_split (fun b : (Str × Str) × Dd => (flatR b.2.rows).map fun r => (b.1, r)) hb
      have hle := flatMap_take_len (fun b : (Str × Str) × Dd => (flatR b.2.rows).map fun r => (b.1, r)) (bodsD p) (j + 1)
      rw [hsp, List.length_append, List.length_map] at hle
      have hle2 : (((bodsD p).take j).flatMap fun b => (flatR b.2.rows).map fun r => (b.1, r)).length + (flatR b.2.rows).length ≤ 1000 := Nat.le_trans hle hrl
      refine ⟨_, sto_go u2 rfl (Nat.le_of_ble_eq_true rfl), ?_⟩
      (try walk_at "mn"); repeat walk_at "mS"
      refine we_comp (fun i ρ acc => ∃ (o4 : Option M), ρ = [some (.v p.toP), some (.l ((((bodsD p).take j).flatMap fun b => (flatR b.2.rows).map fun r => (b.1, r)).map brP)), some (.v (bdP b.1)), none, o4] ∧ acc = ((flatR b.2.rows).take i).map fun r => brP (b.1, r)) rfl ?_
      refine wi_of ?_
      (try walk_at "mn"); repeat walk_at "mS"
      refine ⟨_, _, hBR p b hv hbm, ?_⟩
      (try walk_at "mn"); repeat walk_at "mS"
      refine ⟨_, _, hF 4 (Nat.le_refl _) b.2.rows (hv.dp b hbm) hbl, ?_⟩
      (try walk_at "mn"); repeat walk_at "mS"
      refine ⟨rfl, ⟨_, rfl, rfl⟩, fun i q ρ2 acc hp hJ => ?_, fun ρ2 qs hJ => ?_⟩
      · obtain ⟨o4, rfl, rfl⟩ := hJ
        rw [List.getElem?_map] at hp
        obtain ⟨r, hr, rfl⟩ := Option.map_eq_some_iff.mp hp
        dsimp only [wipeE, List.set]
        refine lf_ex1 (sto_go rfl rfl (Nat.le_of_ble_eq_true rfl)) ?_
        (try walk_at "mn"); repeat walk_at "mS"
        refine ⟨by rw [List.length_map, List.length_take]; show _ < 1000000; omega, _, rfl, ?_⟩
        rw [List.take_succ, hr, List.map_append]; rfl
      · rw [List.length_map, List.take_length] at hJ
        obtain ⟨o4, rfl, rfl⟩ := hJ
        (try walk_at "mo")
        (try walk_at "mn"); repeat walk_at "mS"
        refine ⟨_, _, rfl, rfl, ?_, ?_⟩
        · rw [List.length_map, List.length_map]; show _ ≤ 1000000; omega
        (try walk_at "mn"); repeat walk_at "mS"
        refine ⟨some (.v (bdP b.1)), ?_, Or.inr ⟨_, rfl⟩⟩
        rw [hsp, List.map_append, List.map_map]
        rfl
    · unfold bods at hJ
      rw [List.length_map, List.length_map, List.take_length] at hJ
      obtain ⟨o2, rfl, u2⟩ := hJ
      (try walk_at "mn"); repeat walk_at "mS"
      refine we_comp (fun i ρ acc => ∃ (o2 o3 o4 : Option M), ρ = [some (.v p.toP), some (.v (.list ((rowsAt p).map brP))), o2, o3, o4] ∧ acc = ((rowsAt p).zipIdx.take i).map numP) rfl ?_
      refine wi_en ?_
      (try walk_at "mn"); repeat walk_at "mS"
      rw [show ((bodsD p).flatMap fun b => (flatR b.2.rows).map fun r => (b.1, r)) = rowsAt p from rfl]
      refine ⟨by rcases u2 with rfl | ⟨q, rfl⟩ <;> rfl, ⟨_, _, _, rfl, rfl⟩, fun i q ρ2 acc hp hJ => ?_, fun ρ2 qs hJ => ?_⟩
      · obtain ⟨o2', o3, o4, rfl, rfl⟩ := hJ
        have hil : i < (rowsAt p).length := by
          have := (List.getElem?_eq_some_iff.mp hp).1
          rw [enumP_len, List.length_map] at this
          exact this
        obtain ⟨x, hx⟩ : ∃ x, (rowsAt p)[i]? = some x := ⟨_, List.getElem?_eq_getElem hil⟩
        rw [enumP_get (p := brP x) (by rw [List.getElem?_map]; exact congrArg (Option.map brP) hx)] at hp
        cases hp
        dsimp only [wipeE, List.set]
        refine ⟨_, bindT12 rfl rfl (Nat.le_of_ble_eq_true rfl) rfl rfl (Nat.le_of_ble_eq_true rfl) rfl rfl (Nat.le_of_ble_eq_true rfl), ?_⟩
        (try walk_at "mn"); repeat walk_at "mS"
        refine ⟨by rw [List.length_map, List.length_take, List.length_zipIdx]; show _ < 1000000; omega, _, _, _, rfl, ?_⟩
        rw [List.take_succ, List.getElem?_zipIdx, hx, List.map_append]
        simp [numP]
      · rw [enumP_len, List.length_map] at hJ
        obtain ⟨o2', o3, o4, rfl, rfl⟩ := hJ
        (try walk_at "mo")
        (try walk_at "mn"); repeat walk_at "mS"
        refine ⟨?_, rfl⟩
        rw [← List.length_zipIdx (i := 0), List.take_length]
  obtain ⟨x, ms, e, rfl, rfl⟩ := key
  exact e
def callsOf (p : Pg) : List (((Str × Str) × Rw) × Nat) := (rowsAt p).zipIdx.filter fun x => decide (x.1.2.hd = Str.ofString "call")
theorem calls_ok (ix : Ip) (T : Tab) (C : FnC) (hA : SpAR C ix.all_rows) (p : Pg) (hv : PgV p) : runF T C (F_calls ix) [.v p.toP] = some (.v (.tuple ((callsOf p).map numP)), [.v p.toP]) := by
  have hrl := hv.rl
  have key : ∃ x ms, runF T C (F_calls ix) [.v p.toP] = some (x, ms) ∧ x = .v (.tuple ((callsOf p).map numP)) ∧ ms = [.v p.toP] := by
    apply run_of rfl
    unfold F_calls
    show WSS _ _ [some _, none] _ _
    dsimp only
    (try walk_at "mn"); repeat walk_at "mS"
    refine we_comp (fun i ρ acc => ∃ (o1 : Option M), ρ = [some (.v p.toP), o1] ∧ acc = (((rowsAt p).zipIdx.take i).filter fun x => decide (x.1.2.hd = Str.ofString "call")).map numP) rfl ?_
    refine wi_of ?_
    (try walk_at "mn"); repeat walk_at "mS"
    refine ⟨_, _, hA p hv, ?_⟩
    (try walk_at "mn"); repeat walk_at "mS"
    refine ⟨rfl, ⟨_, rfl, rfl⟩, fun i q ρ2 acc hp hJ => ?_, fun ρ2 qs hJ => ?_⟩
    · obtain ⟨o1, rfl, rfl⟩ := hJ
      rw [List.getElem?_map] at hp
      obtain ⟨x, hx, rfl⟩ := Option.map_eq_some_iff.mp hp
      dsimp only [wipeE, List.set]
      refine lf_ex1 (sto_go rfl rfl (Nat.le_of_ble_eq_true rfl)) ?_
      unfold numP
      rw [Rw.ht]
      (try walk_at "mn"); repeat walk_at "mS"
      refine lf_sub rfl sub_hd ?_
      (try walk_at "mn"); repeat walk_at "mS"
      rw [eqv_str]
      have hle : (((rowsAt p).zipIdx.take i).filter fun x => decide (x.1.2.hd = Str.ofString "call")).length ≤ 1000 := by
        have h1 := List.length_filter_le (fun x : ((Str × Str) × Rw) × Nat => decide (x.1.2.hd = Str.ofString "call")) ((rowsAt p).zipIdx.take i)
        rw [List.length_take, List.length_zipIdx] at h1
        omega
      refine ⟨fun hf => ⟨_, rfl, ?_⟩, fun ht => ?_⟩
      · rw [List.take_succ, hx]
        simp [hf]
      · (try walk_at "mn"); repeat walk_at "mS"
        refine ⟨by rw [List.length_map]; show _ < 1000000; omega, _, rfl, ?_⟩
        rw [List.take_succ, hx]
        simp [of_decide_eq_true ht, numP, Rw.ht]
    · rw [List.length_map, List.take_length] at hJ
      obtain ⟨o1, rfl, rfl⟩ := hJ
      (try walk_at "mo")
      (try walk_at "mn"); repeat walk_at "mS"
      exact ⟨rfl, rfl⟩
  obtain ⟨x, ms, e, rfl, rfl⟩ := key
  exact e
end Mn
open PySem
namespace Mn
structure RT (T : Tab) (ix : Ip) : Prop where
  kr : T.fs[ix.kind_row]? = some (F_kind_row ix)
  dr : T.fs[ix.deed_row]? = some (F_deed_row ix)
  inr : T.fs[ix.inner_rows]? = some (F_inner_rows ix)
  rf : T.fs[ix.rows_flat]? = some (F_rows_flat ix)
  bo : T.fs[ix.bodies]? = some (F_bodies ix)
  br : T.fs[ix.body_row]? = some (F_body_row ix)
  ar : T.fs[ix.all_rows]? = some (F_all_rows ix)
  gs : (T.gs[ix.c_MAIN]?).map (·.2) = some mainP
section
variable {T : Tab} {ix : Ip} (g : RT T ix)
include g
theorem r_kr : ∀ K, 1 ≤ K → SpKR (callF T K) ix.kind_row := fun K hK => by
  obtain ⟨K, rfl⟩ : ∃ k, K = k + 1 := ⟨K - 1, by omega⟩
  intro p k h1 h2
  rw [callF_at g.kr]
  exact kind_row_ok ix T _ p k h1 h2
theorem r_dr : ∀ K, 2 ≤ K → SpDR (callF T K) ix.deed_row := fun K hK => by
  obtain ⟨K, rfl⟩ : ∃ k, K = k + 1 := ⟨K - 1, by omega⟩
  intro p k x h1 h2 h3
  rw [callF_at g.dr]
  exact deed_row_ok ix T _ (r_kr g K (by omega)) p k x h1 h2 h3
theorem r_in : ∀ K, 1 ≤ K → SpIn (callF T K) ix.inner_rows := fun K hK => by
  obtain ⟨K, rfl⟩ : ∃ k, K = k + 1 := ⟨K - 1, by omega⟩
  intro r
  rw [callF_at g.inr]
  exact inner_ok ix T _ r
theorem r_fl : ∀ n K, n + 2 ≤ K → SpFl (callF T K) ix.rows_flat n := by
  intro n
  induction n using Nat.strongRecOn with
  | _ n ih =>
    intro K hK
    obtain ⟨K, rfl⟩ : ∃ k, K = k + 1 := ⟨K - 1, by omega⟩
    intro rs h1 h2
    rw [callF_at g.rf]
    exact flat_ok ix T _ (r_in g K (by omega)) n (fun m hm => ih m hm K (by omega)) rs h1 h2
theorem r_bo : ∀ K, 1 ≤ K → SpBo (callF T K) ix.bodies := fun K hK => by
  obtain ⟨K, rfl⟩ : ∃ k, K = k + 1 := ⟨K - 1, by omega⟩
  intro p h1
  rw [callF_at g.bo]
  exact bodies_ok ix T _ g.gs p h1
theorem r_br : ∀ K, 3 ≤ K → SpBR (callF T K) ix.body_row := fun K hK => by
  obtain ⟨K, rfl⟩ : ∃ k, K = k + 1 := ⟨K - 1, by omega⟩
  intro p b h1 h2
  rw [callF_at g.br]
  exact body_row_ok ix T _ g.gs (r_dr g K (by omega)) p b h1 h2
theorem r_ar : ∀ K, 7 ≤ K → SpAR (callF T K) ix.all_rows := fun K hK => by
  obtain ⟨K, rfl⟩ : ∃ k, K = k + 1 := ⟨K - 1, by omega⟩
  intro p h1
  rw [callF_at g.ar]
  exact all_rows_ok ix T _ (r_bo g K (by omega)) (r_br g K (by omega)) (fun n hn => r_fl g n K (by omega)) p h1
theorem r_calls (hc : T.fs[ix.calls]? = some (F_calls ix)) : ∀ K, 8 ≤ K → ∀ p : Pg, PgV p → callF T K ix.calls [.v p.toP] = some (.v (.tuple ((callsOf p).map numP)), [.v p.toP]) := fun K hK p h1 => by
  obtain ⟨K, rfl⟩ : ∃ k, K = k + 1 := ⟨K - 1, by omega⟩
  rw [callF_at hc]
  exact calls_ok ix T _ (r_ar g K (by omega)) p h1
end
end Mn
open PySem
namespace Mn
def F_line_up (ix : Ip) : Fn := ⟨(Str.ofString "line_up"), 2, [(Str.ofString "program"), (Str.ofString "kind"), (Str.ofString "found")], (.cons (.asg (.nm 2) (.lst .nil)) (.cons (.wh (.cmp .notN (.pl 1) .kn) (.cons (.app 2 (.tk 1)) (.cons (.asg (.nm 1) (.sub (.call ix.kind_row (.cons (.pl 0) (.cons (.pl 1) .nil))) (.ki 1))) .nil))) (.cons (.ret (.mv 2)) .nil)))⟩
def F_is_below (ix : Ip) : Fn := ⟨(Str.ofString "is_below"), 3, [(Str.ofString "program"), (Str.ofString "one"), (Str.ofString "other")], (.cons (.ret (.cmp .inn (.pl 2) (.call ix.line_up (.cons (.pl 0) (.cons (.pl 1) .nil))))) .nil)⟩
def F_is_here (ix : Ip) : Fn := ⟨(Str.ofString "is_here"), 2, [(Str.ofString "body"), (Str.ofString "there")], (.cons (.ret (.bor (.cmp .eq (.pl 0) (.g ix.c_MAIN)) (.cmp .inn (.sub (.pl 0) (.ki 0)) (.pl 1)))) .nil)⟩
def F_by_tree (ix : Ip) : Fn := ⟨(Str.ofString "by_tree"), 2, [(Str.ofString "program"), (Str.ofString "there"), (Str.ofString "found"), (Str.ofString "number"), (Str.ofString "body"), (Str.ofString "row"), (Str.ofString "kinds"), (Str.ofString "kind")], (.cons (.asg (.nm 2) (.lst .nil)) (.cons (.fr (.tp [(.nm 3), (.nm 4), (.nm 5)]) (.of (.call ix.calls (.cons (.pl 0) .nil))) (.cons (.asg (.nm 6) (.tup .nil)) (.cons (.ifs (.call ix.is_here (.cons (.pl 4) (.cons (.pl 1) .nil))) (.cons (.asg (.nm 6) (.bi .tup (.cons (.comp [7] (.nm 7) (.lk 1) (.cons (.call ix.is_below (.cons (.pl 0) (.cons (.pl 7) (.cons (.sub (.pl 5) (.ki 3)) .nil)))) .nil) (.tk 7)) .nil))) .nil) .nil) (.cons (.app 2 (.tup (.cons (.tk 3) (.cons (.tk 6) .nil)))) .nil)))) (.cons (.ret (.bi .tup (.cons (.pl 2) .nil))) .nil)))⟩
theorem PgV.trnd {p : Pg} (hv : PgV p) : (nmsT (trOf p)).Nodup := by
  have h : p.kinds.map Kd.nm = nmsT (trOf p) := by unfold nmsT trOf; rw [List.map_map]; rfl
  rw [← h]
  exact hv.nd
theorem trOf_mem {p : Pg} {s : Str} : s ∈ nmsT (trOf p) ↔ s ∈ p.kinds.map Kd.nm := by
  have h : p.kinds.map Kd.nm = nmsT (trOf p) := by unfold nmsT trOf; rw [List.map_map]; rfl
  rw [h]
theorem line_len {tr : List (Str × Option Str)} {late : List Str} (h : TreeP tr late) (hl : tr.length ≤ 12) {s : Str} {l : List Str} (hs : LineI tr s l) : l.length ≤ 12 := by
  obtain ⟨h1, h2⟩ := hs.mem
  obtain ⟨l2, h3, h4⟩ := line_at h (h2 s h1)
  rw [hs.uniq h.nd h3]
  omega
open Classical in
noncomputable def lineOf (p : Pg) (s : Str) : List Str := if h : ∃ l, LineI (trOf p) s l then h.choose else []
theorem PgV.line {p : Pg} (hv : PgV p) {s : Str} (hs : s ∈ p.kinds.map Kd.nm) : LineI (trOf p) s (lineOf p s) ∧ (lineOf p s).length ≤ 12 := by
  obtain ⟨late, hT⟩ := hv.tree
  obtain ⟨l, h1, h2⟩ := line_at hT (trOf_mem.mpr hs)
  have h3 : LineI (trOf p) s (lineOf p s) := by
    unfold lineOf
    rw [dif_pos ⟨l, h1⟩]
    exact Exists.choose_spec ⟨l, h1⟩
  exact ⟨h3, line_len hT (by unfold trOf; rw [List.length_map]; exact hv.kl) h3⟩
def SpLU (C : FnC) (i : Nat) : Prop := ∀ (p : Pg) (s : Str) (l : List Str), (p.kinds.map Kd.nm).Nodup → LineI (trOf p) s l → l.length ≤ 12 → C i [.v p.toP, .v (.str s)] = some (.l (l.map PyData.str), [.v p.toP, .v (.str s)])
theorem line_up_ok (ix : Ip) (T : Tab) (C : FnC) (hK : SpKR C ix.kind_row) (p : Pg) (s : Str) (l : List Str) (hnd : (p.kinds.map Kd.nm).Nodup) (hl : LineI (trOf p) s l) (hll : l.length ≤ 12) : runF T C (F_line_up ix) [.v p.toP, .v (.str s)] = some (.l (l.map PyData.str), [.v p.toP, .v (.str s)]) := by
  have key : ∃ r ms, runF T C (F_line_up ix) [.v p.toP, .v (.str s)] = some (r, ms) ∧ r = .l (l.map PyData.str) ∧ ms = [.v p.toP, .v (.str s)] := by
    apply run_of rfl
    unfold F_line_up
    show WSS _ _ [some _, some _, none] _ _
    dsimp only
    (try walk_at "mn"); repeat walk_at "mS"
    refine ws_wh (fun k ρ => ∃ (o : Option Str) (acc l' : List Str), ρ = [some (.v p.toP), some (.v (optP o)), some (.l (acc.map PyData.str))] ∧ acc ++ l' = l ∧ k = l'.length ∧ ((o = none ∧ l' = []) ∨ ∃ x, o = some x ∧ LineI (trOf p) x l')) l.length (by omega) ⟨some s, [], l, rfl, rfl, rfl, Or.inr ⟨s, rfl, hl⟩⟩ fun n ρ hI => ?_
    obtain ⟨o, acc, l', rfl, hac, hn, ho⟩ := hI
    (try walk_at "mn"); repeat walk_at "mS"
    refine ⟨fun hb => ?_, fun hb => ?_⟩
    · rcases ho with ⟨rfl, rfl⟩ | ⟨x, rfl, hx⟩
      · (try walk_at "mn"); repeat walk_at "mS"
        rw [List.append_nil] at hac
        subst hac
        exact ⟨rfl, rfl⟩
      · cases hb
    · rcases ho with ⟨rfl, rfl⟩ | ⟨x, rfl, hx⟩
      · cases hb
      · have hal : acc.length ≤ 12 := by
          have := congrArg List.length hac
          rw [List.length_append] at this
          omega
        have h2 : ∃ e l2, l' = x :: l2 ∧ (x, e) ∈ trOf p ∧ ((e = none ∧ l2 = []) ∨ ∃ y, e = some y ∧ LineI (trOf p) y l2) := by
          cases hx with
          | root h => exact ⟨none, [], rfl, h, Or.inl ⟨rfl, rfl⟩⟩
          | up h h' => exact ⟨_, _, rfl, h, Or.inr ⟨_, rfl, h'⟩⟩
        obtain ⟨e, l2, rfl, h3, h4⟩ := h2
        obtain ⟨kd, hkd, hke⟩ := List.mem_map.mp h3
        simp only [Prod.mk.injEq] at hke
        obtain ⟨rfl, rfl⟩ := hke
        (try walk_at "mn"); repeat walk_at "mS"
        refine lf_app (p := .str kd.nm) rfl rfl (by rw [List.length_map]; show _ < 1000000; omega) ?_
        (try walk_at "mn"); repeat walk_at "mS"
        refine ⟨_, _, hK p kd hnd hkd, ?_⟩
        (try walk_at "mn"); repeat walk_at "mS"
        refine ⟨l2.length, by rw [hn]; simp, kd.up, acc ++ [kd.nm], l2, ?_, by rw [← hac]; simp, rfl, h4⟩
        rw [List.map_append]; rfl
  obtain ⟨r, ms, e, rfl, rfl⟩ := key
  exact e
def SpIB (C : FnC) (i : Nat) : Prop := ∀ (p : Pg) (s x : Str), PgV p → s ∈ p.kinds.map Kd.nm → C i [.v p.toP, .v (.str s), .v (.str x)] = some (.v (.bool (decide (x ∈ lineOf p s))), [.v p.toP, .v (.str s), .v (.str x)])
theorem is_below_ok (ix : Ip) (T : Tab) (C : FnC) (hLU : SpLU C ix.line_up) (p : Pg) (s x : Str) (hv : PgV p) (hs : s ∈ p.kinds.map Kd.nm) : runF T C (F_is_below ix) [.v p.toP, .v (.str s), .v (.str x)] = some (.v (.bool (decide (x ∈ lineOf p s))), [.v p.toP, .v (.str s), .v (.str x)]) := by
  obtain ⟨hl, hll⟩ := hv.line hs
  have key : ∃ r ms, runF T C (F_is_below ix) [.v p.toP, .v (.str s), .v (.str x)] = some (r, ms) ∧ r = .v (.bool (decide (x ∈ lineOf p s))) ∧ ms = [.v p.toP, .v (.str s), .v (.str x)] := by
    apply run_of rfl
    unfold F_is_below
    show WSS _ _ [some _, some _, some _] _ _
    dsimp only
    (try walk_at "mn"); repeat walk_at "mS"
    refine ⟨_, _, hLU p s _ hv.nd hl hll, ?_⟩
    (try walk_at "mn"); repeat walk_at "mS"
    refine lf_cmp rfl rfl (inn_strl x _) ?_
    exact ⟨rfl, rfl⟩
  obtain ⟨r, ms, e, rfl, rfl⟩ := key
  exact e
/-- the body is gone through where these kinds are there -/
def hereB (l : List Str) (b : Str × Str) : Bool := decide (b = (Str.ofString "", Str.ofString "")) || decide (b.1 ∈ l)
theorem inn_tupl (s : Str) (l : List Str) : cmpM .inn (.v (.str s)) (.v (.tuple (l.map PyData.str))) = some (.v (.bool (decide (s ∈ l)))) := by
  show (inSeq (.str s) (l.map PyData.str)).map _ = _
  rw [inSeq_str]; rfl
def SpHere (C : FnC) (i : Nat) : Prop := ∀ (b : Str × Str) (l : List Str), C i [.v (bdP b), .v (.tuple (l.map PyData.str))] = some (.v (.bool (hereB l b)), [.v (bdP b), .v (.tuple (l.map PyData.str))])
theorem is_here_ok (ix : Ip) (T : Tab) (C : FnC) (hM : (T.gs[ix.c_MAIN]?).map (·.2) = some mainP) (b : Str × Str) (l : List Str) : runF T C (F_is_here ix) [.v (bdP b), .v (.tuple (l.map PyData.str))] = some (.v (.bool (hereB l b)), [.v (bdP b), .v (.tuple (l.map PyData.str))]) := by
  have key : ∃ r ms, runF T C (F_is_here ix) [.v (bdP b), .v (.tuple (l.map PyData.str))] = some (r, ms) ∧ r = .v (.bool (hereB l b)) ∧ ms = [.v (bdP b), .v (.tuple (l.map PyData.str))] := by
    apply run_of rfl
    unfold F_is_here
    show WSS _ _ [some _, some _] _ _
    dsimp only
    (try walk_at "mn"); repeat walk_at "mN"
    refine we_gT hM ?_
    refine lf_cmp rfl rfl (eq_bd b (Str.ofString "", Str.ofString "")) ?_
    (try walk_at "mn"); repeat walk_at "mS"
    unfold hereB
    refine ⟨fun h => ?_, fun h => ?_⟩
    · rw [h]
      exact ⟨rfl, rfl⟩
    · (try walk_at "mn"); repeat walk_at "mS"
      refine lf_cmp rfl rfl (inn_tupl b.1 l) ?_
      rw [h]
      exact ⟨rfl, rfl⟩
  obtain ⟨r, ms, e, rfl, rfl⟩ := key
  exact e
/-- a call's row: below which kind, which deed -/
def Rw.ck : Rw → Str
  | .call _ _ a _ _ => a
  | _ => Str.ofString ""
def Rw.cd : Rw → Str
  | .call _ _ _ d _ => d
  | _ => Str.ofString ""
noncomputable def kindsAt (p : Pg) (l : List Str) (x : ((Str × Str) × Rw) × Nat) : List Str := if hereB l x.1.1 = true then l.filter fun k => decide (x.1.2.ck ∈ lineOf p k) else []
noncomputable def cellT (p : Pg) (l : List Str) (x : ((Str × Str) × Rw) × Nat) : P := .tuple [.int x.2, .tuple ((kindsAt p l x).map PyData.str)]
def SpBT (C : FnC) (i : Nat) : Prop := ∀ (p : Pg) (l : List Str), PgV p → (∀ s ∈ l, s ∈ p.kinds.map Kd.nm) → l.length ≤ 12 → C i [.v p.toP, .v (.tuple (l.map PyData.str))] = some (.v (.tuple ((callsOf p).map (cellT p l))), [.v p.toP, .v (.tuple (l.map PyData.str))])
theorem callsOf_len {p : Pg} (hv : PgV p) : (callsOf p).length ≤ 1000 := by
  have h1 := List.length_filter_le (fun x : ((Str × Str) × Rw) × Nat => decide (x.1.2.hd = Str.ofString "call")) (rowsAt p).zipIdx
  rw [List.length_zipIdx] at h1
  have := hv.rl
  unfold callsOf
  omega
theorem callsOf_call {p : Pg} {x : ((Str × Str) × Rw) × Nat} (h : x ∈ callsOf p) : ∃ b a c d e args, x.1.2 = .call a c d e args ∧ x.1.1 = b ∧ (b, .call a c d e args) ∈ rowsAt p := by
  unfold callsOf at h
  obtain ⟨h1, h2⟩ := List.mem_filter.mp h
  have h2 := of_decide_eq_true h2
  obtain ⟨⟨b, r⟩, i⟩ := x
  have hm : (b, r) ∈ rowsAt p := List.fst_mem_of_mem_zipIdx h1
  cases r with
  | call a c d e args => exact ⟨b, a, c, d, e, args, rfl, rfl, hm⟩
  | _ => simp only [Rw.hd] at h2; exact absurd h2 (by decide)
theorem by_tree_ok (ix : Ip) (T : Tab) (C : FnC) (hCa : ∀ p : Pg, PgV p → C ix.calls [.v p.toP] = some (.v (.tuple ((callsOf p).map numP)), [.v p.toP])) (hH : SpHere C ix.is_here) (hB : SpIB C ix.is_below) (p : Pg) (l : List Str) (hv : PgV p) (hl : ∀ s ∈ l, s ∈ p.kinds.map Kd.nm) (hll : l.length ≤ 12) : runF T C (F_by_tree ix) [.v p.toP, .v (.tuple (l.map PyData.str))] = some (.v (.tuple ((callsOf p).map (cellT p l))), [.v p.toP, .v (.tuple (l.map PyData.str))]) := by
  have hcl := callsOf_len hv
  have key : ∃ r ms, runF T C (F_by_tree ix) [.v p.toP, .v (.tuple (l.map PyData.str))] = some (r, ms) ∧ r = .v (.tuple ((callsOf p).map (cellT p l))) ∧ ms = [.v p.toP, .v (.tuple (l.map PyData.str))] := by
    apply run_of rfl
    unfold F_by_tree
    show WSS _ _ [some _, some _, none, none, none, none, none, none] _ _
    dsimp only
    (try walk_at "mn"); repeat walk_at "mS"
    refine ws_fr (fun j ρ => ∃ (o3 o4 o5 o6 : Option M), ρ = [some (.v p.toP), some (.v (.tuple (l.map PyData.str))), some (.l (((callsOf p).take j).map (cellT p l))), o3, o4, o5, o6, none] ∧ isLk o3 = false ∧ isLk o4 = false ∧ isLk o5 = false ∧ isLk o6 = false) rfl ?_
    refine wi_of ?_
    (try walk_at "mn"); repeat walk_at "mS"
    refine ⟨_, _, hCa p hv, ?_⟩
    (try walk_at "mn"); repeat walk_at "mS"
    refine ⟨⟨_, _, _, _, rfl, rfl, rfl, rfl, rfl⟩, fun j q ρ2 hp hJ => ?_, fun ρ2 hJ => ?_⟩
    · obtain ⟨o3, o4, o5, o6, rfl, u3, u4, u5, u6⟩ := hJ
      rw [List.getElem?_map] at hp
      obtain ⟨x, hx, rfl⟩ := Option.map_eq_some_iff.mp hp
      obtain ⟨b, a, c, d, e, args, hr, hb, hm⟩ := callsOf_call (List.mem_of_getElem? hx)
      have hcell : ((callsOf p).take (j + 1)).map (cellT p l) = ((callsOf p).take j).map (cellT p l) ++ [.tuple [.int x.2, .tuple ((kindsAt p l x).map PyData.str)]] := by
        rw [List.take_succ, hx, List.map_append]; rfl
      have hka : kindsAt p l x = if hereB l b = true then l.filter fun k => decide (d ∈ lineOf p k) else [] := by
        unfold kindsAt
        rw [hb, hr]; rfl
      unfold numP
      rw [hr, hb]
      refine ⟨_, bindT3 u3 rfl (Nat.le_of_ble_eq_true rfl) u4 rfl (Nat.le_of_ble_eq_true rfl) u5 rfl (Nat.le_of_ble_eq_true rfl), ?_⟩
      (try walk_at "mn"); repeat walk_at "mS"
      refine lf_ex1 (sto_go u6 rfl (Nat.le_of_ble_eq_true rfl)) ?_
      (try walk_at "mn"); repeat walk_at "mC"
      refine ws_cut (fun ρ => ρ = [some (.v p.toP), some (.v (.tuple (l.map PyData.str))), some (.l (((callsOf p).take j).map (cellT p l))), some (.v (.int x.2)), some (.v (bdP b)), some (.v (Rw.call a c d e args).toP), some (.v (.tuple ((kindsAt p l x).map PyData.str))), none]) ?_ ?_
      · (try walk_at "mn"); repeat walk_at "mS"
        refine ⟨_, _, hH b l, ?_⟩
        (try walk_at "mn"); repeat walk_at "mS"
        refine ⟨fun ht => ?_, fun hf => ?_⟩
        · (try walk_at "mn"); repeat walk_at "mS"
          refine we_comp (fun i ρ acc => ∃ (o7 : Option M), ρ = [some (.v p.toP), some (.v (.tuple (l.map PyData.str))), some (.l (((callsOf p).take j).map (cellT p l))), some (.v (.int x.2)), some (.v (bdP b)), some (.v (Rw.call a c d e args).toP), some (.v (.tuple [])), o7] ∧ acc = ((l.take i).filter fun k => decide (d ∈ lineOf p k)).map PyData.str) rfl ?_
          refine wi_lkv rfl rfl ?_
          refine ⟨rfl, ⟨_, rfl, rfl⟩, fun i q ρ2 acc hp hJ => ?_, fun ρ2 qs hJ => ?_⟩
          · obtain ⟨o7, rfl, rfl⟩ := hJ
            rw [List.getElem?_map] at hp
            obtain ⟨s, hs, rfl⟩ := Option.map_eq_some_iff.mp hp
            dsimp only [wipeE, List.set]
            refine lf_ex1 (sto_go rfl rfl (Nat.le_of_ble_eq_true rfl)) ?_
            (try walk_at "mn"); repeat walk_at "mS"
            refine ⟨_, _, hB p s d hv (hl s (List.mem_of_getElem? hs)), ?_⟩
            (try walk_at "mn"); repeat walk_at "mS"
            have hle : ((l.take i).filter fun k => decide (d ∈ lineOf p k)).length ≤ 12 := by
              have h1 := List.length_filter_le (fun k => decide (d ∈ lineOf p k)) (l.take i)
              rw [List.length_take] at h1
              omega
            refine ⟨fun hf => ⟨_, rfl, ?_⟩, fun ht => ?_⟩
            · rw [List.take_succ, hs]
              simp [of_decide_eq_false hf]
            · (try walk_at "mn"); repeat walk_at "mS"
              refine ⟨by rw [List.length_map]; show _ < 1000000; omega, _, rfl, ?_⟩
              rw [List.take_succ, hs]
              simp [of_decide_eq_true ht]
          · rw [List.length_map, List.take_length] at hJ
            obtain ⟨o7, rfl, rfl⟩ := hJ
            (try walk_at "mo")
            (try walk_at "mn"); repeat walk_at "mS"
            rw [hka, if_pos ht]
        · (try walk_at "mn"); repeat walk_at "mS"
          rw [hka, if_neg (by rw [hf]; exact Bool.false_ne_true)]
          rfl
      · rintro _ rfl
        (try walk_at "mn"); repeat walk_at "mS"
        refine lf_app rfl rfl (by rw [List.length_map, List.length_take]; show _ < 1000000; omega) ?_
        (try walk_at "mn"); repeat walk_at "mS"
        refine ⟨some (.v (.int x.2)), some (.v (bdP b)), some (.v (Rw.call a c d e args).toP), some (.v (.tuple ((kindsAt p l x).map PyData.str))), ?_, rfl, rfl, rfl, rfl⟩
        rw [hcell]
    · rw [List.length_map, List.take_length] at hJ
      obtain ⟨o3, o4, o5, o6, rfl, u3, u4, u5, u6⟩ := hJ
      (try walk_at "mn"); repeat walk_at "mS"
      exact ⟨rfl, rfl⟩
  obtain ⟨r, ms, e, rfl, rfl⟩ := key
  exact e
end Mn
open PySem
namespace Mn
def F_answer (ix : Ip) : Fn := ⟨(Str.ofString "answer"), 3, [(Str.ofString "program"), (Str.ofString "kind"), (Str.ofString "deed"), (Str.ofString "name")], (.cons (.fr (.nm 3) (.of (.call ix.line_up (.cons (.pl 0) (.cons (.pl 1) .nil)))) (.cons (.ifs (.cmp .notN (.call ix.deed_row (.cons (.pl 0) (.cons (.pl 3) (.cons (.pl 2) .nil)))) .kn) (.cons (.ret (.mv 3)) .nil) .nil) .nil)) (.cons (.ret .kn) .nil))⟩
def F_asked (ix : Ip) : Fn := ⟨(Str.ofString "asked"), 3, [(Str.ofString "program"), (Str.ofString "kind"), (Str.ofString "deed"), (Str.ofString "line"), (Str.ofString "found")], (.cons (.asg (.nm 3) (.call ix.line_up (.cons (.pl 0) (.cons (.pl 1) .nil)))) (.cons (.asg (.nm 4) (.call ix.answer (.cons (.pl 0) (.cons (.pl 1) (.cons (.pl 2) .nil))))) (.cons (.ifs (.cmp .isN (.pl 4) .kn) (.cons (.ret (.bi .len (.cons (.pl 3) .nil))) .nil) .nil) (.cons (.ret (.bin .add (.mt .index (.pl 3) (.cons (.tk 4) .nil)) (.ki 1))) .nil))))⟩
/-- a kind has the deed itself -/
def hasB (p : Pg) (d n : Str) : Bool := p.kinds.any fun k => decide (k.nm = n) && decide (d ∈ k.deeds.map Dd.nm)
/-- the answer along a line, how many are asked -/
def ansC (p : Pg) (d : Str) : List Str → Option Str × Nat
  | [] => (none, 0)
  | s :: l => if hasB p d s = true then (some s, 1) else ((ansC p d l).1, (ansC p d l).2 + 1)
theorem kd_uniq {p : Pg} (hv : PgV p) {k k2 : Kd} (hk : k ∈ p.kinds) (hk2 : k2 ∈ p.kinds) (e : k.nm = k2.nm) : k = k2 := by
  obtain ⟨i, hi⟩ := List.mem_iff_getElem?.mp hk
  obtain ⟨j, hj⟩ := List.mem_iff_getElem?.mp hk2
  have e1 : (p.kinds.map Kd.nm)[i]? = some k.nm := by rw [List.getElem?_map, hi]; rfl
  have e2 : (p.kinds.map Kd.nm)[j]? = some k.nm := by rw [List.getElem?_map, hj]; exact congrArg some e.symm
  have hil := (List.getElem?_eq_some_iff.mp hi).1
  have hij := (List.getElem?_inj (by rw [List.length_map]; exact hil) hv.nd).mp (e1.trans e2.symm)
  subst hij
  rw [hi] at hj
  exact Option.some.inj hj
theorem hasB_at {p : Pg} (hv : PgV p) (d : Str) {k : Kd} (hk : k ∈ p.kinds) : hasB p d k.nm = decide (d ∈ k.deeds.map Dd.nm) := by
  unfold hasB
  by_cases h : d ∈ k.deeds.map Dd.nm
  · rw [decide_eq_true h]
    exact List.any_eq_true.mpr ⟨k, hk, by simp; simpa using h⟩
  · rw [decide_eq_false h]
    refine Bool.eq_false_iff.mpr fun c => ?_
    obtain ⟨k2, hk2, c2⟩ := List.any_eq_true.mp c
    rw [Bool.and_eq_true] at c2
    have := kd_uniq hv hk2 hk (of_decide_eq_true c2.1)
    subst this
    exact h (of_decide_eq_true c2.2)
theorem line_cons {p : Pg} (hv : PgV p) {k : Kd} (hk : k ∈ p.kinds) : lineOf p k.nm = k.nm :: (match k.up with
    | none => []
    | some e => lineOf p e) := by
  have hnd := hv.trnd
  have h1 := (hv.line (List.mem_map.mpr ⟨k, hk, rfl⟩)).1
  have hm : (k.nm, k.up) ∈ trOf p := List.mem_map.mpr ⟨k, hk, rfl⟩
  cases hu : k.up with
  | none =>
    rw [hu] at hm
    exact h1.uniq hnd (.root hm)
  | some e =>
    rw [hu] at hm
    have he : e ∈ p.kinds.map Kd.nm := by
      obtain ⟨late, hT⟩ := hv.tree
      obtain ⟨i, hi⟩ := List.mem_iff_getElem?.mp hm
      have h2 := hT.up i k.nm e hi
      have h3 : e ∈ nmsT (trOf p) := by
        unfold nmsT at h2 ⊢
        rw [List.map_take] at h2
        exact List.mem_of_mem_take h2
      exact trOf_mem.mp h3
    exact h1.uniq hnd (.up hm (hv.line he).1)
def SpDR2 (C : FnC) (i : Nat) : Prop := ∀ (p : Pg) (k : Kd) (d : Str), PgV p → k ∈ p.kinds → ∃ q, C i [.v p.toP, .v (.str k.nm), .v (.str d)] = some (.v q, [.v p.toP, .v (.str k.nm), .v (.str d)]) ∧ ((d ∈ k.deeds.map Dd.nm ∧ ∃ x : Dd, q = x.toP) ∨ (d ∉ k.deeds.map Dd.nm ∧ q = .none))
theorem deed_row2_ok (ix : Ip) (T : Tab) (C : FnC) (hK : SpKR C ix.kind_row) (p : Pg) (k : Kd) (d : Str) (hv : PgV p) (hk : k ∈ p.kinds) : ∃ q, runF T C (F_deed_row ix) [.v p.toP, .v (.str k.nm), .v (.str d)] = some (.v q, [.v p.toP, .v (.str k.nm), .v (.str d)]) ∧ ((d ∈ k.deeds.map Dd.nm ∧ ∃ x : Dd, q = x.toP) ∨ (d ∉ k.deeds.map Dd.nm ∧ q = .none)) := by
  have key : ∃ r ms, runF T C (F_deed_row ix) [.v p.toP, .v (.str k.nm), .v (.str d)] = some (r, ms) ∧ (∃ q, r = .v q ∧ ((d ∈ k.deeds.map Dd.nm ∧ ∃ x : Dd, q = x.toP) ∨ (d ∉ k.deeds.map Dd.nm ∧ q = .none))) ∧ ms = [.v p.toP, .v (.str k.nm), .v (.str d)] := by
    apply run_of rfl
    unfold F_deed_row
    show WSS _ _ [some _, some _, some _, none] _ _
    dsimp only
    (try walk_at "mn"); repeat walk_at "mS"
    refine ws_fr (fun j ρ => ∃ (o : Option M), ρ = [some (.v p.toP), some (.v (.str k.nm)), some (.v (.str d)), o] ∧ isLk o = false ∧ d ∉ (k.deeds.take j).map Dd.nm) rfl ?_
    refine wi_of ?_
    (try walk_at "mn"); repeat walk_at "mS"
    refine ⟨_, _, hK p k hv.nd hk, ?_⟩
    (try walk_at "mn"); repeat walk_at "mS"
    refine ⟨⟨_, rfl, rfl, by simp⟩, fun j q ρ2 hp hI => ?_, fun ρ2 hI => ?_⟩
    · obtain ⟨o, rfl, u, hj⟩ := hI
      rw [List.getElem?_map] at hp
      obtain ⟨x, hx, rfl⟩ := Option.map_eq_some_iff.mp hp
      have hxm := List.mem_of_getElem? hx
      refine ⟨_, sto_go u rfl (Nat.le_of_ble_eq_true rfl), ?_⟩
      (try walk_at "mn"); repeat walk_at "mS"
      rw [eqv_str]
      refine ⟨fun he => ?_, fun he => ?_⟩
      · have he' : x.nm = d := of_decide_eq_true he
        (try walk_at "mn"); repeat walk_at "mS"
        exact ⟨⟨_, rfl, Or.inl ⟨List.mem_map.mpr ⟨x, hxm, he'⟩, x, rfl⟩⟩, rfl⟩
      · have he' : ¬ x.nm = d := of_decide_eq_false he
        (try walk_at "mn"); repeat walk_at "mS"
        refine ⟨rfl, ?_⟩
        rw [List.take_succ, hx, List.map_append, List.mem_append]
        rintro (c | c)
        · exact hj c
        · simp at c; exact he' c.symm
    · rw [List.length_map, List.take_length] at hI
      obtain ⟨o, rfl, u, hj⟩ := hI
      (try walk_at "mn"); repeat walk_at "mS"
      exact ⟨⟨_, rfl, Or.inr ⟨hj, rfl⟩⟩, rfl⟩
  obtain ⟨r, ms, e, ⟨q, rfl, h⟩, rfl⟩ := key
  exact ⟨q, e, h⟩
theorem line_mem {p : Pg} (hv : PgV p) {s : Str} (hs : s ∈ p.kinds.map Kd.nm) {x : Str} (hx : x ∈ lineOf p s) : ∃ k ∈ p.kinds, k.nm = x := by
  obtain ⟨h1, _⟩ := hv.line hs
  obtain ⟨_, h2⟩ := h1.mem
  have := trOf_mem.mp (h2 x hx)
  obtain ⟨k, hk, e⟩ := List.mem_map.mp this
  exact ⟨k, hk, e⟩
theorem Dd.toP_ne (x : Dd) : isNone (.v x.toP) = false := rfl
theorem ansC_yes {p : Pg} {d s : Str} {l : List Str} (h : hasB p d s = true) : ansC p d (s :: l) = (some s, 1) := if_pos h
theorem ansC_no {p : Pg} {d s : Str} {l : List Str} (h : hasB p d s = false) : ansC p d (s :: l) = ((ansC p d l).1, (ansC p d l).2 + 1) := if_neg (by rw [h]; exact Bool.false_ne_true)
/-- none ahead has it -/
theorem ansC_skip (p : Pg) (d : Str) : ∀ (a l : List Str), (∀ x ∈ a, hasB p d x = false) → ansC p d (a ++ l) = ((ansC p d l).1, a.length + (ansC p d l).2)
  | [], l, _ => by simp
  | x :: a, l, h => by
    rw [List.cons_append, ansC_no (h x List.mem_cons_self), ansC_skip p d a l fun y hy => h y (List.mem_cons_of_mem _ hy)]
    show ((ansC p d l).1, a.length + (ansC p d l).2 + 1) = ((ansC p d l).1, a.length + 1 + (ansC p d l).2)
    rw [Nat.add_right_comm]
def SpAns (C : FnC) (i : Nat) : Prop := ∀ (p : Pg) (s d : Str), PgV p → s ∈ p.kinds.map Kd.nm → C i [.v p.toP, .v (.str s), .v (.str d)] = some (.v (optP (ansC p d (lineOf p s)).1), [.v p.toP, .v (.str s), .v (.str d)])
theorem answer_ok (ix : Ip) (T : Tab) (C : FnC) (hLU : SpLU C ix.line_up) (hD : SpDR2 C ix.deed_row) (p : Pg) (s d : Str) (hv : PgV p) (hs : s ∈ p.kinds.map Kd.nm) : runF T C (F_answer ix) [.v p.toP, .v (.str s), .v (.str d)] = some (.v (optP (ansC p d (lineOf p s)).1), [.v p.toP, .v (.str s), .v (.str d)]) := by
  obtain ⟨hl, hll⟩ := hv.line hs
  have key : ∃ r ms, runF T C (F_answer ix) [.v p.toP, .v (.str s), .v (.str d)] = some (r, ms) ∧ r = .v (optP (ansC p d (lineOf p s)).1) ∧ ms = [.v p.toP, .v (.str s), .v (.str d)] := by
    apply run_of rfl
    unfold F_answer
    show WSS _ _ [some _, some _, some _, none] _ _
    dsimp only
    (try walk_at "mn"); repeat walk_at "mS"
    refine ws_fr (fun j ρ => ∃ (o : Option M), ρ = [some (.v p.toP), some (.v (.str s)), some (.v (.str d)), o] ∧ isLk o = false ∧ ∀ x ∈ (lineOf p s).take j, hasB p d x = false) rfl ?_
    refine wi_of ?_
    (try walk_at "mn"); repeat walk_at "mS"
    refine ⟨_, _, hLU p s _ hv.nd hl hll, ?_⟩
    (try walk_at "mn"); repeat walk_at "mS"
    refine ⟨⟨_, rfl, rfl, by simp⟩, fun j q ρ2 hp hI => ?_, fun ρ2 hI => ?_⟩
    · obtain ⟨o, rfl, u, hj⟩ := hI
      rw [List.getElem?_map] at hp
      obtain ⟨x, hx, rfl⟩ := Option.map_eq_some_iff.mp hp
      obtain ⟨k, hk, rfl⟩ := line_mem hv hs (List.mem_of_getElem? hx)
      have hdr : lineOf p s = (lineOf p s).take j ++ k.nm :: (lineOf p s).drop (j + 1) := by
        obtain ⟨hjl, e⟩ := List.getElem?_eq_some_iff.mp hx
        rw [← e, ← List.drop_eq_getElem_cons hjl, List.take_append_drop]
      refine ⟨_, sto_go u rfl (Nat.le_of_ble_eq_true rfl), ?_⟩
      (try walk_at "mn"); repeat walk_at "mS"
      obtain ⟨q, e1, hq⟩ := hD p k d hv hk
      refine ⟨_, _, e1, ?_⟩
      rcases hq with ⟨h1, y, rfl⟩ | ⟨h1, rfl⟩
      · (try walk_at "mn"); repeat walk_at "mS"
        refine ⟨fun _ => ?_, fun h => absurd (show true = false from h).symm Bool.false_ne_true⟩
        (try walk_at "mn"); repeat walk_at "mS"
        refine ⟨?_, rfl⟩
        have h5 := ansC_skip p d _ (k.nm :: (lineOf p s).drop (j + 1)) hj
        rw [← hdr] at h5
        rw [h5]
        rw [ansC_yes (by rw [hasB_at hv d hk]; exact decide_eq_true h1)]
        rfl
      · (try walk_at "mn"); repeat walk_at "mS"
        refine ⟨fun h => absurd (show false = true from h) Bool.false_ne_true, fun _ => ?_⟩
        (try walk_at "mn"); repeat walk_at "mS"
        refine ⟨rfl, fun y hy => ?_⟩
        rw [List.take_succ, hx, List.mem_append] at hy
        rcases hy with c | c
        · exact hj y c
        · simp at c
          subst c
          rw [hasB_at hv d hk]
          exact decide_eq_false h1
    · rw [List.length_map, List.take_length] at hI
      obtain ⟨o, rfl, u, hj⟩ := hI
      (try walk_at "mn"); repeat walk_at "mS"
      refine ⟨?_, rfl⟩
      have h := ansC_skip p d (lineOf p s) [] hj
      rw [List.append_nil] at h
      rw [h]; rfl
  obtain ⟨r, ms, e, rfl, rfl⟩ := key
  exact e
theorem ansC_cases (p : Pg) (d : Str) : ∀ l : List Str, ((ansC p d l).1 = none ∧ (ansC p d l).2 = l.length) ∨ ∃ s j, (ansC p d l).1 = some s ∧ l[j]? = some s ∧ (ansC p d l).2 = j + 1 ∧ ∀ i x, i < j → l[i]? = some x → x ≠ s
  | [] => Or.inl ⟨rfl, rfl⟩
  | x :: l => by
    by_cases h : hasB p d x = true
    · rw [ansC_yes h]
      exact Or.inr ⟨x, 0, rfl, rfl, rfl, fun i y hi _ => absurd hi (Nat.not_lt_zero i)⟩
    · rw [ansC_no (Bool.eq_false_iff.mpr h)]
      rcases ansC_cases p d l with ⟨h1, h2⟩ | ⟨s, j, h1, h2, h3, h4⟩
      · exact Or.inl ⟨h1, by rw [h2]; rfl⟩
      · refine Or.inr ⟨s, j + 1, h1, by simpa using h2, by rw [h3], fun i y hi hy => ?_⟩
        cases i with
        | zero =>
          simp at hy
          subst hy
          intro e
          subst e
          have : ∀ (l : List Str), (ansC p d l).1 = some x → hasB p d x = true := fun l => by
            induction l with
            | nil => intro e; cases e
            | cons z l ih =>
              intro e
              by_cases hz : hasB p d z = true
              · rw [ansC_yes hz] at e; cases e; exact hz
              · rw [ansC_no (Bool.eq_false_iff.mpr hz)] at e; exact ih e
          exact h (this l h1)
        | succ i => exact h4 i y (by omega) (by simpa using hy)
theorem index_str {l : List Str} {s : Str} {j : Nat} (h : l[j]? = some s) (hn : ∀ i x, i < j → l[i]? = some x → x ≠ s) : mtM .index (.l (l.map PyData.str)) [.v (.str s)] = some (.v (.int j)) := by
  show (if flatP (.str s) = true ∧ (l.map PyData.str).all flatP = true then (match (l.map PyData.str).findIdx? fun y => PyData.eqv y (.str s) with
    | some j => some (M.v (.int j))
    | none => none) else none) = _
  rw [if_pos ⟨rfl, List.all_eq_true.mpr fun x hx => by obtain ⟨y, _, rfl⟩ := List.mem_map.mp hx; rfl⟩]
  have : ((l.map PyData.str).findIdx? fun y => PyData.eqv y (.str s)) = some j := by
    obtain ⟨hj, e⟩ := List.getElem?_eq_some_iff.mp h
    refine List.findIdx?_eq_some_iff_getElem.mpr ⟨by rw [List.length_map]; exact hj, ?_, fun i hi => ?_⟩
    · rw [List.getElem_map, eqv_str, e]; exact decide_eq_true rfl
    · rw [List.getElem_map, eqv_str]
      have := hn i _ hi (List.getElem?_eq_getElem (Nat.lt_trans hi hj))
      simpa using this
  rw [this]
def SpAsk (C : FnC) (i : Nat) : Prop := ∀ (p : Pg) (s d : Str), PgV p → s ∈ p.kinds.map Kd.nm → C i [.v p.toP, .v (.str s), .v (.str d)] = some (.v (.int (ansC p d (lineOf p s)).2), [.v p.toP, .v (.str s), .v (.str d)])
theorem asked_ok (ix : Ip) (T : Tab) (C : FnC) (hLU : SpLU C ix.line_up) (hA : SpAns C ix.answer) (p : Pg) (s d : Str) (hv : PgV p) (hs : s ∈ p.kinds.map Kd.nm) : runF T C (F_asked ix) [.v p.toP, .v (.str s), .v (.str d)] = some (.v (.int (ansC p d (lineOf p s)).2), [.v p.toP, .v (.str s), .v (.str d)]) := by
  obtain ⟨hl, hll⟩ := hv.line hs
  have key : ∃ r ms, runF T C (F_asked ix) [.v p.toP, .v (.str s), .v (.str d)] = some (r, ms) ∧ r = .v (.int (ansC p d (lineOf p s)).2) ∧ ms = [.v p.toP, .v (.str s), .v (.str d)] := by
    apply run_of rfl
    unfold F_asked
    show WSS _ _ [some _, some _, some _, none, none] _ _
    dsimp only
    (try walk_at "mn"); repeat walk_at "mS"
    refine ⟨_, _, hLU p s _ hv.nd hl hll, ?_⟩
    (try walk_at "mn"); repeat walk_at "mS"
    refine ⟨_, _, hA p s d hv hs, ?_⟩
    (try walk_at "mn"); repeat walk_at "mS"
    rcases ansC_cases p d (lineOf p s) with ⟨h1, h2⟩ | ⟨x, j, h1, h2, h3, h4⟩
    · rw [h1, h2]
      (try walk_at "mn"); repeat walk_at "mS"
      refine ⟨fun _ => ?_, fun h => absurd (show true = false from h).symm Bool.false_ne_true⟩
      (try walk_at "mn"); repeat walk_at "mS"
      rw [List.length_map]
      exact ⟨rfl, rfl⟩
    · rw [h1, h3]
      (try walk_at "mn"); repeat walk_at "mS"
      refine ⟨fun h => absurd (show false = true from h) Bool.false_ne_true, fun _ => ?_⟩
      (try walk_at "mn"); repeat walk_at "mS"
      refine lf_mt rfl rfl (index_str h2 h4) ?_
      (try walk_at "mn"); repeat walk_at "mS"
      exact ⟨rfl, rfl⟩
  obtain ⟨r, ms, e, rfl, rfl⟩ := key
  exact e
end Mn
open PySem
namespace Mn
structure IxL extends Ix, Ip where
  l_same : Nat
  l_due : Nat
  law : Nat
def F_law_same (ix : IxL) : Fn := ⟨(Str.ofString "_law_same"), 2, [(Str.ofString "_law_found"), (Str.ofString "_law_due_here"), (Str.ofString "_law_one"), (Str.ofString "_law_other")], (.cons (.ifs (.bi .isTup (.cons (.pl 1) .nil)) (.cons (.ret (.ban (.bi .isTup (.cons (.pl 0) .nil)) (.ban (.cmp .eq (.bi .len (.cons (.pl 0) .nil)) (.bi .len (.cons (.pl 1) .nil))) (.bi .all (.cons (.comp [2, 3] (.tp [(.nm 2), (.nm 3)]) (.zp (.tk 0) (.tk 1)) .nil (.call ix.l_same (.cons (.pl 2) (.cons (.pl 3) .nil)))) .nil))))) .nil) .nil) (.cons (.ifs (.cmp .isN (.pl 1) .kn) (.cons (.ret (.cmp .isN (.pl 0) .kn)) .nil) .nil) (.cons (.ifs (.bi .isBool (.cons (.pl 1) .nil)) (.cons (.ret (.ban (.bi .isBool (.cons (.pl 0) .nil)) (.cmp .eq (.pl 0) (.pl 1)))) .nil) .nil) (.cons (.ifs (.bi .isStr (.cons (.pl 1) .nil)) (.cons (.ret (.ban (.bi .isStr (.cons (.pl 0) .nil)) (.cmp .eq (.pl 0) (.pl 1)))) .nil) .nil) (.cons (.ret (.ban (.bi .isInt (.cons (.pl 0) .nil)) (.ban (.nt (.bi .isBool (.cons (.pl 0) .nil))) (.cmp .eq (.pl 0) (.pl 1))))) .nil)))))⟩
def F_law_due (ix : IxL) : Fn := ⟨(Str.ofString "_law_due"), 2, [(Str.ofString "_law_program_here"), (Str.ofString "_law_deed_here"), (Str.ofString "_law_found"), (Str.ofString "_law_name"), (Str.ofString "_law_elder"), (Str.ofString "_law_deeds"), (Str.ofString "_law_one")], (.cons (.asg (.nm 2) (.dr .kn (.tup (.cons .kn (.cons (.ki 0) .nil))))) (.cons (.fr (.tp [(.nm 3), (.nm 4), (.nm 5)]) (.of (.sub (.pl 0) (.ki 0))) (.cons (.ifs (.cmp .inn (.pl 1) (.comp [6] (.nm 6) (.lk 5) .nil (.sub (.pl 6) (.ki 0)))) (.cons (.stn 2 (.tk 3) (.tup (.cons (.tk 3) (.cons (.ki 1) .nil)))) .nil) (.cons (.stn 2 (.tk 3) (.tup (.cons (.sub (.sub (.pl 2) (.tk 4)) (.ki 0)) (.cons (.bin .add (.sub (.sub (.pl 2) (.tk 4)) (.ki 1)) (.ki 1)) .nil)))) .nil)) .nil)) (.cons (.ret (.mv 2)) .nil)))⟩
def F_law (ix : IxL) : Fn := ⟨(Str.ofString "law"), 1, [(Str.ofString "_law_script"), (Str.ofString "_law_k"), (Str.ofString "_law_program_here"), (Str.ofString "_law_words_here"), (Str.ofString "_law_deed_here"), (Str.ofString "_law_name"), (Str.ofString "_law_elder"), (Str.ofString "_law_deeds"), (Str.ofString "_law_due_here"), (Str.ofString "_law_one")], (.cons (.fr (.nm 1) (.rg (.cons (.bi .max2 (.cons (.ki 1) (.cons (.bi .min2 (.cons (.bi .len (.cons (.pl 0) .nil)) (.cons (.ki 9) .nil))) .nil))) .nil)) (.cons (.asg (.nm 2) (.call ix.l_program (.cons (.call ix.l_hand (.cons (.pl 0) (.cons (.pl 1) .nil))) (.cons (.ki 40) .nil)))) (.cons (.asg (.nm 3) (.lst (.cons (.ks (Str.ofString "none")) (.cons (.ks (Str.ofString "zz")) .nil)))) (.cons (.fr (.tp [(.nm 5), (.nm 6), (.nm 7)]) (.of (.sub (.pl 2) (.ki 0))) (.cons (.ext 3 (.comp [9] (.nm 9) (.lk 7) .nil (.sub (.pl 9) (.ki 0)))) .nil)) (.cons (.fr (.nm 4) (.lk 3) (.cons (.asg (.nm 8) (.call ix.l_due (.cons (.pl 2) (.cons (.pl 4) .nil)))) (.cons (.fr (.tp [(.nm 5), (.nm 6), (.nm 7)]) (.of (.sub (.pl 2) (.ki 0))) (.cons (.ifs (.nt (.call ix.l_same (.cons (.call ix.answer (.cons (.pl 2) (.cons (.pl 5) (.cons (.pl 4) .nil)))) (.cons (.sub (.sub (.pl 8) (.tk 5)) (.ki 0)) .nil)))) (.cons (.ret (.kb false)) .nil) .nil) (.cons (.ifs (.nt (.call ix.l_same (.cons (.call ix.asked (.cons (.pl 2) (.cons (.pl 5) (.cons (.pl 4) .nil)))) (.cons (.sub (.sub (.pl 8) (.tk 5)) (.ki 1)) .nil)))) (.cons (.ret (.kb false)) .nil) .nil) .nil))) .nil))) .nil))))) (.cons (.ret (.kb true)) .nil))⟩
/-- what the comparing looks into -/
def smP : Nat → P → Bool
  | _, .none => true
  | _, .bool _ => true
  | _, .int _ => true
  | _, .str _ => true
  | n + 1, .tuple ps => Nat.ble ps.length 1000 && ps.all (smP n)
  | _, _ => false
def SpSm (C : FnC) (i n : Nat) : Prop := ∀ x : P, smP n x = true → C i [.v x, .v x] = some (.v (.bool true), [.v x, .v x])
theorem same_ok (ix : IxL) (T : Tab) (C : FnC) (n : Nat) (hS : ∀ m, m < n → SpSm C ix.l_same m) (x : P) (hx : smP n x = true) : runF T C (F_law_same ix) [.v x, .v x] = some (.v (.bool true), [.v x, .v x]) := by
  have key : ∃ r ms, runF T C (F_law_same ix) [.v x, .v x] = some (r, ms) ∧ r = .v (.bool true) ∧ ms = [.v x, .v x] := by
    cases x with
    | none =>
      apply run_of rfl
      unfold F_law_same
      show WSS _ _ [some _, some _, none, none] _ _
      dsimp only
      (try walk_at "mn"); repeat walk_at "mS"
      refine ⟨fun h => absurd (show false = true from h) Bool.false_ne_true, fun _ => ?_⟩
      (try walk_at "mn"); repeat walk_at "mS"
      refine ⟨fun _ => ?_, fun h => absurd (show true = false from h).symm Bool.false_ne_true⟩
      (try walk_at "mn"); repeat walk_at "mS"
      exact ⟨rfl, rfl⟩
    | bool b =>
      cases b <;> (
      apply run_of rfl
      unfold F_law_same
      show WSS _ _ [some _, some _, none, none] _ _
      dsimp only
      (try walk_at "mn"); repeat walk_at "mS"
      refine ⟨fun h => absurd (show false = true from h) Bool.false_ne_true, fun _ => ?_⟩
      (try walk_at "mn"); repeat walk_at "mS"
      refine ⟨fun h => absurd (show false = true from h) Bool.false_ne_true, fun _ => ?_⟩
      (try walk_at "mn"); repeat walk_at "mS"
      refine ⟨fun _ => ?_, fun h => absurd (show true = false from h).symm Bool.false_ne_true⟩
      (try walk_at "mn"); repeat walk_at "mS"
      refine ⟨fun _ => ?_, fun h => absurd (show true = false from h).symm Bool.false_ne_true⟩
      (try walk_at "mn"); repeat walk_at "mS"
      exact ⟨rfl, rfl⟩)
    | str s =>
      apply run_of rfl
      unfold F_law_same
      show WSS _ _ [some _, some _, none, none] _ _
      dsimp only
      (try walk_at "mn"); repeat walk_at "mS"
      refine ⟨fun h => absurd (show false = true from h) Bool.false_ne_true, fun _ => ?_⟩
      (try walk_at "mn"); repeat walk_at "mS"
      refine ⟨fun h => absurd (show false = true from h) Bool.false_ne_true, fun _ => ?_⟩
      (try walk_at "mn"); repeat walk_at "mS"
      refine ⟨fun h => absurd (show false = true from h) Bool.false_ne_true, fun _ => ?_⟩
      (try walk_at "mn"); repeat walk_at "mS"
      refine ⟨fun _ => ?_, fun h => absurd (show true = false from h).symm Bool.false_ne_true⟩
      (try walk_at "mn"); repeat walk_at "mS"
      refine ⟨fun _ => ?_, fun h => absurd (show true = false from h).symm Bool.false_ne_true⟩
      (try walk_at "mn"); repeat walk_at "mS"
      rw [eqv_str, decide_eq_true rfl]
      exact ⟨rfl, rfl⟩
    | int i =>
      apply run_of rfl
      unfold F_law_same
      show WSS _ _ [some _, some _, none, none] _ _
      dsimp only
      (try walk_at "mn"); repeat walk_at "mS"
      refine ⟨fun h => absurd (show false = true from h) Bool.false_ne_true, fun _ => ?_⟩
      (try walk_at "mn"); repeat walk_at "mS"
      refine ⟨fun h => absurd (show false = true from h) Bool.false_ne_true, fun _ => ?_⟩
      (try walk_at "mn"); repeat walk_at "mS"
      refine ⟨fun h => absurd (show false = true from h) Bool.false_ne_true, fun _ => ?_⟩
      (try walk_at "mn"); repeat walk_at "mS"
      refine ⟨fun h => absurd (show false = true from h) Bool.false_ne_true, fun _ => ?_⟩
      (try walk_at "mn"); repeat walk_at "mS"
      refine ⟨fun _ => ?_, fun h => absurd (show true = false from h).symm Bool.false_ne_true⟩
      (try walk_at "mn"); repeat walk_at "mS"
      refine ⟨fun _ => ?_, fun h => absurd (show true = false from h).symm Bool.false_ne_true⟩
      (try walk_at "mn"); repeat walk_at "mS"
      rw [eqv_int, decide_eq_true rfl]
      exact ⟨rfl, rfl⟩
    | tuple l =>
      cases n with
      | zero => unfold smP at hx; cases hx
      | succ n =>
        unfold smP at hx
        rw [Bool.and_eq_true] at hx
        have hll : l.length ≤ 1000 := Nat.le_of_ble_eq_true hx.1
        have hal := List.all_eq_true.mp hx.2
        apply run_of rfl
        unfold F_law_same
        show WSS _ _ [some _, some _, none, none] _ _
        dsimp only
        (try walk_at "mn"); repeat walk_at "mS"
        refine ⟨fun _ => ?_, fun h => absurd (show true = false from h).symm Bool.false_ne_true⟩
        (try walk_at "mn"); repeat walk_at "mS"
        refine ⟨fun _ => ?_, fun h => absurd (show true = false from h).symm Bool.false_ne_true⟩
        (try walk_at "mn"); repeat walk_at "mS"
        rw [eqv_int]
        refine ⟨fun _ => ?_, fun h => absurd rfl (of_decide_eq_false h)⟩
        (try walk_at "mn"); repeat walk_at "mS"
        refine we_comp (fun j ρ acc => ∃ (o2 o3 : Option M), ρ = [some (.v (.tuple l)), some (.v (.tuple l)), o2, o3] ∧ acc = (l.take j).map fun _ => .bool true) rfl ?_
        refine wi_zp ?_
        (try walk_at "mn"); repeat walk_at "mS"
        refine ⟨rfl, ⟨_, _, rfl, rfl⟩, fun j p ρ2 acc hp hI => ?_, fun ρ2 qs hI => ?_⟩
        · obtain ⟨o2, o3, rfl, rfl⟩ := hI
          have hj : j < l.length := by
            have := (List.getElem?_eq_some_iff.mp hp).1
            rw [zipP_len] at this
            omega
          obtain ⟨y, hy⟩ : ∃ y, l[j]? = some y := ⟨_, List.getElem?_eq_getElem hj⟩
          rw [zipP_get hy hy] at hp
          cases hp
          dsimp only [wipeE, List.set]
          refine ⟨_, bindT2 rfl rfl (Nat.le_of_ble_eq_true rfl) rfl rfl (Nat.le_of_ble_eq_true rfl), ?_⟩
          (try walk_at "mn"); repeat walk_at "mS"
          refine ⟨_, _, hS n (Nat.lt_succ_self n) y (hal y (List.mem_of_getElem? hy)), ?_⟩
          (try walk_at "mn"); repeat walk_at "mS"
          refine ⟨by rw [List.length_map, List.length_take]; show _ < 1000000; omega, _, _, rfl, ?_⟩
          rw [List.take_succ, hy, List.map_append]; rfl
        rw [zipP_len, Nat.min_self, List.take_length] at hI
        obtain ⟨o2, o3, rfl, rfl⟩ := hI
        (try walk_at "mo")
        (try walk_at "mn"); repeat walk_at "mS"
        refine lf_bi rfl (all_map (fun _ => true) l) ?_
        refine ⟨?_, rfl⟩
        rw [List.all_eq_true.mpr (fun _ _ => rfl)]
    | _ => cases n <;> (unfold smP at hx; cases hx)
  obtain ⟨r, ms, e, rfl, rfl⟩ := key
  exact e
def ansT (a : Option Str × Nat) : P := .tuple [optP a.1, .int a.2]
def upK (o : Option Str) : RK := .inl (o.map Sum.inr)
theorem rk_opt (o : Option Str) : rkOf (optP o) = some (upK o) := by cases o <;> rfl
theorem subR {kvs : List (RK × P)} {p q : P} {k : RK} (h1 : rkOf p = some k) (h2 : rkN k = true) (h3 : getA kvs k = some q) : subM (.r kvs) (.v p) = some (.v q) := by
  show (match rkOf p with
    | some k => if rkN k = true then (getA kvs k).map M.v else none
    | none => none) = _
  rw [h1]
  show (if rkN k = true then (getA kvs k).map M.v else none) = _
  rw [if_pos h2, h3]; rfl
structure DueR (p : Pg) (d : Str) (j : Nat) (kvs : List (RK × P)) : Prop where
  rk : (kvs.all fun kv => rkN kv.1) = true
  len : kvs.length ≤ j + 1
  ne : kvs.isEmpty = false
  non : getA kvs (upK none) = some (ansT (none, 0))
  at_ : ∀ k ∈ p.kinds.take j, getA kvs (upK (some k.nm)) = some (ansT (ansC p d (lineOf p k.nm)))
theorem DueR.up {p : Pg} {d : Str} {j : Nat} {kvs : List (RK × P)} (h : DueR p d j kvs) (hv : PgV p) {k : Kd} (hk : p.kinds[j]? = some k) : ∃ t, lineOf p k.nm = k.nm :: t ∧ getA kvs (upK k.up) = some (ansT (ansC p d t)) := by
  have hl := line_cons hv (List.mem_of_getElem? hk)
  refine ⟨_, hl, ?_⟩
  cases hu : k.up with
  | none => exact h.non
  | some e =>
    obtain ⟨late, hT⟩ := hv.tree
    have h2 := hT.up j k.nm e (by unfold trOf; rw [List.getElem?_map, hk, ← hu]; rfl)
    unfold nmsT trOf at h2
    rw [← List.map_take, List.map_map] at h2
    obtain ⟨k', hk', rfl⟩ := List.mem_map.mp h2
    exact h.at_ k' hk'
theorem upK_inj {a b : Option Str} (h : upK a = upK b) : a = b := by
  cases a <;> cases b <;> simp [upK] at h ⊢
  exact h
theorem DueR.put {p : Pg} {d : Str} {j : Nat} {kvs : List (RK × P)} (h : DueR p d j kvs) {k : Kd} (hk : p.kinds[j]? = some k) {x : P} (hx : x = ansT (ansC p d (lineOf p k.nm))) : DueR p d (j + 1) (putA kvs (upK (some k.nm)) x) := by
  have hmem : ∀ kv ∈ putA kvs (upK (some k.nm)) x, kv ∈ kvs ∨ kv = (upK (some k.nm), x) := fun kv hkv => putA_mem hkv
  refine ⟨List.all_eq_true.mpr fun kv hkv => ?_, ?_, ?_, ?_, fun k' hk' => ?_⟩
  · rcases hmem kv hkv with c | c
    · exact List.all_eq_true.mp h.rk kv c
    · rw [c]; rfl
  · have := putA_len kvs (upK (some k.nm)) x
    have := h.len
    omega
  · have hg := getA_put (upK (some k.nm)) (upK (some k.nm)) x kvs
    rw [if_pos rfl] at hg
    cases hc : putA kvs (upK (some k.nm)) x with
    | nil => rw [hc] at hg; cases hg
    | cons _ _ => rfl
  · rw [getA_put, if_neg (fun c => by cases upK_inj c)]
    exact h.non
  · rw [getA_put]
    by_cases e : k'.nm = k.nm
    · rw [if_pos (by rw [e]), hx, e]
    · rw [if_neg (fun c => e (Option.some.inj (upK_inj c)))]
      rw [List.take_succ, hk, List.mem_append] at hk'
      rcases hk' with c | c
      · exact h.at_ k' c
      · simp at c; exact absurd (by rw [c]) e
theorem due02_ok (ix : IxL) (T : Tab) (C : FnC) (p : Pg) (d : Str) (hv : PgV p) : ∃ kvs, runF T C (F_law_due ix) [.v p.toP, .v (.str d)] = some (.r kvs, [.v p.toP, .v (.str d)]) ∧ DueR p d p.kinds.length kvs := by
  have hkl := hv.kl
  have key : ∃ r ms, runF T C (F_law_due ix) [.v p.toP, .v (.str d)] = some (r, ms) ∧ ∃ kvs, r = .r kvs ∧ ms = [.v p.toP, .v (.str d)] ∧ DueR p d p.kinds.length kvs := by
    apply run_of rfl
    unfold F_law_due
    show WSS _ _ [some _, some _, none, none, none, none, none] _ _
    dsimp only
    (try walk_at "mn"); repeat walk_at "mS"
    refine we_dr ?_
    (try walk_at "mn"); repeat walk_at "mS"
    refine ⟨_, _, rfl, rfl, rfl, ?_⟩
    (try walk_at "mn"); repeat walk_at "mS"
    refine ws_fr (fun j ρ => ∃ (kvs : List (RK × P)) (o3 o4 o5 : Option M), ρ = [some (.v p.toP), some (.v (.str d)), some (.r kvs), o3, o4, o5, none] ∧ isLk o3 = false ∧ isLk o4 = false ∧ isLk o5 = false ∧ DueR p d j kvs) rfl ?_
    refine wi_of ?_
    (try walk_at "mn"); repeat walk_at "mS"
    refine ⟨⟨_, _, _, _, rfl, rfl, rfl, rfl, ⟨rfl, Nat.le_refl _, rfl, rfl, fun k hk => by simp at hk⟩⟩, fun j q ρ2 hp hI => ?_, fun ρ2 hI => ?_⟩
    · obtain ⟨kvs, o3, o4, o5, rfl, u3, u4, u5, hD⟩ := hI
      rw [List.getElem?_map] at hp
      obtain ⟨k, hk, rfl⟩ := Option.map_eq_some_iff.mp hp
      have hkm := List.mem_of_getElem? hk
      have hj := (List.getElem?_eq_some_iff.mp hk).1
      have hdl := hv.dl k hkm
      have hlen := hD.len
      obtain ⟨t, ht, hup⟩ := hD.up hv hk
      refine ⟨_, bindT3 u3 rfl (Nat.le_of_ble_eq_true rfl) u4 rfl (Nat.le_of_ble_eq_true rfl) u5 rfl (Nat.le_of_ble_eq_true rfl), ?_⟩
      (try walk_at "mn"); repeat walk_at "mS"
      refine we_comp (fun i ρ acc => ∃ (o6 : Option M), ρ = [some (.v p.toP), some (.v (.str d)), some (.r kvs), some (.v (.str k.nm)), some (.v (optP k.up)), some (.v (.tuple (k.deeds.map Dd.toP))), o6] ∧ acc = ((k.deeds.take i).map Dd.nm).map PyData.str) rfl ?_
      refine wi_lkv rfl rfl ?_
      refine ⟨rfl, ⟨_, rfl, rfl⟩, fun i q ρ2 acc hp hJ => ?_, fun ρ2 qs hJ => ?_⟩
      · obtain ⟨o6, rfl, rfl⟩ := hJ
        rw [List.getElem?_map] at hp
        obtain ⟨x, hx, rfl⟩ := Option.map_eq_some_iff.mp hp
        dsimp only [wipeE, List.set]
        refine lf_ex1 (sto_go rfl rfl (Nat.le_of_ble_eq_true rfl)) ?_
        (try walk_at "mn"); repeat walk_at "mS"
        refine ⟨by rw [List.length_map, List.length_map, List.length_take]; show _ < 1000000; omega, _, rfl, ?_⟩
        rw [List.take_succ, hx, List.map_append, List.map_append]; rfl
      rw [List.length_map, List.take_length] at hJ
      obtain ⟨o6, rfl, rfl⟩ := hJ
      (try walk_at "mo")
      refine lf_cmp rfl rfl (inn_strl d (k.deeds.map Dd.nm)) ?_
      (try walk_at "mn"); repeat walk_at "mS"
      have hB := hasB_at hv d hkm
      refine ⟨fun hb => ?_, fun hb => ?_⟩
      · (try walk_at "mn"); repeat walk_at "mS"
        refine ws_stn rfl ?_
        (try walk_at "mn"); repeat walk_at "mS"
        refine ⟨_, _, upK (some k.nm), rfl, rfl, rfl, ⟨by show _ < 1000000; omega, hD.ne, rfl, hD.rk⟩, ?_⟩
        (try walk_at "mn"); repeat walk_at "mS"
        refine ⟨_, some (.v (.str k.nm)), some (.v (optP k.up)), some (.v (.tuple (k.deeds.map Dd.toP))), rfl, rfl, rfl, rfl, hD.put hk ?_⟩
        rw [ht]
        rw [ansC_yes (by rw [hB]; exact hb)]
        rfl
      · (try walk_at "mn"); repeat walk_at "mS"
        refine ws_stn rfl ?_
        (try walk_at "mn"); repeat walk_at "mS"
        refine lf_sub rfl (subR (rk_opt k.up) rfl hup) ?_
        (try walk_at "mn"); repeat walk_at "mS"
        refine lf_sub rfl (subR (rk_opt k.up) rfl hup) ?_
        (try walk_at "mn"); repeat walk_at "mS"
        refine ⟨_, _, upK (some k.nm), rfl, rfl, rfl, ⟨by show _ < 1000000; omega, hD.ne, rfl, hD.rk⟩, ?_⟩
        (try walk_at "mn"); repeat walk_at "mS"
        refine ⟨_, some (.v (.str k.nm)), some (.v (optP k.up)), some (.v (.tuple (k.deeds.map Dd.toP))), rfl, rfl, rfl, rfl, hD.put hk ?_⟩
        rw [ht]
        rw [ansC_no (by rw [hB]; exact hb)]
        rfl
    · rw [List.length_map] at hI
      obtain ⟨kvs, o3, o4, o5, rfl, u3, u4, u5, hD⟩ := hI
      (try walk_at "mn"); repeat walk_at "mS"
      exact ⟨rfl, hD⟩
  obtain ⟨r, ms, e, kvs, rfl, rfl, q⟩ := key
  exact ⟨kvs, e, q⟩
theorem k02_ok (ix : IxL) (T : Tab) (C : FnC) (hH : SpHand C ix.l_hand) (hP : SpProg C ix.l_program)
    (hDu : ∀ (p : Pg) (d : Str), PgV p → ∃ kvs, C ix.l_due [.v p.toP, .v (.str d)] = some (.r kvs, [.v p.toP, .v (.str d)]) ∧ DueR p d p.kinds.length kvs)
    (hAn : SpAns C ix.answer) (hAs : SpAsk C ix.asked) (hSm : SpSm C ix.l_same 0)
    (ns : List Int) (hns : ns.length ≤ 63) : runF T C (F_law ix) [.s ns] = some (.v (.bool true), [.s ns]) := by
  have hL : LT = 500000 := rfl
  have key : ∃ r ms, runF T C (F_law ix) [.s ns] = some (r, ms) ∧ r = .v (.bool true) ∧ ms = [.s ns] := by
    apply run_of rfl
    unfold F_law
    show WSS _ _ [some _, none, none, none, none, none, none, none, none, none] _ _
    dsimp only
    (try walk_at "mn"); repeat walk_at "mS"
    refine ws_fr (fun j ρ => ∃ (o1 o2 o3 o4 o5 o6 o7 o8 : Option M), ρ = [some (.s ns), o1, o2, o3, o4, o5, o6, o7, o8, none] ∧ isLk o1 = false ∧ isLk o2 = false ∧ isLk o3 = false ∧ isLk o4 = false ∧ isLk o5 = false ∧ isLk o6 = false ∧ isLk o7 = false ∧ isLk o8 = false) rfl ?_
    refine wi_rg ?_
    (try walk_at "mn"); repeat walk_at "mS"
    refine ⟨_, _, rfl, rg1 ⟨by split <;> split <;> omega, by split <;> split <;> omega⟩, ⟨_, _, _, _, _, _, _, _, rfl, rfl, rfl, rfl, rfl, rfl, rfl, rfl, rfl⟩, fun j q ρ2 hp hI => ?_, fun ρ2 hI => ?_⟩
    · obtain ⟨hj, rfl⟩ := rg1_get hp
      have hj9 : j < 100 := by
        have : (if (if (9 : Int) < (ns.length : Int) then (9 : Int) else (ns.length : Int)) > 1 then (if (9 : Int) < (ns.length : Int) then (9 : Int) else (ns.length : Int)) else 1) ≤ 9 := by split <;> split <;> omega
        omega
      obtain ⟨o1, o2, o3, o4, o5, o6, o7, o8, rfl, u1, u2, u3, u4, u5, u6, u7, u8⟩ := hI
      refine ⟨_, sto_go u1 rfl (Nat.le_of_ble_eq_true rfl), ?_⟩
      (try walk_at "mn"); repeat walk_at "mS"
      obtain ⟨h1, e1, hd1⟩ := hH ns j hns hj9
      refine ⟨_, _, e1, ?_⟩
      (try walk_at "mn"); repeat walk_at "mS"
      obtain ⟨w, p, h2, e2, hW, hPg, _⟩ := hP 0 0 _ 40 hd1 (by omega) (by omega)
      refine ⟨_, _, e2, ?_⟩
      refine lf_ex1 (sto_go u2 rfl (Nat.le_of_ble_eq_true rfl)) ?_
      (try walk_at "mn"); repeat walk_at "mS"
      refine lf_ex1 (sto_go u3 rfl (Nat.le_of_ble_eq_true rfl)) ?_
      have hv := hPg.v hW (by omega)
      have hkl := hv.kl
      have hsame : ∀ o : Option Str, C ix.l_same [.v (optP o), .v (optP o)] = some (.v (.bool true), [.v (optP o), .v (optP o)]) := fun o => hSm _ (by cases o <;> rfl)
      have hsamei : ∀ i : Nat, C ix.l_same [.v (.int i), .v (.int i)] = some (.v (.bool true), [.v (.int i), .v (.int i)]) := fun i => hSm _ rfl
      (try walk_at "mn"); repeat walk_at "mS"
      refine ws_fr (fun i ρ => ∃ (ws : List Str) (o5 o6 o7 : Option M), ρ = [some (.s ns), some (.v (.int j)), some (.v p.toP), some (.l (ws.map PyData.str)), o4, o5, o6, o7, o8, none] ∧ isLk o5 = false ∧ isLk o6 = false ∧ isLk o7 = false ∧ ws.length ≤ 2 + 6 * i) rfl ?_
      refine wi_of ?_
      (try walk_at "mn"); repeat walk_at "mS"
      refine ⟨⟨[Str.ofString "none", Str.ofString "zz"], o5, o6, o7, rfl, u5, u6, u7, by simp⟩, fun i q ρ2 hp hJ => ?_, fun ρ2 hJ => ?_⟩
      · obtain ⟨ws, o5, o6, o7, rfl, u5, u6, u7, hwl⟩ := hJ
        rw [List.getElem?_map] at hp
        obtain ⟨k, hk, rfl⟩ := Option.map_eq_some_iff.mp hp
        have hi := (List.getElem?_eq_some_iff.mp hk).1
        have hdl := hv.dl k (List.mem_of_getElem? hk)
        refine ⟨_, bindT3 u5 rfl (Nat.le_of_ble_eq_true rfl) u6 rfl (Nat.le_of_ble_eq_true rfl) u7 rfl (Nat.le_of_ble_eq_true rfl), ?_⟩
        (try walk_at "mn"); repeat walk_at "mS"
        refine we_comp (fun i ρ acc => ∃ (o9 : Option M), ρ = [some (.s ns), some (.v (.int j)), some (.v p.toP), some (.l (ws.map PyData.str)), o4, some (.v (.str k.nm)), some (.v (optP k.up)), some (.v (.tuple (k.deeds.map Dd.toP))), o8, o9] ∧ acc = ((k.deeds.take i).map Dd.nm).map PyData.str) rfl ?_
        refine wi_lkv rfl rfl ?_
        refine ⟨rfl, ⟨_, rfl, rfl⟩, fun i q ρ2 acc hp hJ => ?_, fun ρ2 qs hJ => ?_⟩
        · obtain ⟨o9, rfl, rfl⟩ := hJ
          rw [List.getElem?_map] at hp
          obtain ⟨x, hx, rfl⟩ := Option.map_eq_some_iff.mp hp
          dsimp only [wipeE, List.set]
          refine lf_ex1 (sto_go rfl rfl (Nat.le_of_ble_eq_true rfl)) ?_
          (try walk_at "mn"); repeat walk_at "mS"
          refine ⟨by rw [List.length_map, List.length_map, List.length_take]; show _ < 1000000; omega, _, rfl, ?_⟩
          rw [List.take_succ, hx, List.map_append, List.map_append]; rfl
        rw [List.length_map, List.take_length] at hJ
        obtain ⟨o9, rfl, rfl⟩ := hJ
        (try walk_at "mo")
        (try walk_at "mn"); repeat walk_at "mS"
        refine ⟨_, _, rfl, rfl, ?_, ?_⟩
        · rw [List.length_map, List.length_map, List.length_map]; show _ ≤ 1000000; omega
        (try walk_at "mn"); repeat walk_at "mS"
        refine ⟨ws ++ k.deeds.map Dd.nm, some (.v (.str k.nm)), some (.v (optP k.up)), some (.v (.tuple (k.deeds.map Dd.toP))), ?_, rfl, rfl, rfl, ?_⟩
        · rw [List.map_append]
        · rw [List.length_append, List.length_map]; omega
      rw [List.length_map] at hJ
      obtain ⟨ws, o5, o6, o7, rfl, u5, u6, u7, hwl⟩ := hJ
      (try walk_at "mn"); repeat walk_at "mS"
      refine ws_fr (fun i ρ => ∃ (o4 o5 o6 o7 o8 : Option M), ρ = [some (.s ns), some (.v (.int j)), some (.v p.toP), some (.k (.l (ws.map PyData.str))), o4, o5, o6, o7, o8, none] ∧ isLk o4 = false ∧ isLk o5 = false ∧ isLk o6 = false ∧ isLk o7 = false ∧ isLk o8 = false) rfl ?_
      refine wi_lkk rfl rfl ?_
      refine ⟨⟨_, _, _, _, _, rfl, u4, u5, u6, u7, u8⟩, fun i q ρ2 hp hJ => ?_, fun ρ2 hJ => ?_⟩
      · obtain ⟨o4, o5, o6, o7, o8, rfl, u4, u5, u6, u7, u8⟩ := hJ
        rw [List.getElem?_map] at hp
        obtain ⟨d, hd, rfl⟩ := Option.map_eq_some_iff.mp hp
        refine ⟨_, sto_go u4 rfl (Nat.le_of_ble_eq_true rfl), ?_⟩
        (try walk_at "mn"); repeat walk_at "mS"
        obtain ⟨kvs, e3, hD⟩ := hDu p d hv
        refine ⟨_, _, e3, ?_⟩
        refine lf_ex1 (sto_go u8 rfl (Nat.le_of_ble_eq_true rfl)) ?_
        (try walk_at "mn"); repeat walk_at "mS"
        refine ws_fr (fun i ρ => ∃ (o5 o6 o7 : Option M), ρ = [some (.s ns), some (.v (.int j)), some (.v p.toP), some (.k (.l (ws.map PyData.str))), some (.v (.str d)), o5, o6, o7, some (.r kvs), none] ∧ isLk o5 = false ∧ isLk o6 = false ∧ isLk o7 = false) rfl ?_
        refine wi_of ?_
        (try walk_at "mn"); repeat walk_at "mS"
        refine ⟨⟨_, _, _, rfl, u5, u6, u7⟩, fun i q ρ2 hp hJ => ?_, fun ρ2 hJ => ?_⟩
        · obtain ⟨o5, o6, o7, rfl, u5, u6, u7⟩ := hJ
          rw [List.getElem?_map] at hp
          obtain ⟨k, hk, rfl⟩ := Option.map_eq_some_iff.mp hp
          have hkm := List.mem_of_getElem? hk
          have hks : k.nm ∈ p.kinds.map Kd.nm := List.mem_map.mpr ⟨k, hkm, rfl⟩
          have hat := hD.at_ k (by rw [List.take_length]; exact hkm)
          refine ⟨_, bindT3 u5 rfl (Nat.le_of_ble_eq_true rfl) u6 rfl (Nat.le_of_ble_eq_true rfl) u7 rfl (Nat.le_of_ble_eq_true rfl), ?_⟩
          (try walk_at "mn"); repeat walk_at "mC"
          refine ws_cut (fun ρ => ρ = [some (.s ns), some (.v (.int j)), some (.v p.toP), some (.k (.l (ws.map PyData.str))), some (.v (.str d)), some (.v (.str k.nm)), some (.v (optP k.up)), some (.v (.tuple (k.deeds.map Dd.toP))), some (.r kvs), none]) ?_ ?_
          · (try walk_at "mn"); repeat walk_at "mS"
            refine ⟨_, _, hAn p k.nm d hv hks, ?_⟩
            (try walk_at "mn"); repeat walk_at "mS"
            refine lf_sub rfl (subR (p := .str k.nm) (k := upK (some k.nm)) rfl rfl hat) ?_
            (try walk_at "mn"); repeat walk_at "mS"
            refine ⟨_, _, hsame _, ?_⟩
            (try walk_at "mn"); repeat walk_at "mS"
            refine ⟨fun h => absurd (show false = true from h) Bool.false_ne_true, fun _ => ?_⟩
            (try walk_at "mn"); repeat walk_at "mS"
            rfl
          rintro _ rfl
          (try walk_at "mn"); repeat walk_at "mS"
          refine ⟨_, _, hAs p k.nm d hv hks, ?_⟩
          (try walk_at "mn"); repeat walk_at "mS"
          refine lf_sub rfl (subR (p := .str k.nm) (k := upK (some k.nm)) rfl rfl hat) ?_
          (try walk_at "mn"); repeat walk_at "mS"
          refine ⟨_, _, hsamei _, ?_⟩
          (try walk_at "mn"); repeat walk_at "mS"
          refine ⟨fun h => absurd (show false = true from h) Bool.false_ne_true, fun _ => ?_⟩
          (try walk_at "mn"); repeat walk_at "mS"
          exact ⟨_, _, _, rfl, rfl, rfl, rfl⟩
        · obtain ⟨o5, o6, o7, rfl, u5, u6, u7⟩ := hJ
          (try walk_at "mn"); repeat walk_at "mS"
          exact ⟨_, _, _, _, _, rfl, rfl, u5, u6, u7, rfl⟩
      · obtain ⟨o4, o5, o6, o7, o8, rfl, u4, u5, u6, u7, u8⟩ := hJ
        (try walk_at "mn"); repeat walk_at "mS"
        exact ⟨_, _, _, _, _, _, _, _, rfl, rfl, rfl, rfl, u4, u5, u6, u7, u8⟩
    · obtain ⟨o1, o2, o3, o4, o5, o6, o7, o8, rfl, u1, u2, u3, u4, u5, u6, u7, u8⟩ := hI
      (try walk_at "mn"); repeat walk_at "mS"
      exact ⟨rfl, rfl⟩
  obtain ⟨r, ms, e, rfl, rfl⟩ := key
  exact e
end Mn
section
set_option maxHeartbeats 0
namespace Mn
open PySem L2 PySem.Spec
open PySem.W (OpenLaw view)
namespace Lw
def F_kind_row : Fn := ⟨(Str.ofString "kind_row"), 2, [(Str.ofString "program"), (Str.ofString "name"), (Str.ofString "row")], (.cons (.fr (.nm 2) (.of (.sub (.pl 0) (.ki 0))) (.cons (.ifs (.cmp .eq (.sub (.pl 2) (.ki 0)) (.pl 1)) (.cons (.ret (.mv 2)) .nil) .nil) .nil)) (.cons (.ret .kn) .nil))⟩
def F_line_up : Fn := ⟨(Str.ofString "line_up"), 2, [(Str.ofString "program"), (Str.ofString "kind"), (Str.ofString "found")], (.cons (.asg (.nm 2) (.lst .nil)) (.cons (.wh (.cmp .notN (.pl 1) .kn) (.cons (.app 2 (.tk 1)) (.cons (.asg (.nm 1) (.sub (.call 0 (.cons (.pl 0) (.cons (.pl 1) .nil))) (.ki 1))) .nil))) (.cons (.ret (.mv 2)) .nil)))⟩
def F_deed_row : Fn := ⟨(Str.ofString "deed_row"), 3, [(Str.ofString "program"), (Str.ofString "kind"), (Str.ofString "deed"), (Str.ofString "row")], (.cons (.fr (.nm 3) (.of (.sub (.call 0 (.cons (.pl 0) (.cons (.pl 1) .nil))) (.ki 2))) (.cons (.ifs (.cmp .eq (.sub (.pl 3) (.ki 0)) (.pl 2)) (.cons (.ret (.mv 3)) .nil) .nil) .nil)) (.cons (.ret .kn) .nil))⟩
def F_answer : Fn := ⟨(Str.ofString "answer"), 3, [(Str.ofString "program"), (Str.ofString "kind"), (Str.ofString "deed"), (Str.ofString "name")], (.cons (.fr (.nm 3) (.of (.call 1 (.cons (.pl 0) (.cons (.pl 1) .nil)))) (.cons (.ifs (.cmp .notN (.call 2 (.cons (.pl 0) (.cons (.pl 3) (.cons (.pl 2) .nil)))) .kn) (.cons (.ret (.mv 3)) .nil) .nil) .nil)) (.cons (.ret .kn) .nil))⟩
def F_asked : Fn := ⟨(Str.ofString "asked"), 3, [(Str.ofString "program"), (Str.ofString "kind"), (Str.ofString "deed"), (Str.ofString "line"), (Str.ofString "found")], (.cons (.asg (.nm 3) (.call 1 (.cons (.pl 0) (.cons (.pl 1) .nil)))) (.cons (.asg (.nm 4) (.call 3 (.cons (.pl 0) (.cons (.pl 1) (.cons (.pl 2) .nil))))) (.cons (.ifs (.cmp .isN (.pl 4) .kn) (.cons (.ret (.bi .len (.cons (.pl 3) .nil))) .nil) .nil) (.cons (.ret (.bin .add (.mt .index (.pl 3) (.cons (.tk 4) .nil)) (.ki 1))) .nil))))⟩
def F_law_hand : Fn := ⟨(Str.ofString "_law_hand"), 2, [(Str.ofString "_law_script"), (Str.ofString "_law_k"), (Str.ofString "_law_cell")], (.cons (.asg (.nm 2) (.ki 0)) (.cons (.ifs (.cmp .lt (.pl 1) (.bi .len (.cons (.pl 0) .nil))) (.cons (.asg (.nm 2) (.bi .abs (.cons (.sub (.pl 0) (.tk 1)) .nil))) .nil) .nil) (.cons (.ret (.lst (.cons (.bin .mul (.pl 2) (.bi .int (.cons (.cmp .ge (.pl 2) (.bin .pow (.ki 10) (.ki 18))) .nil))) (.cons (.bin .add (.bin .add (.bin .mod (.pl 2) (.ki 2305843009213693951)) (.bin .mul (.ki 7919) (.pl 1))) (.ki 11)) (.cons (.ki 0) (.cons (.ki 0) .nil)))))) .nil)))⟩
def F_law_take : Fn := ⟨(Str.ofString "_law_take"), 2, [(Str.ofString "_law_hand_here"), (Str.ofString "_law_many"), (Str.ofString "_law_turn"), (Str.ofString "_law_mixed"), (Str.ofString "_law_digit")], (.cons (.ifs (.cmp .gt (.sub (.pl 0) (.ki 0)) (.ki 0)) (.cons (.asg (.nm 4) (.bin .mod (.sub (.pl 0) (.ki 0)) (.pl 1))) (.cons (.sto 0 (.ki 0) (.bin .div (.sub (.pl 0) (.ki 0)) (.pl 1))) (.cons (.ret (.mv 4)) .nil))) .nil) (.cons (.sto 0 (.ki 2) (.bin .add (.sub (.pl 0) (.ki 2)) (.ki 1))) (.cons (.asg (.nm 2) (.sub (.pl 0) (.ki 2))) (.cons (.asg (.nm 3) (.bin .mod (.bin .mul (.bin .add (.sub (.pl 0) (.ki 1)) (.bin .mul (.ki 39373) (.pl 2))) (.bin .add (.ki 48271) (.bin .mul (.pl 2) (.pl 2)))) (.ki 2305843009213693921))) (.cons (.sto 0 (.ki 1) (.bin .mod (.bin .mul (.pl 3) (.bin .add (.bin .mod (.pl 3) (.ki 1000003)) (.ki 17))) (.ki 2305843009213693907))) (.cons (.ret (.bin .mod (.bin .div (.sub (.pl 0) (.ki 1)) (.ki 131071)) (.pl 1))) .nil))))))⟩
def F_law_of : Fn := ⟨(Str.ofString "_law_of"), 2, [(Str.ofString "_law_hand_here"), (Str.ofString "_law_some")], (.cons (.ret (.sub (.pl 1) (.call 6 (.cons (.pl 0) (.cons (.bi .len (.cons (.pl 1) .nil)) .nil))))) .nil)⟩
def F_law_words : Fn := ⟨(Str.ofString "_law_words"), 2, [(Str.ofString "_law_hand_here"), (Str.ofString "_law_many"), (Str.ofString "_law_odd"), (Str.ofString "_law_letters"), (Str.ofString "_law_stem"), (Str.ofString "_law_k"), (Str.ofString "_law_at"), (Str.ofString "_law_first"), (Str.ofString "_law_stride"), (Str.ofString "_law_words_here"), (Str.ofString "_law_word")], (.cons (.asg (.nm 2) (.lst (.cons (.ks (Str.ofString "end")) (.cons (.ks (Str.ofString "or")) (.cons (.ks (Str.ofString "main")) (.cons (.ks (Str.ofString "gives")) (.cons (.ks (Str.ofString "kind")) (.cons (.ks (Str.ofString "under")) (.cons (.ks (Str.ofString "late")) (.cons (.ks (Str.ofString "deed")) (.cons (.ks (Str.ofString "call")) (.cons (.ks (Str.ofString "say")) (.cons (.ks (Str.ofString "make")) (.cons (.ks (Str.ofString "take")) (.cons (.ks (Str.ofString "put")) .nil))))))))))))))) (.cons (.ifs (.cmp .eq (.call 6 (.cons (.pl 0) (.cons (.ki 8) .nil))) (.ki 5)) (.cons (.asg (.nm 7) (.call 6 (.cons (.pl 0) (.cons (.ki 13) .nil)))) (.cons (.ret (.slc (.bin .add (.slc (.pl 2) (.tk 7) .no) (.slc (.pl 2) .no (.tk 7))) .no (.tk 1))) .nil)) .nil) (.cons (.asg (.nm 3) (.ks (Str.ofString "abcdefghijklmnopqrstuvwxyz"))) (.cons (.asg (.nm 4) (.ks (Str.ofString ""))) (.cons (.fr (.nm 5) (.rg (.cons (.call 6 (.cons (.pl 0) (.cons (.ki 5) .nil))) .nil)) (.cons (.asg (.nm 4) (.bin .add (.pl 4) (.sub (.pl 3) (.call 6 (.cons (.pl 0) (.cons (.ki 26) .nil)))))) .nil)) (.cons (.asg (.nm 6) (.call 6 (.cons (.pl 0) (.cons (.bin .add (.bi .len (.cons (.pl 4) .nil)) (.ki 1)) .nil)))) (.cons (.asg (.nm 7) (.call 6 (.cons (.pl 0) (.cons (.ki 26) .nil)))) (.cons (.asg (.nm 8) (.sub (.lst (.cons (.ki 1) (.cons (.ki 3) (.cons (.ki 5) (.cons (.ki 7) (.cons (.ki 9) (.cons (.ki 11) .nil))))))) (.call 6 (.cons (.pl 0) (.cons (.ki 6) .nil))))) (.cons (.asg (.nm 9) (.lst .nil)) (.cons (.fr (.nm 5) (.rg (.cons (.tk 1) .nil)) (.cons (.asg (.nm 10) (.bin .add (.bin .add (.slc (.pl 4) .no (.tk 6)) (.sub (.pl 3) (.bin .mod (.bin .add (.pl 7) (.bin .mul (.pl 8) (.pl 5))) (.ki 26)))) (.slc (.pl 4) (.tk 6) .no))) (.cons (.app 9 (.bin .add (.pl 10) (.bin .mul (.ks (Str.ofString "q")) (.bi .int (.cons (.cmp .eq (.pl 10) (.ks (Str.ofString "own"))) .nil))))) .nil))) (.cons (.ret (.mv 9)) .nil)))))))))))⟩
def F_law_tree : Fn := ⟨(Str.ofString "_law_tree"), 1, [(Str.ofString "_law_hand_here"), (Str.ofString "_law_many"), (Str.ofString "_law_names"), (Str.ofString "_law_way"), (Str.ofString "_law_tree_here"), (Str.ofString "_law_late"), (Str.ofString "_law_k"), (Str.ofString "_law_name"), (Str.ofString "_law_elder")], (.cons (.asg (.nm 1) (.call 7 (.cons (.pl 0) (.cons (.lst (.cons (.ki 1) (.cons (.ki 2) (.cons (.ki 3) (.cons (.ki 4) (.cons (.ki 5) (.cons (.ki 6) (.cons (.ki 8) (.cons (.ki 12) .nil))))))))) .nil)))) (.cons (.asg (.nm 2) (.call 8 (.cons (.pl 0) (.cons (.pl 1) .nil)))) (.cons (.asg (.nm 3) (.call 6 (.cons (.pl 0) (.cons (.ki 4) .nil)))) (.cons (.asg (.nm 4) (.lst .nil)) (.cons (.asg (.nm 5) (.lst .nil)) (.cons (.fr (.tp [(.nm 6), (.nm 7)]) (.en (.tk 2)) (.cons (.asg (.nm 8) .kn) (.cons (.ifs (.ban (.cmp .gt (.pl 6) (.ki 0)) (.cmp .gt (.call 6 (.cons (.pl 0) (.cons (.ki 6) .nil))) (.ki 0))) (.cons (.asg (.nm 8) (.sub (.pl 2) (.sub (.lst (.cons (.bin .sub (.pl 6) (.ki 1)) (.cons (.ki 0) (.cons (.bin .div (.bin .sub (.pl 6) (.ki 1)) (.ki 2)) (.cons (.call 6 (.cons (.pl 0) (.cons (.pl 6) .nil))) .nil))))) (.tk 3)))) .nil) .nil) (.cons (.ifs (.ban (.cmp .inn (.pl 8) (.pl 5)) (.cmp .eq (.bi .len (.cons (.pl 5) .nil)) (.ki 6))) (.cons (.asg (.nm 8) .kn) .nil) .nil) (.cons (.ifs (.bor (.cmp .inn (.pl 8) (.pl 5)) (.ban (.cmp .lt (.bi .len (.cons (.pl 5) .nil)) (.ki 6)) (.ban (.cmp .gt (.pl 6) (.ki 0)) (.cmp .eq (.call 6 (.cons (.pl 0) (.cons (.ki 4) .nil))) (.ki 0))))) (.cons (.app 5 (.tk 7)) .nil) .nil) (.cons (.app 4 (.tup (.cons (.tk 7) (.cons (.tk 8) .nil)))) .nil)))))) (.cons (.ret (.tup (.cons (.tk 4) (.cons (.tk 5) .nil)))) .nil)))))))⟩
def F_law_world : Fn := ⟨(Str.ofString "_law_world"), 1, [(Str.ofString "_law_hand_here"), (Str.ofString "_law_names"), (Str.ofString "_law_deeds"), (Str.ofString "_law_words_here"), (Str.ofString "_law_wants"), (Str.ofString "_law_owners"), (Str.ofString "_law_roots"), (Str.ofString "_law_deed_here"), (Str.ofString "_law_tree_here"), (Str.ofString "_law_late"), (Str.ofString "_law_name"), (Str.ofString "_law_elder"), (Str.ofString "_law_some"), (Str.ofString "_law_root"), (Str.ofString "_law_k")], (.cons (.asg (.tp [(.nm 8), (.nm 9)]) (.call 9 (.cons (.pl 0) .nil))) (.cons (.asg (.nm 1) (.comp [10, 11] (.tp [(.nm 10), (.nm 11)]) (.lk 8) .nil (.tk 10))) (.cons (.asg (.nm 2) (.call 8 (.cons (.pl 0) (.cons (.call 7 (.cons (.pl 0) (.cons (.lst (.cons (.ki 1) (.cons (.ki 2) (.cons (.ki 2) (.cons (.ki 3) (.cons (.ki 3) (.cons (.ki 4) (.cons (.ki 4) (.cons (.ki 6) .nil))))))))) .nil))) .nil)))) (.cons (.asg (.nm 3) (.call 8 (.cons (.pl 0) (.cons (.ki 9) .nil)))) (.cons (.asg (.nm 4) (.dnw 1)) (.cons (.asg (.nm 5) (.dnw 0)) (.cons (.asg (.nm 6) (.dnw 0)) (.cons (.fr (.tp [(.nm 10), (.nm 11)]) (.lk 8) (.cons (.sto 6 (.tk 10) (.mt .get (.pl 6) (.cons (.tk 11) (.cons (.tk 10) .nil)))) .nil)) (.cons (.fr (.nm 7) (.lk 2) (.cons (.fr (.nm 10) (.of (.bi .dict (.cons (.comp [13] (.nm 13) (.vals 6) .nil (.tup (.cons (.tk 13) (.cons (.kb true) .nil)))) .nil))) (.cons (.stt 4 (.cons (.tk 10) (.cons (.tk 7) .nil)) (.comp [14] (.nm 14) (.rg (.cons (.call 7 (.cons (.pl 0) (.cons (.lst (.cons (.ki 0) (.cons (.ki 1) (.cons (.ki 1) (.cons (.ki 2) (.cons (.ki 4) .nil)))))) .nil))) .nil)) .nil (.call 7 (.cons (.pl 0) (.cons (.pl 1) .nil))))) .nil)) (.cons (.asg (.nm 12) (.lst .nil)) (.cons (.fr (.tp [(.nm 10), (.nm 11)]) (.lk 8) (.cons (.ifs (.cmp .eq (.call 6 (.cons (.pl 0) (.cons (.sub (.lst (.cons (.ki 3) (.cons (.ki 2) .nil))) (.bi .int (.cons (.cmp .isN (.pl 11) .kn) .nil))) .nil))) (.ki 0)) (.cons (.app 12 (.tk 10)) .nil) .nil) .nil)) (.cons (.sto 5 (.tk 7) (.bin .add (.pl 12) (.bin .mul (.lst (.cons (.sub (.pl 1) (.ki 0)) .nil)) (.bi .int (.cons (.cmp .eq (.pl 12) (.lst .nil)) .nil))))) .nil))))) (.cons (.ret (.dd 2 (.cons (.ks (Str.ofString "tree")) (.cons (.tk 8) (.cons (.ks (Str.ofString "late")) (.cons (.tk 9) (.cons (.ks (Str.ofString "deeds")) (.cons (.tk 2) (.cons (.ks (Str.ofString "wants")) (.cons (.tk 4) (.cons (.ks (Str.ofString "owners")) (.cons (.tk 5) (.cons (.ks (Str.ofString "vars")) (.cons (.slc (.pl 3) .no (.ki 4)) (.cons (.ks (Str.ofString "params")) (.cons (.slc (.pl 3) (.ki 4) (.ki 8)) (.cons (.ks (Str.ofString "fields")) (.cons (.slc (.pl 3) (.ki 6) .no) (.cons (.ks (Str.ofString "told")) (.cons (.dnw 0) (.cons (.ks (Str.ofString "held")) (.cons (.dnw 0) (.cons (.ks (Str.ofString "roots")) (.cons (.tk 6) .nil)))))))))))))))))))))))) .nil))))))))))⟩
def F_law_line : Fn := ⟨(Str.ofString "_law_line"), 2, [(Str.ofString "_law_world_here"), (Str.ofString "_law_kind"), (Str.ofString "_law_up"), (Str.ofString "_law_line_here")], (.cons (.asg (.nm 2) (.bi .dict (.cons (.sub (.pl 0) (.ks (Str.ofString "tree"))) .nil))) (.cons (.asg (.nm 3) (.lst .nil)) (.cons (.wh (.cmp .notN (.pl 1) .kn) (.cons (.app 3 (.tk 1)) (.cons (.asg (.nm 1) (.sub (.pl 2) (.tk 1))) .nil))) (.cons (.ret (.mv 3)) .nil))))⟩
def F_law_has : Fn := ⟨(Str.ofString "_law_has"), 3, [(Str.ofString "_law_world_here"), (Str.ofString "_law_kind"), (Str.ofString "_law_deed_here"), (Str.ofString "_law_one")], (.cons (.ret (.bi .any (.cons (.comp [3] (.nm 3) (.of (.call 11 (.cons (.pl 0) (.cons (.pl 1) .nil)))) .nil (.cmp .inn (.pl 3) (.sub (.sub (.pl 0) (.ks (Str.ofString "owners"))) (.tk 2)))) .nil))) .nil)⟩
def F_law_variable : Fn := ⟨(Str.ofString "_law_variable"), 3, [(Str.ofString "_law_hand_here"), (Str.ofString "_law_world_here"), (Str.ofString "_law_env"), (Str.ofString "_law_some"), (Str.ofString "_law_x")], (.cons (.asg (.nm 3) (.comp [4] (.nm 4) (.lk 2) (.cons (.cmp .notN (.sub (.pl 2) (.tk 4)) .kn) .nil) (.tk 4))) (.cons (.ifs (.ban (.cmp .ne (.pl 3) (.lst .nil)) (.cmp .gt (.call 6 (.cons (.pl 0) (.cons (.ki 4) .nil))) (.ki 0))) (.cons (.ret (.call 7 (.cons (.pl 0) (.cons (.pl 3) .nil)))) .nil) .nil) (.cons (.ret (.call 7 (.cons (.pl 0) (.cons (.bin .add (.sub (.pl 1) (.ks (Str.ofString "vars"))) (.bi .list (.cons (.pl 2) .nil))) .nil)))) .nil)))⟩
def F_law_target : Fn := ⟨(Str.ofString "_law_target"), 3, [(Str.ofString "_law_hand_here"), (Str.ofString "_law_world_here"), (Str.ofString "_law_env"), (Str.ofString "_law_x")], (.cons (.ret (.call 7 (.cons (.pl 0) (.cons (.bin .add (.sub (.pl 1) (.ks (Str.ofString "vars"))) (.comp [3] (.nm 3) (.lk 2) (.cons (.cmp .inn (.pl 3) (.sub (.pl 1) (.ks (Str.ofString "params")))) .nil) (.tk 3))) .nil)))) .nil)⟩
def F_law_make : Fn := ⟨(Str.ofString "_law_make"), 3, [(Str.ofString "_law_hand_here"), (Str.ofString "_law_world_here"), (Str.ofString "_law_env"), (Str.ofString "_law_names"), (Str.ofString "_law_soon"), (Str.ofString "_law_kind"), (Str.ofString "_law_x"), (Str.ofString "_law_name"), (Str.ofString "_law_elder")], (.cons (.asg (.nm 3) (.comp [7, 8] (.tp [(.nm 7), (.nm 8)]) (.of (.sub (.pl 1) (.ks (Str.ofString "tree")))) .nil (.tk 7))) (.cons (.asg (.nm 4) (.comp [7] (.nm 7) (.lk 3) (.cons (.cmp .nin (.pl 7) (.sub (.pl 1) (.ks (Str.ofString "late")))) .nil) (.tk 7))) (.cons (.asg (.nm 5) (.call 7 (.cons (.pl 0) (.cons (.sub (.lst (.cons (.tk 4) (.cons (.tk 4) (.cons (.tk 3) .nil)))) (.call 6 (.cons (.pl 0) (.cons (.ki 3) .nil)))) .nil)))) (.cons (.asg (.nm 6) (.call 14 (.cons (.pl 0) (.cons (.pl 1) (.cons (.pl 2) .nil))))) (.cons (.sto 2 (.tk 6) (.tk 5)) (.cons (.ret (.tup (.cons (.ks (Str.ofString "make")) (.cons (.tk 6) (.cons (.tk 5) .nil))))) .nil))))))⟩
def F_law_args : Fn := ⟨(Str.ofString "_law_args"), 5, [(Str.ofString "_law_hand_here"), (Str.ofString "_law_world_here"), (Str.ofString "_law_env"), (Str.ofString "_law_above"), (Str.ofString "_law_deed_here"), (Str.ofString "_law_args_here"), (Str.ofString "_law_kind"), (Str.ofString "_law_some"), (Str.ofString "_law_x")], (.cons (.asg (.nm 5) (.lst .nil)) (.cons (.fr (.nm 6) (.of (.sub (.sub (.pl 1) (.ks (Str.ofString "wants"))) (.tup (.cons (.sub (.sub (.pl 1) (.ks (Str.ofString "roots"))) (.tk 3)) (.cons (.tk 4) .nil))))) (.cons (.asg (.nm 7) (.comp [8] (.nm 8) (.lk 2) (.cons (.ban (.cmp .notN (.sub (.pl 2) (.tk 8)) .kn) (.cmp .inn (.pl 6) (.call 11 (.cons (.pl 1) (.cons (.sub (.pl 2) (.tk 8)) .nil))))) .nil) (.tk 8))) (.cons (.ifs (.ban (.cmp .ne (.pl 7) (.lst .nil)) (.cmp .gt (.call 6 (.cons (.pl 0) (.cons (.ki 4) .nil))) (.ki 0))) (.cons (.app 5 (.call 7 (.cons (.pl 0) (.cons (.pl 7) .nil)))) .nil) (.cons (.app 5 (.call 13 (.cons (.pl 0) (.cons (.pl 1) (.cons (.pl 2) .nil))))) .nil)) .nil))) (.cons (.ret (.bi .tup (.cons (.pl 5) .nil))) .nil)))⟩
def F_law_call : Fn := ⟨(Str.ofString "_law_call"), 4, [(Str.ofString "_law_hand_here"), (Str.ofString "_law_world_here"), (Str.ofString "_law_env"), (Str.ofString "_law_level"), (Str.ofString "_law_y"), (Str.ofString "_law_kind"), (Str.ofString "_law_some"), (Str.ofString "_law_ways"), (Str.ofString "_law_deed_here"), (Str.ofString "_law_args_here"), (Str.ofString "_law_x"), (Str.ofString "_law_above"), (Str.ofString "_law_one"), (Str.ofString "_law_name"), (Str.ofString "_law_elder")], (.cons (.asg (.nm 4) (.call 13 (.cons (.pl 0) (.cons (.pl 1) (.cons (.pl 2) .nil))))) (.cons (.asg (.nm 5) (.mt .get (.pl 2) (.cons (.tk 4) .nil))) (.cons (.ifs (.cmp .isN (.pl 5) .kn) (.cons (.asg (.nm 5) (.call 7 (.cons (.pl 0) (.cons (.comp [13, 14] (.tp [(.nm 13), (.nm 14)]) (.of (.sub (.pl 1) (.ks (Str.ofString "tree")))) .nil (.tk 13)) .nil)))) .nil) .nil) (.cons (.asg (.nm 6) (.slc (.sub (.pl 1) (.ks (Str.ofString "deeds"))) (.bin .add (.pl 3) (.ki 1)) .no)) (.cons (.ifs (.cmp .eq (.call 6 (.cons (.pl 0) (.cons (.ki 8) .nil))) (.ki 0)) (.cons (.asg (.nm 6) (.sub (.pl 1) (.ks (Str.ofString "deeds")))) .nil) .nil) (.cons (.asg (.nm 7) (.lst .nil)) (.cons (.fr (.nm 8) (.lk 6) (.cons (.ext 7 (.comp [12] (.nm 12) (.of (.call 11 (.cons (.pl 1) (.cons (.pl 5) .nil)))) (.cons (.call 12 (.cons (.pl 1) (.cons (.pl 12) (.cons (.pl 8) .nil)))) .nil) (.tup (.cons (.tk 12) (.cons (.tk 8) .nil))))) .nil)) (.cons (.ifs (.cmp .eq (.pl 7) (.lst .nil)) (.cons (.ret (.call 15 (.cons (.pl 0) (.cons (.pl 1) (.cons (.pl 2) .nil))))) .nil) .nil) (.cons (.asg (.tp [(.nm 11), (.nm 8)]) (.call 7 (.cons (.pl 0) (.cons (.pl 7) .nil)))) (.cons (.asg (.nm 9) (.call 16 (.cons (.pl 0) (.cons (.pl 1) (.cons (.pl 2) (.cons (.pl 11) (.cons (.pl 8) .nil))))))) (.cons (.asg (.nm 10) (.call 14 (.cons (.pl 0) (.cons (.pl 1) (.cons (.pl 2) .nil))))) (.cons (.sto 2 (.tk 10) (.getf 1 (Str.ofString "told") 8)) (.cons (.ret (.tup (.cons (.ks (Str.ofString "call")) (.cons (.tk 10) (.cons (.tk 4) (.cons (.tk 11) (.cons (.tk 8) (.cons (.tk 9) .nil)))))))) .nil)))))))))))))⟩
def F_law_field : Fn := ⟨(Str.ofString "_law_field"), 3, [(Str.ofString "_law_hand_here"), (Str.ofString "_law_world_here"), (Str.ofString "_law_env"), (Str.ofString "_law_field_here"), (Str.ofString "_law_z"), (Str.ofString "_law_x"), (Str.ofString "_law_y")], (.cons (.par 5 6 (.call 13 (.cons (.pl 0) (.cons (.pl 1) (.cons (.pl 2) .nil)))) (.call 13 (.cons (.pl 0) (.cons (.pl 1) (.cons (.pl 2) .nil))))) (.cons (.asg (.nm 3) (.call 7 (.cons (.pl 0) (.cons (.sub (.pl 1) (.ks (Str.ofString "fields"))) .nil)))) (.cons (.ifs (.cmp .eq (.call 6 (.cons (.pl 0) (.cons (.ki 2) .nil))) (.ki 0)) (.cons (.stf 1 (Str.ofString "held") (.tk 3) (.mt .get (.pl 2) (.cons (.tk 6) .nil))) (.cons (.ret (.tup (.cons (.ks (Str.ofString "put")) (.cons (.tk 5) (.cons (.tk 3) (.cons (.tk 6) .nil)))))) .nil)) .nil) (.cons (.asg (.nm 4) (.call 14 (.cons (.pl 0) (.cons (.pl 1) (.cons (.pl 2) .nil))))) (.cons (.sto 2 (.tk 4) (.getf 1 (Str.ofString "held") 3)) (.cons (.ret (.tup (.cons (.ks (Str.ofString "take")) (.cons (.tk 4) (.cons (.tk 6) (.cons (.tk 3) .nil)))))) .nil))))))⟩
def F_law_row : Fn := ⟨(Str.ofString "_law_row"), 5, [(Str.ofString "_law_hand_here"), (Str.ofString "_law_world_here"), (Str.ofString "_law_env"), (Str.ofString "_law_level"), (Str.ofString "_law_deep"), (Str.ofString "_law_way"), (Str.ofString "_law_y"), (Str.ofString "_law_x"), (Str.ofString "_law_lots"), (Str.ofString "_law_k")], (.cons (.asg (.nm 5) (.call 6 (.cons (.pl 0) (.cons (.ki 14) .nil)))) (.cons (.ifs (.cmp .lt (.pl 5) (.ki 3)) (.cons (.ret (.call 15 (.cons (.pl 0) (.cons (.pl 1) (.cons (.pl 2) .nil))))) .nil) .nil) (.cons (.ifs (.cmp .eq (.pl 5) (.ki 3)) (.cons (.asg (.nm 6) (.call 13 (.cons (.pl 0) (.cons (.pl 1) (.cons (.pl 2) .nil))))) (.cons (.asg (.nm 7) (.call 14 (.cons (.pl 0) (.cons (.pl 1) (.cons (.pl 2) .nil))))) (.cons (.sto 2 (.tk 7) (.mt .get (.pl 2) (.cons (.tk 6) .nil))) (.cons (.ret (.tup (.cons (.ks (Str.ofString "copy")) (.cons (.tk 7) (.cons (.tk 6) .nil))))) .nil)))) .nil) (.cons (.ifs (.cmp .lt (.pl 5) (.ki 6)) (.cons (.ret (.call 18 (.cons (.pl 0) (.cons (.pl 1) (.cons (.pl 2) .nil))))) .nil) .nil) (.cons (.ifs (.ban (.cmp .eq (.pl 5) (.ki 7)) (.cmp .ne (.sub (.pl 1) (.ks (Str.ofString "late"))) (.lst .nil))) (.cons (.ret (.tup (.cons (.ks (Str.ofString "bring")) (.cons (.call 7 (.cons (.pl 0) (.cons (.sub (.pl 1) (.ks (Str.ofString "late"))) .nil))) .nil)))) .nil) .nil) (.cons (.ifs (.bor (.cmp .eq (.pl 5) (.ki 6)) (.cmp .eq (.pl 5) (.ki 7))) (.cons (.ret (.tup (.cons (.ks (Str.ofString "say")) (.cons (.call 7 (.cons (.pl 0) (.cons (.sub (.pl 1) (.ks (Str.ofString "fields"))) .nil))) .nil)))) .nil) .nil) (.cons (.ifs (.ban (.cmp .lt (.pl 5) (.ki 10)) (.ban (.cmp .gt (.pl 4) (.ki 0)) (.cmp .gt (.sub (.pl 0) (.ki 3)) (.ki 2)))) (.cons (.asg (.nm 8) (.comp [9] (.nm 9) (.rg (.cons (.bin .sub (.ki 10) (.pl 5)) .nil)) .nil (.call 20 (.cons (.pl 0) (.cons (.pl 1) (.cons (.pl 2) (.cons (.pl 3) (.cons (.bin .sub (.pl 4) (.ki 1)) (.cons (.ki 3) .nil))))))))) (.cons (.ret (.bin .add (.tup (.cons (.sub (.lst (.cons (.ks (Str.ofString "again")) (.cons (.ks (Str.ofString "either")) .nil))) (.bin .sub (.bi .len (.cons (.pl 8) .nil)) (.ki 1))) .nil)) (.bi .tup (.cons (.pl 8) .nil)))) .nil)) .nil) (.cons (.ret (.call 17 (.cons (.pl 0) (.cons (.pl 1) (.cons (.pl 2) (.cons (.pl 3) .nil)))))) .nil))))))))⟩
def F_law_rows : Fn := ⟨(Str.ofString "_law_rows"), 6, [(Str.ofString "_law_hand_here"), (Str.ofString "_law_world_here"), (Str.ofString "_law_env"), (Str.ofString "_law_level"), (Str.ofString "_law_deep"), (Str.ofString "_law_most"), (Str.ofString "_law_rows_here"), (Str.ofString "_law_k")], (.cons (.asg (.nm 6) (.lst .nil)) (.cons (.fr (.nm 7) (.rg (.cons (.call 6 (.cons (.pl 0) (.cons (.bin .add (.pl 5) (.ki 1)) .nil))) .nil)) (.cons (.ifs (.cmp .gt (.sub (.pl 0) (.ki 3)) (.ki 0)) (.cons (.sto 0 (.ki 3) (.bin .sub (.sub (.pl 0) (.ki 3)) (.ki 1))) (.cons (.app 6 (.call 19 (.cons (.pl 0) (.cons (.pl 1) (.cons (.pl 2) (.cons (.pl 3) (.cons (.pl 4) .nil))))))) .nil)) .nil) .nil)) (.cons (.ret (.bi .tup (.cons (.pl 6) .nil))) .nil)))⟩
def F_law_deed : Fn := ⟨(Str.ofString "_law_deed"), 4, [(Str.ofString "_law_hand_here"), (Str.ofString "_law_world_here"), (Str.ofString "_law_kind"), (Str.ofString "_law_level"), (Str.ofString "_law_deed_here"), (Str.ofString "_law_pool"), (Str.ofString "_law_wanted"), (Str.ofString "_law_params"), (Str.ofString "_law_env"), (Str.ofString "_law_rows_here"), (Str.ofString "_law_gives"), (Str.ofString "_law_want")], (.cons (.asg (.nm 4) (.sub (.sub (.pl 1) (.ks (Str.ofString "deeds"))) (.tk 3))) (.cons (.asg (.nm 5) (.bin .add (.sub (.pl 1) (.ks (Str.ofString "params"))) (.slc (.sub (.pl 1) (.ks (Str.ofString "vars"))) .no (.ki 2)))) (.cons (.asg (.nm 6) (.sub (.sub (.pl 1) (.ks (Str.ofString "wants"))) (.tup (.cons (.sub (.sub (.pl 1) (.ks (Str.ofString "roots"))) (.tk 2)) (.cons (.tk 4) .nil))))) (.cons (.asg (.nm 7) (.comp [11] (.nm 11) (.lk 6) .nil (.pop 5 (.cons (.call 6 (.cons (.pl 0) (.cons (.bi .len (.cons (.pl 5) .nil)) .nil))) .nil)))) (.cons (.asg (.nm 8) (.bi .dict (.cons (.bin .add (.lst (.cons (.tup (.cons (.ks (Str.ofString "own")) (.cons (.tk 2) .nil))) .nil)) (.bi .listZip (.cons (.pl 7) (.cons (.pl 6) .nil)))) .nil))) (.cons (.asg (.nm 9) (.call 20 (.cons (.pl 0) (.cons (.pl 1) (.cons (.pl 8) (.cons (.pl 3) (.cons (.call 6 (.cons (.pl 0) (.cons (.ki 3) .nil))) (.cons (.call 7 (.cons (.pl 0) (.cons (.lst (.cons (.ki 1) (.cons (.ki 2) (.cons (.ki 3) (.cons (.ki 4) (.cons (.ki 6) .nil)))))) .nil))) .nil)))))))) (.cons (.asg (.nm 10) (.call 7 (.cons (.pl 0) (.cons (.lst (.cons .kn (.cons (.call 13 (.cons (.pl 0) (.cons (.pl 1) (.cons (.pl 8) .nil)))) (.cons (.call 13 (.cons (.pl 0) (.cons (.pl 1) (.cons (.pl 8) .nil)))) .nil)))) .nil)))) (.cons (.stf 1 (Str.ofString "told") (.tk 4) (.mt .get (.pl 8) (.cons (.tk 10) .nil))) (.cons (.ret (.tup (.cons (.tk 4) (.cons (.bi .tup (.cons (.pl 7) .nil)) (.cons (.tk 9) (.cons (.tk 10) .nil)))))) .nil)))))))))⟩
def F_law_program : Fn := ⟨(Str.ofString "_law_program"), 2, [(Str.ofString "_law_hand_here"), (Str.ofString "_law_most"), (Str.ofString "_law_world_here"), (Str.ofString "_law_by_kind"), (Str.ofString "_law_level"), (Str.ofString "_law_main"), (Str.ofString "_law_kinds"), (Str.ofString "_law_kind"), (Str.ofString "_law_name"), (Str.ofString "_law_elder")], (.cons (.asg (.nm 2) (.call 10 (.cons (.pl 0) .nil))) (.cons (.asg (.nm 3) (.dnw 2)) (.cons (.sto 0 (.ki 3) (.bin .sub (.pl 1) (.bin .div (.pl 1) (.ki 3)))) (.cons (.fr (.nm 4) (.rg (.cons (.bin .sub (.bi .len (.cons (.sub (.pl 2) (.ks (Str.ofString "deeds"))) .nil)) (.ki 1)) (.cons (.neg (.ki 1)) (.cons (.neg (.ki 1)) .nil)))) (.cons (.fr (.nm 7) (.of (.sub (.sub (.pl 2) (.ks (Str.ofString "owners"))) (.sub (.sub (.pl 2) (.ks (Str.ofString "deeds"))) (.tk 4)))) (.cons (.sda 3 (.tk 7) (.call 21 (.cons (.pl 0) (.cons (.pl 2) (.cons (.pl 7) (.cons (.pl 4) .nil)))))) .nil)) .nil)) (.cons (.sto 0 (.ki 3) (.bin .add (.sub (.pl 0) (.ki 3)) (.bin .div (.pl 1) (.ki 3)))) (.cons (.asg (.nm 5) (.call 20 (.cons (.pl 0) (.cons (.pl 2) (.cons (.dnw 0) (.cons (.neg (.ki 1)) (.cons (.call 6 (.cons (.pl 0) (.cons (.ki 5) .nil))) (.cons (.call 7 (.cons (.pl 0) (.cons (.lst (.cons (.ki 4) (.cons (.ki 8) (.cons (.ki 12) (.cons (.ki 20) .nil))))) .nil))) .nil)))))))) (.cons (.asg (.nm 6) (.comp [8, 9] (.tp [(.nm 8), (.nm 9)]) (.of (.sub (.pl 2) (.ks (Str.ofString "tree")))) .nil (.tup (.cons (.tk 8) (.cons (.tk 9) (.cons (.bi .tup (.cons (.rev (.getn 3 (.tk 8))) .nil)) .nil)))))) (.cons (.ret (.tup (.cons (.bi .tup (.cons (.pl 6) .nil)) (.cons (.bi .tup (.cons (.bi .sorted (.cons (.sub (.pl 2) (.ks (Str.ofString "late"))) .nil)) .nil)) (.cons (.tk 5) .nil))))) .nil))))))))⟩
def F_law_same : Fn := ⟨(Str.ofString "_law_same"), 2, [(Str.ofString "_law_found"), (Str.ofString "_law_due_here"), (Str.ofString "_law_one"), (Str.ofString "_law_other")], (.cons (.ifs (.bi .isTup (.cons (.pl 1) .nil)) (.cons (.ret (.ban (.bi .isTup (.cons (.pl 0) .nil)) (.ban (.cmp .eq (.bi .len (.cons (.pl 0) .nil)) (.bi .len (.cons (.pl 1) .nil))) (.bi .all (.cons (.comp [2, 3] (.tp [(.nm 2), (.nm 3)]) (.zp (.tk 0) (.tk 1)) .nil (.call 23 (.cons (.pl 2) (.cons (.pl 3) .nil)))) .nil))))) .nil) .nil) (.cons (.ifs (.cmp .isN (.pl 1) .kn) (.cons (.ret (.cmp .isN (.pl 0) .kn)) .nil) .nil) (.cons (.ifs (.bi .isBool (.cons (.pl 1) .nil)) (.cons (.ret (.ban (.bi .isBool (.cons (.pl 0) .nil)) (.cmp .eq (.pl 0) (.pl 1)))) .nil) .nil) (.cons (.ifs (.bi .isStr (.cons (.pl 1) .nil)) (.cons (.ret (.ban (.bi .isStr (.cons (.pl 0) .nil)) (.cmp .eq (.pl 0) (.pl 1)))) .nil) .nil) (.cons (.ret (.ban (.bi .isInt (.cons (.pl 0) .nil)) (.ban (.nt (.bi .isBool (.cons (.pl 0) .nil))) (.cmp .eq (.pl 0) (.pl 1))))) .nil)))))⟩
def F_law_due : Fn := ⟨(Str.ofString "_law_due"), 2, [(Str.ofString "_law_program_here"), (Str.ofString "_law_deed_here"), (Str.ofString "_law_found"), (Str.ofString "_law_name"), (Str.ofString "_law_elder"), (Str.ofString "_law_deeds"), (Str.ofString "_law_one")], (.cons (.asg (.nm 2) (.dr .kn (.tup (.cons .kn (.cons (.ki 0) .nil))))) (.cons (.fr (.tp [(.nm 3), (.nm 4), (.nm 5)]) (.of (.sub (.pl 0) (.ki 0))) (.cons (.ifs (.cmp .inn (.pl 1) (.comp [6] (.nm 6) (.lk 5) .nil (.sub (.pl 6) (.ki 0)))) (.cons (.stn 2 (.tk 3) (.tup (.cons (.tk 3) (.cons (.ki 1) .nil)))) .nil) (.cons (.stn 2 (.tk 3) (.tup (.cons (.sub (.sub (.pl 2) (.tk 4)) (.ki 0)) (.cons (.bin .add (.sub (.sub (.pl 2) (.tk 4)) (.ki 1)) (.ki 1)) .nil)))) .nil)) .nil)) (.cons (.ret (.mv 2)) .nil)))⟩
def F_law : Fn := ⟨(Str.ofString "law"), 1, [(Str.ofString "_law_script"), (Str.ofString "_law_k"), (Str.ofString "_law_program_here"), (Str.ofString "_law_words_here"), (Str.ofString "_law_deed_here"), (Str.ofString "_law_name"), (Str.ofString "_law_elder"), (Str.ofString "_law_deeds"), (Str.ofString "_law_due_here"), (Str.ofString "_law_one")], (.cons (.fr (.nm 1) (.rg (.cons (.bi .max2 (.cons (.ki 1) (.cons (.bi .min2 (.cons (.bi .len (.cons (.pl 0) .nil)) (.cons (.ki 9) .nil))) .nil))) .nil)) (.cons (.asg (.nm 2) (.call 22 (.cons (.call 5 (.cons (.pl 0) (.cons (.pl 1) .nil))) (.cons (.ki 40) .nil)))) (.cons (.asg (.nm 3) (.lst (.cons (.ks (Str.ofString "none")) (.cons (.ks (Str.ofString "zz")) .nil)))) (.cons (.fr (.tp [(.nm 5), (.nm 6), (.nm 7)]) (.of (.sub (.pl 2) (.ki 0))) (.cons (.ext 3 (.comp [9] (.nm 9) (.lk 7) .nil (.sub (.pl 9) (.ki 0)))) .nil)) (.cons (.fr (.nm 4) (.lk 3) (.cons (.asg (.nm 8) (.call 24 (.cons (.pl 2) (.cons (.pl 4) .nil)))) (.cons (.fr (.tp [(.nm 5), (.nm 6), (.nm 7)]) (.of (.sub (.pl 2) (.ki 0))) (.cons (.ifs (.nt (.call 23 (.cons (.call 3 (.cons (.pl 2) (.cons (.pl 5) (.cons (.pl 4) .nil)))) (.cons (.sub (.sub (.pl 8) (.tk 5)) (.ki 0)) .nil)))) (.cons (.ret (.kb false)) .nil) .nil) (.cons (.ifs (.nt (.call 23 (.cons (.call 4 (.cons (.pl 2) (.cons (.pl 5) (.cons (.pl 4) .nil)))) (.cons (.sub (.sub (.pl 8) (.tk 5)) (.ki 1)) .nil)))) (.cons (.ret (.kb false)) .nil) .nil) .nil))) .nil))) .nil))))) (.cons (.ret (.kb true)) .nil))⟩
def T : Tab := ⟨[F_kind_row, F_line_up, F_deed_row, F_answer, F_asked, F_law_hand, F_law_take, F_law_of, F_law_words, F_law_tree, F_law_world, F_law_line, F_law_has, F_law_variable, F_law_target, F_law_make, F_law_args, F_law_call, F_law_field, F_law_row, F_law_rows, F_law_deed, F_law_program, F_law_same, F_law_due, F_law], []⟩
def top (i : Nat) : Stmt := PySem.Challenge.pw_surecall_k02_answers.main.body.getD i (.Pass ⟨0, 0, 0, 0⟩)
def dOf (x : String) (i : Nat) : He.DefD := ⟨(Str.ofString x, none), Str.ofString x, Str.ofString x, defArgs (top i), defBody (top i), defScope (top i), [], []⟩
def fn : List He.DefD := [dOf "kind_row" 1, dOf "line_up" 2, dOf "deed_row" 3, dOf "answer" 4, dOf "asked" 5, dOf "_law_hand" 7, dOf "_law_take" 8, dOf "_law_of" 9, dOf "_law_words" 10, dOf "_law_tree" 11, dOf "_law_world" 12, dOf "_law_line" 13, dOf "_law_has" 14, dOf "_law_variable" 15, dOf "_law_target" 16, dOf "_law_make" 17, dOf "_law_args" 18, dOf "_law_call" 19, dOf "_law_field" 20, dOf "_law_row" 21, dOf "_law_rows" 22, dOf "_law_deed" 23, dOf "_law_program" 24, dOf "_law_same" 25, dOf "_law_due" 26, dOf "law" 27]
def fa : List He.Fa := [.glo (Str.ofString "kind_row"), .glo (Str.ofString "line_up"), .glo (Str.ofString "deed_row"), .glo (Str.ofString "answer"), .glo (Str.ofString "asked"), .glo (Str.ofString "_law_hand"), .glo (Str.ofString "_law_take"), .glo (Str.ofString "_law_of"), .glo (Str.ofString "_law_words"), .glo (Str.ofString "_law_tree"), .glo (Str.ofString "_law_world"), .glo (Str.ofString "_law_line"), .glo (Str.ofString "_law_has"), .glo (Str.ofString "_law_variable"), .glo (Str.ofString "_law_target"), .glo (Str.ofString "_law_make"), .glo (Str.ofString "_law_args"), .glo (Str.ofString "_law_call"), .glo (Str.ofString "_law_field"), .glo (Str.ofString "_law_row"), .glo (Str.ofString "_law_rows"), .glo (Str.ofString "_law_deed"), .glo (Str.ofString "_law_program"), .glo (Str.ofString "_law_same"), .glo (Str.ofString "_law_due"), .glo (Str.ofString "law"), .free (Str.ofString "len"), .free (Str.ofString "tuple"), .free (Str.ofString "list"), .free (Str.ofString "dict"), .free (Str.ofString "int"), .free (Str.ofString "sorted"), .free (Str.ofString "all"), .free (Str.ofString "any"), .free (Str.ofString "sum"), .free (Str.ofString "abs"), .free (Str.ofString "max"), .free (Str.ofString "min"), .free (Str.ofString "isinstance"), .free (Str.ofString "range"), .free (Str.ofString "enumerate"), .free (Str.ofString "zip"), .free (Str.ofString "set"), .free (Str.ofString "str"), .free (Str.ofString "bool")]
abbrev Rw : PySem.W.OpenRow := PySem.W.OpenLaw.row PySem.Challenge.rw_surecall_k02_answers
def tb : List (Str × P) := T.gs
abbrev hk : PySem.W.Hook := hookP 4 fa fn tb
def ob (s : PySem.W.SharedT) : AlP := obsPG 4 fa fn tb (HandSHeadRun.getT s)
theorem ob_eq (s : PySem.W.SharedT) : ob s = hk.obs s.abs := obsPG_eq (HandSHeadRun.getT_eq s)
theorem run (w : World) : HandSHeadRun.RunEq Rw (PySem.W.view Rw.prog [27]) hk ob 4000 [(Str.ofString "kind_row"), (Str.ofString "line_up"), (Str.ofString "deed_row"), (Str.ofString "answer"), (Str.ofString "asked"), (Str.ofString "_law_hand"), (Str.ofString "_law_take"), (Str.ofString "_law_of"), (Str.ofString "_law_words"), (Str.ofString "_law_tree"), (Str.ofString "_law_world"), (Str.ofString "_law_line"), (Str.ofString "_law_has"), (Str.ofString "_law_variable"), (Str.ofString "_law_target"), (Str.ofString "_law_make"), (Str.ofString "_law_args"), (Str.ofString "_law_call"), (Str.ofString "_law_field"), (Str.ofString "_law_row"), (Str.ofString "_law_rows"), (Str.ofString "_law_deed"), (Str.ofString "_law_program"), (Str.ofString "_law_same"), (Str.ofString "_law_due")] w := by
  intro os
  kernel_rfl
theorem ck0 : (decide (chkSL T F_kind_row.N (defScope (top 1)) F_kind_row.body (defBody (top 1)) = true)) = true := by decide +kernel
theorem sc0 : FnScope F_kind_row.N (F_kind_row.N.take F_kind_row.np) (defScope (top 1)) := ⟨by decide +kernel, by decide +kernel, by decide +kernel, by decide +kernel, by decide +kernel, by decide +kernel, by decide +kernel⟩
theorem df0 {K : PySem.W.Frag} {h : Heap} {mg : Str → Option Value} (X : K.In h) (G : h.Ns mainGlobals mg) (c : SaysP fa fn tb K) : ∃ a fd params body scope, mg F_kind_row.name = some (.ref a) ∧ FunD K F_kind_row.name F_kind_row.name params body scope [] [] a fd ∧ Binds K fd (F_kind_row.N.take F_kind_row.np) [] ∧ DefOk T F_kind_row params body scope := by
  obtain ⟨fd, FF⟩ := c.def_ 0 (d := dOf "kind_row" 1) rfl
  exact ⟨_, fd, _, _, _, He.glo_ok X G (c.fact 0 (f := .glo (Str.ofString "kind_row")) rfl), FF, FF.bindsN (fun _ _ _ _ _ _ us hl => match us, hl with | [_, _], _ => rfl), ⟨sc0, by decide, of_decide_eq_true ck0⟩⟩
theorem ck1 : (decide (chkSL T F_line_up.N (defScope (top 2)) F_line_up.body (defBody (top 2)) = true)) = true := by decide +kernel
theorem sc1 : FnScope F_line_up.N (F_line_up.N.take F_line_up.np) (defScope (top 2)) := ⟨by decide +kernel, by decide +kernel, by decide +kernel, by decide +kernel, by decide +kernel, by decide +kernel, by decide +kernel⟩
theorem df1 {K : PySem.W.Frag} {h : Heap} {mg : Str → Option Value} (X : K.In h) (G : h.Ns mainGlobals mg) (c : SaysP fa fn tb K) : ∃ a fd params body scope, mg F_line_up.name = some (.ref a) ∧ FunD K F_line_up.name F_line_up.name params body scope [] [] a fd ∧ Binds K fd (F_line_up.N.take F_line_up.np) [] ∧ DefOk T F_line_up params body scope := by
  obtain ⟨fd, FF⟩ := c.def_ 1 (d := dOf "line_up" 2) rfl
  exact ⟨_, fd, _, _, _, He.glo_ok X G (c.fact 1 (f := .glo (Str.ofString "line_up")) rfl), FF, FF.bindsN (fun _ _ _ _ _ _ us hl => match us, hl with | [_, _], _ => rfl), ⟨sc1, by decide, of_decide_eq_true ck1⟩⟩
theorem ck2 : (decide (chkSL T F_deed_row.N (defScope (top 3)) F_deed_row.body (defBody (top 3)) = true)) = true := by decide +kernel
theorem sc2 : FnScope F_deed_row.N (F_deed_row.N.take F_deed_row.np) (defScope (top 3)) := ⟨by decide +kernel, by decide +kernel, by decide +kernel, by decide +kernel, by decide +kernel, by decide +kernel, by decide +kernel⟩
theorem df2 {K : PySem.W.Frag} {h : Heap} {mg : Str → Option Value} (X : K.In h) (G : h.Ns mainGlobals mg) (c : SaysP fa fn tb K) : ∃ a fd params body scope, mg F_deed_row.name = some (.ref a) ∧ FunD K F_deed_row.name F_deed_row.name params body scope [] [] a fd ∧ Binds K fd (F_deed_row.N.take F_deed_row.np) [] ∧ DefOk T F_deed_row params body scope := by
  obtain ⟨fd, FF⟩ := c.def_ 2 (d := dOf "deed_row" 3) rfl
  exact ⟨_, fd, _, _, _, He.glo_ok X G (c.fact 2 (f := .glo (Str.ofString "deed_row")) rfl), FF, FF.bindsN (fun _ _ _ _ _ _ us hl => match us, hl with | [_, _, _], _ => rfl), ⟨sc2, by decide, of_decide_eq_true ck2⟩⟩
theorem ck3 : (decide (chkSL T F_answer.N (defScope (top 4)) F_answer.body (defBody (top 4)) = true)) = true := by decide +kernel
theorem sc3 : FnScope F_answer.N (F_answer.N.take F_answer.np) (defScope (top 4)) := ⟨by decide +kernel, by decide +kernel, by decide +kernel, by decide +kernel, by decide +kernel, by decide +kernel, by decide +kernel⟩
theorem df3 {K : PySem.W.Frag} {h : Heap} {mg : Str → Option Value} (X : K.In h) (G : h.Ns mainGlobals mg) (c : SaysP fa fn tb K) : ∃ a fd params body scope, mg F_answer.name = some (.ref a) ∧ FunD K F_answer.name F_answer.name params body scope [] [] a fd ∧ Binds K fd (F_answer.N.take F_answer.np) [] ∧ DefOk T F_answer params body scope := by
  obtain ⟨fd, FF⟩ := c.def_ 3 (d := dOf "answer" 4) rfl
  exact ⟨_, fd, _, _, _, He.glo_ok X G (c.fact 3 (f := .glo (Str.ofString "answer")) rfl), FF, FF.bindsN (fun _ _ _ _ _ _ us hl => match us, hl with | [_, _, _], _ => rfl), ⟨sc3, by decide, of_decide_eq_true ck3⟩⟩
theorem ck4 : (decide (chkSL T F_asked.N (defScope (top 5)) F_asked.body (defBody (top 5)) = true)) = true := by decide +kernel
theorem sc4 : FnScope F_asked.N (F_asked.N.take F_asked.np) (defScope (top 5)) := ⟨by decide +kernel, by decide +kernel, by decide +kernel, by decide +kernel, by decide +kernel, by decide +kernel, by decide +kernel⟩
theorem df4 {K : PySem.W.Frag} {h : Heap} {mg : Str → Option Value} (X : K.In h) (G : h.Ns mainGlobals mg) (c : SaysP fa fn tb K) : ∃ a fd params body scope, mg F_asked.name = some (.ref a) ∧ FunD K F_asked.name F_asked.name params body scope [] [] a fd ∧ Binds K fd (F_asked.N.take F_asked.np) [] ∧ DefOk T F_asked params body scope := by
  obtain ⟨fd, FF⟩ := c.def_ 4 (d := dOf "asked" 5) rfl
  exact ⟨_, fd, _, _, _, He.glo_ok X G (c.fact 4 (f := .glo (Str.ofString "asked")) rfl), FF, FF.bindsN (fun _ _ _ _ _ _ us hl => match us, hl with | [_, _, _], _ => rfl), ⟨sc4, by decide, of_decide_eq_true ck4⟩⟩
theorem ck5 : (decide (chkSL T F_law_hand.N (defScope (top 7)) F_law_hand.body (defBody (top 7)) = true)) = true := by decide +kernel
theorem sc5 : FnScope F_law_hand.N (F_law_hand.N.take F_law_hand.np) (defScope (top 7)) := ⟨by decide +kernel, by decide +kernel, by decide +kernel, by decide +kernel, by decide +kernel, by decide +kernel, by decide +kernel⟩
theorem df5 {K : PySem.W.Frag} {h : Heap} {mg : Str → Option Value} (X : K.In h) (G : h.Ns mainGlobals mg) (c : SaysP fa fn tb K) : ∃ a fd params body scope, mg F_law_hand.name = some (.ref a) ∧ FunD K F_law_hand.name F_law_hand.name params body scope [] [] a fd ∧ Binds K fd (F_law_hand.N.take F_law_hand.np) [] ∧ DefOk T F_law_hand params body scope := by
  obtain ⟨fd, FF⟩ := c.def_ 5 (d := dOf "_law_hand" 7) rfl
  exact ⟨_, fd, _, _, _, He.glo_ok X G (c.fact 5 (f := .glo (Str.ofString "_law_hand")) rfl), FF, FF.bindsN (fun _ _ _ _ _ _ us hl => match us, hl with | [_, _], _ => rfl), ⟨sc5, by decide, of_decide_eq_true ck5⟩⟩
theorem ck6 : (decide (chkSL T F_law_take.N (defScope (top 8)) F_law_take.body (defBody (top 8)) = true)) = true := by decide +kernel
theorem sc6 : FnScope F_law_take.N (F_law_take.N.take F_law_take.np) (defScope (top 8)) := ⟨by decide +kernel, by decide +kernel, by decide +kernel, by decide +kernel, by decide +kernel, by decide +kernel, by decide +kernel⟩
theorem df6 {K : PySem.W.Frag} {h : Heap} {mg : Str → Option Value} (X : K.In h) (G : h.Ns mainGlobals mg) (c : SaysP fa fn tb K) : ∃ a fd params body scope, mg F_law_take.name = some (.ref a) ∧ FunD K F_law_take.name F_law_take.name params body scope [] [] a fd ∧ Binds K fd (F_law_take.N.take F_law_take.np) [] ∧ DefOk T F_law_take params body scope := by
  obtain ⟨fd, FF⟩ := c.def_ 6 (d := dOf "_law_take" 8) rfl
  exact ⟨_, fd, _, _, _, He.glo_ok X G (c.fact 6 (f := .glo (Str.ofString "_law_take")) rfl), FF, FF.bindsN (fun _ _ _ _ _ _ us hl => match us, hl with | [_, _], _ => rfl), ⟨sc6, by decide, of_decide_eq_true ck6⟩⟩
theorem ck7 : (decide (chkSL T F_law_of.N (defScope (top 9)) F_law_of.body (defBody (top 9)) = true)) = true := by decide +kernel
theorem sc7 : FnScope F_law_of.N (F_law_of.N.take F_law_of.np) (defScope (top 9)) := ⟨by decide +kernel, by decide +kernel, by decide +kernel, by decide +kernel, by decide +kernel, by decide +kernel, by decide +kernel⟩
theorem df7 {K : PySem.W.Frag} {h : Heap} {mg : Str → Option Value} (X : K.In h) (G : h.Ns mainGlobals mg) (c : SaysP fa fn tb K) : ∃ a fd params body scope, mg F_law_of.name = some (.ref a) ∧ FunD K F_law_of.name F_law_of.name params body scope [] [] a fd ∧ Binds K fd (F_law_of.N.take F_law_of.np) [] ∧ DefOk T F_law_of params body scope := by
  obtain ⟨fd, FF⟩ := c.def_ 7 (d := dOf "_law_of" 9) rfl
  exact ⟨_, fd, _, _, _, He.glo_ok X G (c.fact 7 (f := .glo (Str.ofString "_law_of")) rfl), FF, FF.bindsN (fun _ _ _ _ _ _ us hl => match us, hl with | [_, _], _ => rfl), ⟨sc7, by decide, of_decide_eq_true ck7⟩⟩
theorem ck8 : (decide (chkSL T F_law_words.N (defScope (top 10)) F_law_words.body (defBody (top 10)) = true)) = true := by decide +kernel
theorem sc8 : FnScope F_law_words.N (F_law_words.N.take F_law_words.np) (defScope (top 10)) := ⟨by decide +kernel, by decide +kernel, by decide +kernel, by decide +kernel, by decide +kernel, by decide +kernel, by decide +kernel⟩
theorem df8 {K : PySem.W.Frag} {h : Heap} {mg : Str → Option Value} (X : K.In h) (G : h.Ns mainGlobals mg) (c : SaysP fa fn tb K) : ∃ a fd params body scope, mg F_law_words.name = some (.ref a) ∧ FunD K F_law_words.name F_law_words.name params body scope [] [] a fd ∧ Binds K fd (F_law_words.N.take F_law_words.np) [] ∧ DefOk T F_law_words params body scope := by
  obtain ⟨fd, FF⟩ := c.def_ 8 (d := dOf "_law_words" 10) rfl
  exact ⟨_, fd, _, _, _, He.glo_ok X G (c.fact 8 (f := .glo (Str.ofString "_law_words")) rfl), FF, FF.bindsN (fun _ _ _ _ _ _ us hl => match us, hl with | [_, _], _ => rfl), ⟨sc8, by decide, of_decide_eq_true ck8⟩⟩
theorem ck9 : (decide (chkSL T F_law_tree.N (defScope (top 11)) F_law_tree.body (defBody (top 11)) = true)) = true := by decide +kernel
theorem sc9 : FnScope F_law_tree.N (F_law_tree.N.take F_law_tree.np) (defScope (top 11)) := ⟨by decide +kernel, by decide +kernel, by decide +kernel, by decide +kernel, by decide +kernel, by decide +kernel, by decide +kernel⟩
theorem df9 {K : PySem.W.Frag} {h : Heap} {mg : Str → Option Value} (X : K.In h) (G : h.Ns mainGlobals mg) (c : SaysP fa fn tb K) : ∃ a fd params body scope, mg F_law_tree.name = some (.ref a) ∧ FunD K F_law_tree.name F_law_tree.name params body scope [] [] a fd ∧ Binds K fd (F_law_tree.N.take F_law_tree.np) [] ∧ DefOk T F_law_tree params body scope := by
  obtain ⟨fd, FF⟩ := c.def_ 9 (d := dOf "_law_tree" 11) rfl
  exact ⟨_, fd, _, _, _, He.glo_ok X G (c.fact 9 (f := .glo (Str.ofString "_law_tree")) rfl), FF, FF.bindsN (fun _ _ _ _ _ _ us hl => match us, hl with | [_], _ => rfl), ⟨sc9, by decide, of_decide_eq_true ck9⟩⟩
theorem ck10 : (decide (chkSL T F_law_world.N (defScope (top 12)) F_law_world.body (defBody (top 12)) = true)) = true := by decide +kernel
theorem sc10 : FnScope F_law_world.N (F_law_world.N.take F_law_world.np) (defScope (top 12)) := ⟨by decide +kernel, by decide +kernel, by decide +kernel, by decide +kernel, by decide +kernel, by decide +kernel, by decide +kernel⟩
theorem df10 {K : PySem.W.Frag} {h : Heap} {mg : Str → Option Value} (X : K.In h) (G : h.Ns mainGlobals mg) (c : SaysP fa fn tb K) : ∃ a fd params body scope, mg F_law_world.name = some (.ref a) ∧ FunD K F_law_world.name F_law_world.name params body scope [] [] a fd ∧ Binds K fd (F_law_world.N.take F_law_world.np) [] ∧ DefOk T F_law_world params body scope := by
  obtain ⟨fd, FF⟩ := c.def_ 10 (d := dOf "_law_world" 12) rfl
  exact ⟨_, fd, _, _, _, He.glo_ok X G (c.fact 10 (f := .glo (Str.ofString "_law_world")) rfl), FF, FF.bindsN (fun _ _ _ _ _ _ us hl => match us, hl with | [_], _ => rfl), ⟨sc10, by decide, of_decide_eq_true ck10⟩⟩
theorem ck11 : (decide (chkSL T F_law_line.N (defScope (top 13)) F_law_line.body (defBody (top 13)) = true)) = true := by decide +kernel
theorem sc11 : FnScope F_law_line.N (F_law_line.N.take F_law_line.np) (defScope (top 13)) := ⟨by decide +kernel, by decide +kernel, by decide +kernel, by decide +kernel, by decide +kernel, by decide +kernel, by decide +kernel⟩
theorem df11 {K : PySem.W.Frag} {h : Heap} {mg : Str → Option Value} (X : K.In h) (G : h.Ns mainGlobals mg) (c : SaysP fa fn tb K) : ∃ a fd params body scope, mg F_law_line.name = some (.ref a) ∧ FunD K F_law_line.name F_law_line.name params body scope [] [] a fd ∧ Binds K fd (F_law_line.N.take F_law_line.np) [] ∧ DefOk T F_law_line params body scope := by
  obtain ⟨fd, FF⟩ := c.def_ 11 (d := dOf "_law_line" 13) rfl
  exact ⟨_, fd, _, _, _, He.glo_ok X G (c.fact 11 (f := .glo (Str.ofString "_law_line")) rfl), FF, FF.bindsN (fun _ _ _ _ _ _ us hl => match us, hl with | [_, _], _ => rfl), ⟨sc11, by decide, of_decide_eq_true ck11⟩⟩
theorem ck12 : (decide (chkSL T F_law_has.N (defScope (top 14)) F_law_has.body (defBody (top 14)) = true)) = true := by decide +kernel
theorem sc12 : FnScope F_law_has.N (F_law_has.N.take F_law_has.np) (defScope (top 14)) := ⟨by decide +kernel, by decide +kernel, by decide +kernel, by decide +kernel, by decide +kernel, by decide +kernel, by decide +kernel⟩
theorem df12 {K : PySem.W.Frag} {h : Heap} {mg : Str → Option Value} (X : K.In h) (G : h.Ns mainGlobals mg) (c : SaysP fa fn tb K) : ∃ a fd params body scope, mg F_law_has.name = some (.ref a) ∧ FunD K F_law_has.name F_law_has.name params body scope [] [] a fd ∧ Binds K fd (F_law_has.N.take F_law_has.np) [] ∧ DefOk T F_law_has params body scope := by
  obtain ⟨fd, FF⟩ := c.def_ 12 (d := dOf "_law_has" 14) rfl
  exact ⟨_, fd, _, _, _, He.glo_ok X G (c.fact 12 (f := .glo (Str.ofString "_law_has")) rfl), FF, FF.bindsN (fun _ _ _ _ _ _ us hl => match us, hl with | [_, _, _], _ => rfl), ⟨sc12, by decide, of_decide_eq_true ck12⟩⟩
theorem ck13 : (decide (chkSL T F_law_variable.N (defScope (top 15)) F_law_variable.body (defBody (top 15)) = true)) = true := by decide +kernel
theorem sc13 : FnScope F_law_variable.N (F_law_variable.N.take F_law_variable.np) (defScope (top 15)) := ⟨by decide +kernel, by decide +kernel, by decide +kernel, by decide +kernel, by decide +kernel, by decide +kernel, by decide +kernel⟩
theorem df13 {K : PySem.W.Frag} {h : Heap} {mg : Str → Option Value} (X : K.In h) (G : h.Ns mainGlobals mg) (c : SaysP fa fn tb K) : ∃ a fd params body scope, mg F_law_variable.name = some (.ref a) ∧ FunD K F_law_variable.name F_law_variable.name params body scope [] [] a fd ∧ Binds K fd (F_law_variable.N.take F_law_variable.np) [] ∧ DefOk T F_law_variable params body scope := by
  obtain ⟨fd, FF⟩ := c.def_ 13 (d := dOf "_law_variable" 15) rfl
  exact ⟨_, fd, _, _, _, He.glo_ok X G (c.fact 13 (f := .glo (Str.ofString "_law_variable")) rfl), FF, FF.bindsN (fun _ _ _ _ _ _ us hl => match us, hl with | [_, _, _], _ => rfl), ⟨sc13, by decide, of_decide_eq_true ck13⟩⟩
theorem ck14 : (decide (chkSL T F_law_target.N (defScope (top 16)) F_law_target.body (defBody (top 16)) = true)) = true := by decide +kernel
theorem sc14 : FnScope F_law_target.N (F_law_target.N.take F_law_target.np) (defScope (top 16)) := ⟨by decide +kernel, by decide +kernel, by decide +kernel, by decide +kernel, by decide +kernel, by decide +kernel, by decide +kernel⟩
theorem df14 {K : PySem.W.Frag} {h : Heap} {mg : Str → Option Value} (X : K.In h) (G : h.Ns mainGlobals mg) (c : SaysP fa fn tb K) : ∃ a fd params body scope, mg F_law_target.name = some (.ref a) ∧ FunD K F_law_target.name F_law_target.name params body scope [] [] a fd ∧ Binds K fd (F_law_target.N.take F_law_target.np) [] ∧ DefOk T F_law_target params body scope := by
  obtain ⟨fd, FF⟩ := c.def_ 14 (d := dOf "_law_target" 16) rfl
  exact ⟨_, fd, _, _, _, He.glo_ok X G (c.fact 14 (f := .glo (Str.ofString "_law_target")) rfl), FF, FF.bindsN (fun _ _ _ _ _ _ us hl => match us, hl with | [_, _, _], _ => rfl), ⟨sc14, by decide, of_decide_eq_true ck14⟩⟩
theorem ck15 : (decide (chkSL T F_law_make.N (defScope (top 17)) F_law_make.body (defBody (top 17)) = true)) = true := by decide +kernel
theorem sc15 : FnScope F_law_make.N (F_law_make.N.take F_law_make.np) (defScope (top 17)) := ⟨by decide +kernel, by decide +kernel, by decide +kernel, by decide +kernel, by decide +kernel, by decide +kernel, by decide +kernel⟩
theorem df15 {K : PySem.W.Frag} {h : Heap} {mg : Str → Option Value} (X : K.In h) (G : h.Ns mainGlobals mg) (c : SaysP fa fn tb K) : ∃ a fd params body scope, mg F_law_make.name = some (.ref a) ∧ FunD K F_law_make.name F_law_make.name params body scope [] [] a fd ∧ Binds K fd (F_law_make.N.take F_law_make.np) [] ∧ DefOk T F_law_make params body scope := by
  obtain ⟨fd, FF⟩ := c.def_ 15 (d := dOf "_law_make" 17) rfl
  exact ⟨_, fd, _, _, _, He.glo_ok X G (c.fact 15 (f := .glo (Str.ofString "_law_make")) rfl), FF, FF.bindsN (fun _ _ _ _ _ _ us hl => match us, hl with | [_, _, _], _ => rfl), ⟨sc15, by decide, of_decide_eq_true ck15⟩⟩
theorem ck16 : (decide (chkSL T F_law_args.N (defScope (top 18)) F_law_args.body (defBody (top 18)) = true)) = true := by decide +kernel
theorem sc16 : FnScope F_law_args.N (F_law_args.N.take F_law_args.np) (defScope (top 18)) := ⟨by decide +kernel, by decide +kernel, by decide +kernel, by decide +kernel, by decide +kernel, by decide +kernel, by decide +kernel⟩
theorem df16 {K : PySem.W.Frag} {h : Heap} {mg : Str → Option Value} (X : K.In h) (G : h.Ns mainGlobals mg) (c : SaysP fa fn tb K) : ∃ a fd params body scope, mg F_law_args.name = some (.ref a) ∧ FunD K F_law_args.name F_law_args.name params body scope [] [] a fd ∧ Binds K fd (F_law_args.N.take F_law_args.np) [] ∧ DefOk T F_law_args params body scope := by
  obtain ⟨fd, FF⟩ := c.def_ 16 (d := dOf "_law_args" 18) rfl
  exact ⟨_, fd, _, _, _, He.glo_ok X G (c.fact 16 (f := .glo (Str.ofString "_law_args")) rfl), FF, FF.bindsN (fun _ _ _ _ _ _ us hl => match us, hl with | [_, _, _, _, _], _ => rfl), ⟨sc16, by decide, of_decide_eq_true ck16⟩⟩
theorem ck17 : (decide (chkSL T F_law_call.N (defScope (top 19)) F_law_call.body (defBody (top 19)) = true)) = true := by decide +kernel
theorem sc17 : FnScope F_law_call.N (F_law_call.N.take F_law_call.np) (defScope (top 19)) := ⟨by decide +kernel, by decide +kernel, by decide +kernel, by decide +kernel, by decide +kernel, by decide +kernel, by decide +kernel⟩
theorem df17 {K : PySem.W.Frag} {h : Heap} {mg : Str → Option Value} (X : K.In h) (G : h.Ns mainGlobals mg) (c : SaysP fa fn tb K) : ∃ a fd params body scope, mg F_law_call.name = some (.ref a) ∧ FunD K F_law_call.name F_law_call.name params body scope [] [] a fd ∧ Binds K fd (F_law_call.N.take F_law_call.np) [] ∧ DefOk T F_law_call params body scope := by
  obtain ⟨fd, FF⟩ := c.def_ 17 (d := dOf "_law_call" 19) rfl
  exact ⟨_, fd, _, _, _, He.glo_ok X G (c.fact 17 (f := .glo (Str.ofString "_law_call")) rfl), FF, FF.bindsN (fun _ _ _ _ _ _ us hl => match us, hl with | [_, _, _, _], _ => rfl), ⟨sc17, by decide, of_decide_eq_true ck17⟩⟩
theorem ck18 : (decide (chkSL T F_law_field.N (defScope (top 20)) F_law_field.body (defBody (top 20)) = true)) = true := by decide +kernel
theorem sc18 : FnScope F_law_field.N (F_law_field.N.take F_law_field.np) (defScope (top 20)) := ⟨by decide +kernel, by decide +kernel, by decide +kernel, by decide +kernel, by decide +kernel, by decide +kernel, by decide +kernel⟩
theorem df18 {K : PySem.W.Frag} {h : Heap} {mg : Str → Option Value} (X : K.In h) (G : h.Ns mainGlobals mg) (c : SaysP fa fn tb K) : ∃ a fd params body scope, mg F_law_field.name = some (.ref a) ∧ FunD K F_law_field.name F_law_field.name params body scope [] [] a fd ∧ Binds K fd (F_law_field.N.take F_law_field.np) [] ∧ DefOk T F_law_field params body scope := by
  obtain ⟨fd, FF⟩ := c.def_ 18 (d := dOf "_law_field" 20) rfl
  exact ⟨_, fd, _, _, _, He.glo_ok X G (c.fact 18 (f := .glo (Str.ofString "_law_field")) rfl), FF, FF.bindsN (fun _ _ _ _ _ _ us hl => match us, hl with | [_, _, _], _ => rfl), ⟨sc18, by decide, of_decide_eq_true ck18⟩⟩
theorem ck19 : (decide (chkSL T F_law_row.N (defScope (top 21)) F_law_row.body (defBody (top 21)) = true)) = true := by decide +kernel
theorem sc19 : FnScope F_law_row.N (F_law_row.N.take F_law_row.np) (defScope (top 21)) := ⟨by decide +kernel, by decide +kernel, by decide +kernel, by decide +kernel, by decide +kernel, by decide +kernel, by decide +kernel⟩
theorem df19 {K : PySem.W.Frag} {h : Heap} {mg : Str → Option Value} (X : K.In h) (G : h.Ns mainGlobals mg) (c : SaysP fa fn tb K) : ∃ a fd params body scope, mg F_law_row.name = some (.ref a) ∧ FunD K F_law_row.name F_law_row.name params body scope [] [] a fd ∧ Binds K fd (F_law_row.N.take F_law_row.np) [] ∧ DefOk T F_law_row params body scope := by
  obtain ⟨fd, FF⟩ := c.def_ 19 (d := dOf "_law_row" 21) rfl
  exact ⟨_, fd, _, _, _, He.glo_ok X G (c.fact 19 (f := .glo (Str.ofString "_law_row")) rfl), FF, FF.bindsN (fun _ _ _ _ _ _ us hl => match us, hl with | [_, _, _, _, _], _ => rfl), ⟨sc19, by decide, of_decide_eq_true ck19⟩⟩
theorem ck20 : (decide (chkSL T F_law_rows.N (defScope (top 22)) F_law_rows.body (defBody (top 22)) = true)) = true := by decide +kernel
theorem sc20 : FnScope F_law_rows.N (F_law_rows.N.take F_law_rows.np) (defScope (top 22)) := ⟨by decide +kernel, by decide +kernel, by decide +kernel, by decide +kernel, by decide +kernel, by decide +kernel, by decide +kernel⟩
theorem df20 {K : PySem.W.Frag} {h : Heap} {mg : Str → Option Value} (X : K.In h) (G : h.Ns mainGlobals mg) (c : SaysP fa fn tb K) : ∃ a fd params body scope, mg F_law_rows.name = some (.ref a) ∧ FunD K F_law_rows.name F_law_rows.name params body scope [] [] a fd ∧ Binds K fd (F_law_rows.N.take F_law_rows.np) [] ∧ DefOk T F_law_rows params body scope := by
  obtain ⟨fd, FF⟩ := c.def_ 20 (d := dOf "_law_rows" 22) rfl
  exact ⟨_, fd, _, _, _, He.glo_ok X G (c.fact 20 (f := .glo (Str.ofString "_law_rows")) rfl), FF, FF.bindsN (fun _ _ _ _ _ _ us hl => match us, hl with | [_, _, _, _, _, _], _ => rfl), ⟨sc20, by decide, of_decide_eq_true ck20⟩⟩
theorem ck21 : (decide (chkSL T F_law_deed.N (defScope (top 23)) F_law_deed.body (defBody (top 23)) = true)) = true := by decide +kernel
theorem sc21 : FnScope F_law_deed.N (F_law_deed.N.take F_law_deed.np) (defScope (top 23)) := ⟨by decide +kernel, by decide +kernel, by decide +kernel, by decide +kernel, by decide +kernel, by decide +kernel, by decide +kernel⟩
theorem df21 {K : PySem.W.Frag} {h : Heap} {mg : Str → Option Value} (X : K.In h) (G : h.Ns mainGlobals mg) (c : SaysP fa fn tb K) : ∃ a fd params body scope, mg F_law_deed.name = some (.ref a) ∧ FunD K F_law_deed.name F_law_deed.name params body scope [] [] a fd ∧ Binds K fd (F_law_deed.N.take F_law_deed.np) [] ∧ DefOk T F_law_deed params body scope := by
  obtain ⟨fd, FF⟩ := c.def_ 21 (d := dOf "_law_deed" 23) rfl
  exact ⟨_, fd, _, _, _, He.glo_ok X G (c.fact 21 (f := .glo (Str.ofString "_law_deed")) rfl), FF, FF.bindsN (fun _ _ _ _ _ _ us hl => match us, hl with | [_, _, _, _], _ => rfl), ⟨sc21, by decide, of_decide_eq_true ck21⟩⟩
theorem ck22 : (decide (chkSL T F_law_program.N (defScope (top 24)) F_law_program.body (defBody (top 24)) = true)) = true := by decide +kernel
theorem sc22 : FnScope F_law_program.N (F_law_program.N.take F_law_program.np) (defScope (top 24)) := ⟨by decide +kernel, by decide +kernel, by decide +kernel, by decide +kernel, by decide +kernel, by decide +kernel, by decide +kernel⟩
theorem df22 {K : PySem.W.Frag} {h : Heap} {mg : Str → Option Value} (X : K.In h) (G : h.Ns mainGlobals mg) (c : SaysP fa fn tb K) : ∃ a fd params body scope, mg F_law_program.name = some (.ref a) ∧ FunD K F_law_program.name F_law_program.name params body scope [] [] a fd ∧ Binds K fd (F_law_program.N.take F_law_program.np) [] ∧ DefOk T F_law_program params body scope := by
  obtain ⟨fd, FF⟩ := c.def_ 22 (d := dOf "_law_program" 24) rfl
  exact ⟨_, fd, _, _, _, He.glo_ok X G (c.fact 22 (f := .glo (Str.ofString "_law_program")) rfl), FF, FF.bindsN (fun _ _ _ _ _ _ us hl => match us, hl with | [_, _], _ => rfl), ⟨sc22, by decide, of_decide_eq_true ck22⟩⟩
theorem ck23 : (decide (chkSL T F_law_same.N (defScope (top 25)) F_law_same.body (defBody (top 25)) = true)) = true := by decide +kernel
theorem sc23 : FnScope F_law_same.N (F_law_same.N.take F_law_same.np) (defScope (top 25)) := ⟨by decide +kernel, by decide +kernel, by decide +kernel, by decide +kernel, by decide +kernel, by decide +kernel, by decide +kernel⟩
theorem df23 {K : PySem.W.Frag} {h : Heap} {mg : Str → Option Value} (X : K.In h) (G : h.Ns mainGlobals mg) (c : SaysP fa fn tb K) : ∃ a fd params body scope, mg F_law_same.name = some (.ref a) ∧ FunD K F_law_same.name F_law_same.name params body scope [] [] a fd ∧ Binds K fd (F_law_same.N.take F_law_same.np) [] ∧ DefOk T F_law_same params body scope := by
  obtain ⟨fd, FF⟩ := c.def_ 23 (d := dOf "_law_same" 25) rfl
  exact ⟨_, fd, _, _, _, He.glo_ok X G (c.fact 23 (f := .glo (Str.ofString "_law_same")) rfl), FF, FF.bindsN (fun _ _ _ _ _ _ us hl => match us, hl with | [_, _], _ => rfl), ⟨sc23, by decide, of_decide_eq_true ck23⟩⟩
theorem ck24 : (decide (chkSL T F_law_due.N (defScope (top 26)) F_law_due.body (defBody (top 26)) = true)) = true := by decide +kernel
theorem sc24 : FnScope F_law_due.N (F_law_due.N.take F_law_due.np) (defScope (top 26)) := ⟨by decide +kernel, by decide +kernel, by decide +kernel, by decide +kernel, by decide +kernel, by decide +kernel, by decide +kernel⟩
theorem df24 {K : PySem.W.Frag} {h : Heap} {mg : Str → Option Value} (X : K.In h) (G : h.Ns mainGlobals mg) (c : SaysP fa fn tb K) : ∃ a fd params body scope, mg F_law_due.name = some (.ref a) ∧ FunD K F_law_due.name F_law_due.name params body scope [] [] a fd ∧ Binds K fd (F_law_due.N.take F_law_due.np) [] ∧ DefOk T F_law_due params body scope := by
  obtain ⟨fd, FF⟩ := c.def_ 24 (d := dOf "_law_due" 26) rfl
  exact ⟨_, fd, _, _, _, He.glo_ok X G (c.fact 24 (f := .glo (Str.ofString "_law_due")) rfl), FF, FF.bindsN (fun _ _ _ _ _ _ us hl => match us, hl with | [_, _], _ => rfl), ⟨sc24, by decide, of_decide_eq_true ck24⟩⟩
theorem ck25 : (decide (chkSL T F_law.N (defScope (top 27)) F_law.body (defBody (top 27)) = true)) = true := by decide +kernel
theorem sc25 : FnScope F_law.N (F_law.N.take F_law.np) (defScope (top 27)) := ⟨by decide +kernel, by decide +kernel, by decide +kernel, by decide +kernel, by decide +kernel, by decide +kernel, by decide +kernel⟩
theorem df25 {K : PySem.W.Frag} {h : Heap} {mg : Str → Option Value} (X : K.In h) (G : h.Ns mainGlobals mg) (c : SaysP fa fn tb K) : ∃ a fd params body scope, mg F_law.name = some (.ref a) ∧ FunD K F_law.name F_law.name params body scope [] [] a fd ∧ Binds K fd (F_law.N.take F_law.np) [] ∧ DefOk T F_law params body scope := by
  obtain ⟨fd, FF⟩ := c.def_ 25 (d := dOf "law" 27) rfl
  exact ⟨_, fd, _, _, _, He.glo_ok X G (c.fact 25 (f := .glo (Str.ofString "law")) rfl), FF, FF.bindsN (fun _ _ _ _ _ _ us hl => match us, hl with | [_], _ => rfl), ⟨sc25, by decide, of_decide_eq_true ck25⟩⟩
theorem tab {K : PySem.W.Frag} {h : Heap} {mg : Str → Option Value} (X : K.In h) (G : h.Ns mainGlobals mg) (c : SaysP fa fn tb K) : TabIn T K mg := by
  refine ⟨fun x hx => ?_, fun f F hF => ?_, c.gs rfl X G⟩
  · have hm : (fa.drop 26).map (fun f => match f with | .free y => y | _ => Str.ofString "") = bnames := by decide +kernel
    rw [← hm] at hx
    obtain ⟨y, hy, rfl⟩ := List.mem_map.mp hx
    obtain ⟨i, hi⟩ := List.mem_iff_getElem?.mp hy
    rw [List.getElem?_drop] at hi
    have hl : ∃ z, y = .free z := by
      have : (fa.drop 26).all (fun f => match f with | .free _ => true | _ => false) = true := by decide +kernel
      have := List.all_eq_true.mp this y hy
      cases y <;> first | exact ⟨_, rfl⟩ | cases this
    obtain ⟨z, rfl⟩ := hl
    exact He.free_ok X G (c.fact (26 + i) (f := .free z) hi)
  · match f, hF with
    | 0, hF => cases hF; exact df0 X G c
    | 1, hF => cases hF; exact df1 X G c
    | 2, hF => cases hF; exact df2 X G c
    | 3, hF => cases hF; exact df3 X G c
    | 4, hF => cases hF; exact df4 X G c
    | 5, hF => cases hF; exact df5 X G c
    | 6, hF => cases hF; exact df6 X G c
    | 7, hF => cases hF; exact df7 X G c
    | 8, hF => cases hF; exact df8 X G c
    | 9, hF => cases hF; exact df9 X G c
    | 10, hF => cases hF; exact df10 X G c
    | 11, hF => cases hF; exact df11 X G c
    | 12, hF => cases hF; exact df12 X G c
    | 13, hF => cases hF; exact df13 X G c
    | 14, hF => cases hF; exact df14 X G c
    | 15, hF => cases hF; exact df15 X G c
    | 16, hF => cases hF; exact df16 X G c
    | 17, hF => cases hF; exact df17 X G c
    | 18, hF => cases hF; exact df18 X G c
    | 19, hF => cases hF; exact df19 X G c
    | 20, hF => cases hF; exact df20 X G c
    | 21, hF => cases hF; exact df21 X G c
    | 22, hF => cases hF; exact df22 X G c
    | 23, hF => cases hF; exact df23 X G c
    | 24, hF => cases hF; exact df24 X G c
    | 25, hF => cases hF; exact df25 X G c
    | n + 26, hF => cases hF
theorem facts {Pr : Program} {w : World} {K : PySem.W.Frag} {h : Heap} {mg : Str → Option Value} {f : Addr} (pure_law : ∀ ns : List Int, ns.length ≤ 63 → ∃ ds, callF T 60 25 [.s ns] = some (.v (.bool true), ds)) (X : K.In h) (G : h.Ns mainGlobals mg) (hfa : mg ("law" : Str) = some (.ref f)) (c : SaysP fa fn tb K) :
    ∃ fd : FuncData, (∀ (s : Shared) (v : Value), BindsTo s fd ⟨[v], []⟩ [(Str.ofString "_law_script", v)]) ∧ ∀ base : Heap, K.In base → base.Ns mainGlobals mg → FnOk Pr w K mg base CX0 60 f fd [Str.ofString "_law_script"] (spLaw K) := by
  obtain ⟨fd, F⟩ := c.def_ 25 (d := dOf "law" 27) rfl
  have e := hfa.symm.trans (He.glo_ok X G (c.fact 25 (f := .glo (Str.ofString "law")) rfl))
  cases e
  have b := FunD.bindsA (ps := [Str.ofString "_law_script"]) F fun _ _ _ _ _ _ us hl => match us, hl with | [_], _ => rfl
  refine ⟨fd, fun s v => b s [v] rfl, fun base _ _ => ?_⟩
  letI : WW := ⟨Pr, w⟩
  exact law_ok (Pr := Pr) (w := w) (base := base) rfl rfl (tab X G c) (k := 59) (f := 25) (F := F_law) rfl F ⟨sc25, by decide, of_decide_eq_true ck25⟩ pure_law
theorem holds (pure_law : ∀ ns : List Int, ns.length ≤ 63 → ∃ ds, callF T 60 25 [.s ns] = some (.v (.bool true), ds)) : PySem.Challenge.rw_surecall_k02_answers.Holds := by
  w_on; o_law
  refine HandSHeadRun.head_any (r := OpenLaw.row PySem.Challenge.rw_surecall_k02_answers) (q := view (OpenLaw.row PySem.Challenge.rw_surecall_k02_answers).prog [27]) (H := hk) (ob := ob) (M := 4000) (loose := [(Str.ofString "kind_row"), (Str.ofString "line_up"), (Str.ofString "deed_row"), (Str.ofString "answer"), (Str.ofString "asked"), (Str.ofString "_law_hand"), (Str.ofString "_law_take"), (Str.ofString "_law_of"), (Str.ofString "_law_words"), (Str.ofString "_law_tree"), (Str.ofString "_law_world"), (Str.ofString "_law_line"), (Str.ofString "_law_has"), (Str.ofString "_law_variable"), (Str.ofString "_law_target"), (Str.ofString "_law_make"), (Str.ofString "_law_args"), (Str.ofString "_law_call"), (Str.ofString "_law_field"), (Str.ofString "_law_row"), (Str.ofString "_law_rows"), (Str.ofString "_law_deed"), (Str.ofString "_law_program"), (Str.ofString "_law_same"), (Str.ofString "_law_due")]) (d := HandSHeadRun.topDef (OpenLaw.row PySem.Challenge.rw_surecall_k02_answers).prog 27) (kwd := []) ob_eq
    (by kernel_rfl) (fun s => by kernel_rfl) run (by kernel_rfl) (by kernel_rfl) (by kernel_rfl) (by rfl) (by first | assumption | decide +kernel) (by decide +kernel) ⟨rfl, rfl, rfl, rfl, rfl, by decide +kernel⟩ ?hw ?hc
  case hw => w_witness2
  case hc =>
    refine L2.walk_ofE (l := PySem.Challenge.rw_surecall_k02_answers) (n := 63) (k := 60) (x := "_law_script") (CX := L2.CX0) rfl (by decide) (by kernel_rfl) ⟨rfl, by decide, by decide⟩ ?F (fun _ _ _ _ z => z)
    intro w mg fa h Y G hmg0
    obtain ⟨K, KX, c⟩ := Y
    have hmg : mg ("law" : PySem.Str) = some (.ref fa) := by
      have e : (HandSHeadRun.topDef (OpenLaw.row PySem.Challenge.rw_surecall_k02_answers).prog 27).name = ("law" : PySem.Str) := by kernel_rfl
      rw [← e]
      exact hmg0
    obtain ⟨fd, hb, hF⟩ := facts (Pr := (PySem.Challenge.rw_surecall_k02_answers).prog) (w := w) pure_law KX G hmg c
    exact ⟨K, fd, spLaw K, KX, hb, fun H a ns hl _ hS => ⟨a, ns, rfl, hS, hl, fun _ => rfl⟩, hF⟩
end Lw
end Mn
end
open PySem
namespace Mn
structure LT2 (T : Tab) (ix : IxL) : Prop where
  kr : T.fs[ix.kind_row]? = some (F_kind_row ix.toIp)
  lu : T.fs[ix.line_up]? = some (F_line_up ix.toIp)
  dr : T.fs[ix.deed_row]? = some (F_deed_row ix.toIp)
  an : T.fs[ix.answer]? = some (F_answer ix.toIp)
  ask : T.fs[ix.asked]? = some (F_asked ix.toIp)
  same : T.fs[ix.l_same]? = some (F_law_same ix)
  due : T.fs[ix.l_due]? = some (F_law_due ix)
  law : T.fs[ix.law]? = some (F_law ix)
section
variable {T : Tab} {ix : IxL} (g : LT2 T ix)
include g
theorem l2_kr : ∀ K, 1 ≤ K → SpKR (callF T K) ix.kind_row := fun K hK => by
  obtain ⟨K, rfl⟩ : ∃ k, K = k + 1 := ⟨K - 1, by omega⟩
  intro p k h1 h2
  rw [callF_at g.kr]
  exact kind_row_ok ix.toIp T _ p k h1 h2
theorem l2_lu : ∀ K, 2 ≤ K → SpLU (callF T K) ix.line_up := fun K hK => by
  obtain ⟨K, rfl⟩ : ∃ k, K = k + 1 := ⟨K - 1, by omega⟩
  intro p s l h1 h2 h3
  rw [callF_at g.lu]
  exact line_up_ok ix.toIp T _ (l2_kr g K (by omega)) p s l h1 h2 h3
theorem l2_dr : ∀ K, 2 ≤ K → SpDR2 (callF T K) ix.deed_row := fun K hK => by
  obtain ⟨K, rfl⟩ : ∃ k, K = k + 1 := ⟨K - 1, by omega⟩
  intro p k d h1 h2
  rw [callF_at g.dr]
  exact deed_row2_ok ix.toIp T _ (l2_kr g K (by omega)) p k d h1 h2
theorem l2_an : ∀ K, 3 ≤ K → SpAns (callF T K) ix.answer := fun K hK => by
  obtain ⟨K, rfl⟩ : ∃ k, K = k + 1 := ⟨K - 1, by omega⟩
  intro p s d h1 h2
  rw [callF_at g.an]
  exact answer_ok ix.toIp T _ (l2_lu g K (by omega)) (l2_dr g K (by omega)) p s d h1 h2
theorem l2_ask : ∀ K, 4 ≤ K → SpAsk (callF T K) ix.asked := fun K hK => by
  obtain ⟨K, rfl⟩ : ∃ k, K = k + 1 := ⟨K - 1, by omega⟩
  intro p s d h1 h2
  rw [callF_at g.ask]
  exact asked_ok ix.toIp T _ (l2_lu g K (by omega)) (l2_an g K (by omega)) p s d h1 h2
theorem l2_same : ∀ K, 1 ≤ K → SpSm (callF T K) ix.l_same 0 := fun K hK => by
  obtain ⟨K, rfl⟩ : ∃ k, K = k + 1 := ⟨K - 1, by omega⟩
  intro x h1
  rw [callF_at g.same]
  exact same_ok ix T _ 0 (fun m hm => absurd hm (Nat.not_lt_zero m)) x h1
end
namespace Lw
def ix0 : IxL := {
  l_hand := 5,
  l_take := 6,
  l_of := 7,
  l_words := 8,
  l_tree := 9,
  l_world := 10,
  l_line := 11,
  l_has := 12,
  l_variable := 13,
  l_target := 14,
  l_make := 15,
  l_args := 16,
  l_call := 17,
  l_field := 18,
  l_row := 19,
  l_rows := 20,
  l_deed := 21,
  l_program := 22,
  nm_up := (Str.ofString "_law_up"),
  nm_by := (Str.ofString "_law_by_kind"),
  kind_row := 0,
  line_up := 1,
  elders := 9999,
  is_below := 9999,
  deed_row := 2,
  inner_rows := 9999,
  rows_flat := 9999,
  bodies := 9999,
  body_row := 9999,
  all_rows := 9999,
  calls := 9999,
  is_here := 9999,
  by_tree := 9999,
  answer := 3,
  owed_by_row := 9999,
  made_paper := 9999,
  told_by_made := 9999,
  by_made := 9999,
  asked := 4,
  kind_names := 9999,
  is_word := 9999,
  are_unlike := 9999,
  is_deed := 9999,
  is_kind := 9999,
  are_kinds := 9999,
  are_late := 9999,
  keep_params := 9999,
  is_read := 9999,
  is_given := 9999,
  is_call := 9999,
  is_row := 9999,
  are_rows := 9999,
  is_program := 9999,
  main_of := 9999,
  rows_of := 9999,
  variable_at := 9999,
  kinds_held := 9999,
  kinds_met := 9999,
  body_for := 9999,
  bodies_met := 9999,
  carried_on := 9999,
  held_by_field := 9999,
  held_by_call := 9999,
  held_by_row := 9999,
  told_of := 9999,
  rises := 9999,
  are_texts := 9999,
  is_body := 9999,
  are_bodies := 9999,
  is_spot := 9999,
  are_holds := 9999,
  is_pair := 9999,
  made_there := 9999,
  answers_for := 9999,
  shows_made := 9999,
  shows_flow := 9999,
  shows := 9999,
  told_by := 9999,
  c_MAIN := 9999,
  c_LETTERS := 9999,
  c_MOST_LETTERS := 9999,
  c_MOST_KINDS := 9999,
  c_MOST_DEEDS := 9999,
  c_MOST_PARAMS := 9999,
  c_MOST_LATE := 9999,
  c_MOST_IN_ROWS := 9999,
  c_MOST_DEEP := 9999,
  c_MOST_ROWS := 9999,
  c_OWN := 9999,
  c_LONG := 9999,
  l_same := 23,
  l_due := 24,
  law := 25 }
theorem gt : GenT T ix0.toIx := ⟨rfl, rfl, rfl, rfl, rfl, rfl, rfl, rfl, rfl, rfl, rfl, rfl, rfl, rfl, rfl, rfl, rfl, rfl⟩
theorem lt2 : LT2 T ix0 := ⟨rfl, rfl, rfl, rfl, rfl, rfl, rfl, rfl⟩
theorem pure_law : ∀ ns : List Int, ns.length ≤ 63 → ∃ ds, callF T 60 25 [.s ns] = some (.v (.bool true), ds) := fun ns hns => by
  refine ⟨[.s ns], ?_⟩
  show callF T (59 + 1) ix0.law [.s ns] = _
  rw [callF_at lt2.law]
  refine k02_ok ix0 T (callF T 59) (g_hand gt 59 (by omega)) (g_program gt 59 (by omega)) (fun p d h1 => ?_) (l2_an lt2 59 (by omega)) (l2_ask lt2 59 (by omega)) (l2_same lt2 59 (by omega)) ns hns
  simp only [callF_at lt2.due]
  exact due02_ok ix0 T _ p d h1
end Lw
end Mn
theorem PySem.Challenge.cw_surecall_k02_answers_holds : PySem.Challenge.rw_surecall_k02_answers.Holds := by
  exact Mn.Lw.holds Mn.Lw.pure_law
