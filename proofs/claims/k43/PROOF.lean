import PyProof.Rows.All
import Wide.All
import OpenK.AllK
import Wide.FinOn
import HandS.ForMost
import HandS.Flow
import HandS.Style
import HandS.Rev
import HandS.RevRange
import HandS.TupAny
import HandS.TupMul
import HandS.Wide
import HandS.IsInst
import HandS.CallSlots
import HandS.RaiseMore
import HandS.ForExc
import PyProof.ReprReads
import HandS.SortKw
import HandS.Zip0
import PyProof.Draws
import HandS.ExcInit
import HandS.TryOnly
import HandS.ExcIs
import HandS.ExcField
import HandS.Set
import HandS.SetFor
import HandS.SortInts
import PyProof.FitsInt
import PyProof.ReprBulk
import PySem.Challenge.RW_shufflerests_k43_told_signs
section
set_option Elab.async false
set_option linter.all false
set_option maxRecDepth 100000
/-! Mini: a small language over plain data, its weakest preconditions. -/
namespace Mini
open PySem

/-- a value: data, a cell of the small heap, the script -/
inductive MV where
  | d (x : PyData)
  | r (i : Nat)
  | s (ns : List Int)
  | m (i : Nat)

abbrev MCell := List PyData
abbrev MH := List MCell
abbrev MEnv := List (Option MV)
/-- a refusal: its class by name, its fields -/
structure MExc where
  cls : String
  flds : List (String × PyData)

/-- what a clause with a name takes of the refusal -/
inductive MHa where
  | cst (c : PyData)
  | fld (f : String)
inductive MHv where
  | one (a : MHa)
  | tup (as : List MHa)
/-- what it asks of it: isinstance of a class (all: a base of every class that may come) -/
inductive MHc where
  | one (q : String × Bool)
  | any (qs : List (String × Bool))
  | nt (c : MHc)
  | and (a b : MHc)
inductive MHs where
  | nil
  | set (i : Nat) (v : MHv) (r : MHs)
  | iff (c : MHc) (b r : MHs)
/-- what an except clause does -/
inductive MHd where
  | set (i : Nat) (c : PyData)
  | named (j : Nat) (b : MHs)
inductive MOp where
  | add | sub | mul | fdiv | mod | pow
  deriving DecidableEq
inductive MCmp where
  | eq | ne | lt | le | gt | ge | inn | nin
  deriving DecidableEq
inductive MB where
  | len | abs | int | max2 | min2 | tuple | list | repr | str | all | any | sum | sorted | max1
  deriving DecidableEq
inductive MM where
  | append | pop | extend | popAt | clear | reverse
  deriving DecidableEq
inductive MTy where
  | int | bool | tuple | list | str
  deriving DecidableEq
inductive MTg where
  | one (i : Nat)
  | tup (is : List Nat)

mutual
inductive MX where
  | var (i : Nat)
  | cst (c : PyData)
  | glo (x : String) (c : PyData)
  | bin (op : MOp) (a b : MX)
  | neg (a : MX)
  | nott (a : MX)
  | andd (a b : MX)
  | orr (a b : MX)
  | cmp (op : MCmp) (a b : MX)
  | chn (op op' : MCmp) (a b c : MX)
  | isC (neg : Bool) (a : MX) (c : PyData)
  | ite (c a b : MX)
  | tup (xs : MXs)
  | lst (xs : MXs)
  | frz (e : MX)
  | ix (a i : MX)
  | sl (a : MX) (lo hi : MXs)
  | revL (a : MX)
  | rgv (t : Bool) (xs : MXs)
  | call (f : String) (xs : MXs)
  | blt (b : MB) (xs : MXs)
  | isi (a : MX) (t : MTy)
  | mth (m : MM) (o : MX) (xs : MXs)
  | lc (elt : MX) (tg : MTg) (it : MI) (cond : MXs) (own : List (String × Nat))
  | pick (xs : MXs) (i : MX)
  | maxD (a : MX) (d : Int)
  | dnew (t : Bool)
  | lenSet (a : MX)
  | srtSet (a : MX)
  | alt (k : Nat) (a : MX)
  | dgetD (o k x : MX)
  | idxOf (o x : MX)
  | dlit (ks : List PyData) (xs : MXs)
inductive MXs where
  | nil
  | cons (x : MX) (xs : MXs)
inductive MI where
  | seq (e : MX)
  | rng (xs : MXs)
  | rev (e : MX)
  | rrg (xs : MXs)
  | enm (e : MX)
  | zip (a b : MX)
end
mutual
inductive MS where
  | ex (e : MX)
  | set (i : Nat) (e : MX)
  | setT (is : List Nat) (e : MX)
  | par (i j : Nat) (a b : MX)
  | setI (o i e : MX)
  | aug (i : Nat) (op : MOp) (e : MX)
  | augI (o i : MX) (op : MOp) (e : MX)
  | ret (e : MX)
  | retN
  | iff (c : MX) (a b : MSs)
  | whl (tr : Bool) (c : MX) (b : MSs)
  | forr (tr : Bool) (tg : MTg) (it : MI) (b : MSs)
  | pass
  | brk
  | cont
  | stuck
  | raise (C : String) (fs : List String) (xs : MXs)
  | tryy (b : MSs) (all : Bool) (C : String) (cs : List String) (hd : MHd)
inductive MSs where
  | nil
  | cons (x : MS) (xs : MSs)
end

abbrev MQ := MV → MH → Prop
abbrev ME := MExc → MH → Prop
abbrev MG := String → List MV → MH → MQ → ME → Prop

/-! ### values -/
def cellW (h : MH) (i : Nat) (K : List PyData → Prop) : Prop := match h[i]? with
  | some xs => K xs
  | none => False
/-- one list's items: a frozen list, or a cell -/
def lstW (v : MV) (h : MH) (K : List PyData → Prop) : Prop := match v with
  | .d (.list xs) => K xs
  | .r i => cellW h i K
  | _ => False
/-- a list's or tuple's items -/
def seqW (v : MV) (h : MH) (K : List PyData → Prop) : Prop := match v with
  | .d (.list xs) => K xs
  | .d (.tuple xs) => K xs
  | .r i => cellW h i K
  | _ => False
/-! dicts: a cell whose first item says so; t: keys are tuples -/
def dcell (t : Bool) (ps : List (PyData × PyData)) : MCell := if t then [.dict ps, .none] else [.dict ps]
def isDc (xs : MCell) : Bool := match xs with
  | .dict _ :: _ => true
  | _ => false
mutual
def keyIs : PyData → PyData → Bool
  | .int a, .int b => decide (a = b)
  | .str a, .str b => decide (a = b)
  | .tuple a, .tuple b => keysIs a b
  | _, _ => false
def keysIs : List PyData → List PyData → Bool
  | [], [] => true
  | x :: xs, y :: ys => keyIs x y && keysIs xs ys
  | _, _ => false
end
def flatK : PyData → Bool
  | .int _ => true
  | .str _ => true
  | _ => false
/-- may a tuple lie in the written part (then no tuple may be a dict's key) -/
def gnd : Bool := false
def keyOk (t : Bool) (k : PyData) : Bool := match t, k with
  | true, .tuple ks => !gnd && ks.all flatK
  | false, k => flatK k
  | _, _ => false
def dgetP (ps : List (PyData × PyData)) (k : PyData) : Option PyData := (ps.find? fun p => keyIs p.1 k).map (·.2)
def dputP (ps : List (PyData × PyData)) (k v : PyData) : List (PyData × PyData) :=
  if (ps.any fun p => keyIs p.1 k) = true then ps.map fun p => if keyIs p.1 k = true then (p.1, v) else p else ps ++ [(k, v)]
def dctW (h : MH) (i : Nat) (K : Bool → List (PyData × PyData) → Prop) : Prop := match h[i]? with
  | some [.dict ps] => K false ps
  | some [.dict ps, .none] => K true ps
  | _ => False
/-- data as it stands -/
def datW (v : MV) (h : MH) (K : PyData → Prop) : Prop := match v with
  | .d x => K x
  | .r i => cellW h i fun xs => K (.list xs)
  | .s ns => K (.list (ns.map .int))
  | .m _ => False
def newL (xs : List PyData) (h : MH) (Q : MQ) : Prop := Q (.r h.length) (h ++ [xs])
def mulOk (a b : Int) : Prop := (a.natAbs < 2 ^ 64 ∨ b.natAbs < 2 ^ 64) ∨ a.natAbs.log2 + b.natAbs.log2 < 1000000
def b2i (b : Bool) : Int := if b then 1 else 0

def wAdd (x y : MV) (h : MH) (Q : MQ) : Prop := match x, y with
  | .d (.int a), .d (.int b) => Q (.d (.int (a + b))) h
  | .d (.tuple a), .d (.tuple b) => a.length + b.length ≤ 16777216 ∧ Q (.d (.tuple (a ++ b))) h
  | .d (.str a), .d (.str b) => a.length + b.length ≤ 16777216 ∧ Q (.d (.str (a ++ b))) h
  | .d (.list a), .d (.list b) => a.length + b.length ≤ 16777216 ∧ newL (a ++ b) h Q
  | .d (.list a), .r j => cellW h j fun b => a.length + b.length ≤ 16777216 ∧ newL (a ++ b) h Q
  | .r i, .d (.list b) => cellW h i fun a => a.length + b.length ≤ 16777216 ∧ newL (a ++ b) h Q
  | .r i, .r j => cellW h i fun a => cellW h j fun b => a.length + b.length ≤ 16777216 ∧ newL (a ++ b) h Q
  | _, _ => False
def repOk (n : Nat) (k : Int) : Prop := -(2 ^ 63) ≤ k ∧ k < 2 ^ 63 ∧ n * k.toNat ≤ 16777216
def rep (k : Int) (xs : List PyData) : List PyData := (List.replicate k.toNat xs).flatten
def wMul (x y : MV) (h : MH) (Q : MQ) : Prop := match x, y with
  | .d (.int a), .d (.int b) => mulOk a b ∧ Q (.d (.int (a * b))) h
  | .d (.list a), .d (.int k) => repOk a.length k ∧ newL (rep k a) h Q
  | .d (.tuple a), .d (.int k) => (a ≠ [] ∧ -1000000 ≤ k ∧ k ≤ 1000 ∧ a.length ≤ 1000) ∧ Q (.d (.tuple (rep k a))) h
  | _, _ => False
def wBin (op : MOp) (x y : MV) (h : MH) (Q : MQ) : Prop := match op with
  | .add => wAdd x y h Q
  | .mul => wMul x y h Q
  | .sub => (match x, y with | .d (.int a), .d (.int b) => Q (.d (.int (a - b))) h | _, _ => False)
  | .fdiv => (match x, y with | .d (.int a), .d (.int b) => (0 < b ∧ b.natAbs.log2 < 9000) ∧ Q (.d (.int (a / b))) h | _, _ => False)
  | .mod => (match x, y with | .d (.int a), .d (.int b) => 0 < b ∧ Q (.d (.int (a % b))) h | _, _ => False)
  | .pow => (match x, y with | .d (.int a), .d (.int b) => (0 ≤ b ∧ b ≤ 1000000 ∧ a.natAbs < 2 ^ 64) ∧ Q (.d (.int (a ^ b.toNat))) h | _, _ => False)
def wNeg (x : MV) (h : MH) (Q : MQ) : Prop := match x with
  | .d (.int a) => Q (.d (.int (-a))) h
  | _ => False
def wTru (x : MV) (h : MH) (K : Bool → Prop) : Prop := match x with
  | .d .none => K false
  | .d (.bool b) => K b
  | .d (.int i) => K (i != 0)
  | .d (.str s) => s.length ≤ 16777216 ∧ K ((s.length : Int) != 0)
  | .d (.list xs) => K (!xs.isEmpty)
  | .d (.tuple xs) => K (!xs.isEmpty)
  | .r i => cellW h i fun xs => K (!xs.isEmpty)
  | _ => False
def flatD : PyData → Bool
  | .none => true
  | .bool _ => true
  | .int _ => true
  | .str _ => true
  | _ => false
def inD (x : PyData) (xs : List PyData) : Bool := xs.any fun y => PyData.eqv y x
/-- a in y: a list's item, a dict's key -/
def inW (a : PyData) (y : MV) (h : MH) (K : Bool → Prop) : Prop := match y with
  | .m i => dctW h i fun t ps => keyOk t a = true ∧ K (dgetP ps a).isSome
  | y => seqW y h fun ys => (flatD a = true ∧ ys.all flatD = true) ∧ K (inD a ys)
def wCmp (op : MCmp) (x y : MV) (h : MH) (K : Bool → Prop) : Prop := match op with
  | .eq => (match x, y with
    | .d (.int a), .d (.int b) => K (decide (a = b))
    | .d (.str a), .d (.str b) => K (decide (a = b))
    | x, y => datW x h fun a => datW y h fun b => (SeqAt.shaped a = true ∧ SeqAt.shaped b = true) ∧ K (PyData.eqv a b))
  | .ne => (match x, y with
    | .d (.int a), .d (.int b) => K (!decide (a = b))
    | .d (.str a), .d (.str b) => K (!decide (a = b))
    | x, y => datW x h fun a => datW y h fun b => (SeqAt.shaped a = true ∧ SeqAt.shaped b = true) ∧ K (!PyData.eqv a b))
  | .lt => (match x, y with | .d (.int a), .d (.int b) => K (decide (a < b)) | _, _ => False)
  | .le => (match x, y with | .d (.int a), .d (.int b) => K (decide (a ≤ b)) | _, _ => False)
  | .gt => (match x, y with | .d (.int a), .d (.int b) => K (decide (b < a)) | _, _ => False)
  | .ge => (match x, y with | .d (.int a), .d (.int b) => K (decide (b ≤ a)) | _, _ => False)
  | .inn => datW x h fun a => inW a y h K
  | .nin => datW x h fun a => inW a y h fun t => K (!t)
/-- x is None; x is True, of a truth -/
def wIs (x : MV) (c : PyData) (K : Bool → Prop) : Prop := match c with
  | .none => (match x with | .d .none => K true | _ => K false)
  | .bool b => (match x with | .d (.bool a) => K (decide (a = b)) | _ => False)
  | _ => False
def datas : List MV → Option (List PyData)
  | [] => some []
  | .d x :: r => (match datas r with | some xs => some (x :: xs) | none => none)
  | _ :: _ => none
def wTup (vs : List MV) (h : MH) (Q : MQ) : Prop := match datas vs with
  | some xs => Q (.d (.tuple xs)) h
  | none => False
def wLst (vs : List MV) (h : MH) (Q : MQ) : Prop := match datas vs with
  | some xs => newL xs h Q
  | none => False
/-- a dict's display -/
def wDlit (ks : List PyData) (vs : List MV) (h : MH) (Q : MQ) : Prop := match datas vs with
  | some xs => (ks.length = xs.length ∧ ks.all flatK = true) ∧ Q (.m h.length) (h ++ [dcell false ((ks.zip xs).foldl (fun ps p => dputP ps p.1 p.2) [])])
  | none => False
/-- a fresh list is frozen, what came behind it is dropped -/
def wFrz (n : Nat) (v : MV) (h : MH) (Q : MQ) : Prop := match v with
  | .d x => Q (.d x) h
  | .r i => n ≤ i ∧ cellW h i fun xs => Q (.d (.list xs)) (h.take n)
  | .s ns => Q (.s ns) h
  | .m _ => False
def atW (xs : List PyData) (i : Int) (K : PyData → Prop) : Prop := match L2.atI xs i with
  | some v => K v
  | none => False
def wIx (x y : MV) (h : MH) (Q : MQ) : Prop := match x, y with
  | .m j, .d k => dctW h j fun t ps => keyOk t k = true ∧ (match dgetP ps k with | some v => Q (.d v) h | none => False)
  | .s ns, .d (.int i) => (match L2.atI ns i with | some v => Q (.d (.int v)) h | none => False)
  | .d (.str z), .d (.int i) => z.length ≤ 16777216 ∧ (match L2.atI z.cps.toList i with | some c => Q (.d (.str ⟨#[c]⟩)) h | none => False)
  | x, .d (.int i) => seqW x h fun xs => atW xs i fun v => Q (.d v) h
  | _, _ => False
/-- one of a display's things -/
def wPick (vs : List MV) (y : MV) (h : MH) (Q : MQ) : Prop := match y with
  | .d (.int k) => (match L2.atI vs k with | some v => Q v h | none => False)
  | _ => False
def cutD {α : Type} (xs : List α) (lo hi : Option Int) : List α := (xs.drop (HT.sIx xs.length 0 lo)).take (HT.sIx xs.length xs.length hi - HT.sIx xs.length 0 lo)
def wBound (vs : List MV) (K : Option Int → Prop) : Prop := match vs with
  | [] => K none
  | [.d (.int i)] => K (some i)
  | _ => False
def wSl (x : MV) (lo hi : Option Int) (h : MH) (Q : MQ) : Prop := match x with
  | .d (.tuple xs) => Q (.d (.tuple (cutD xs lo hi))) h
  | .d (.list xs) => newL (cutD xs lo hi) h Q
  | .r i => cellW h i fun xs => newL (cutD xs lo hi) h Q
  | .s ns => newL (cutD (ns.map .int) lo hi) h Q
  | _ => False
/-- every second item -/
def alt {α : Type} : List α → List α
  | [] => []
  | [x] => [x]
  | x :: _ :: l => x :: alt l
def wAlt (k : Nat) (x : MV) (h : MH) (Q : MQ) : Prop := match x with
  | .d (.tuple xs) => Q (.d (.tuple (alt (xs.drop k)))) h
  | x => lstW x h fun xs => newL (alt (xs.drop k)) h Q
/-- read backwards -/
def wRev (x : MV) (h : MH) (Q : MQ) : Prop := match x with
  | .d (.tuple xs) => Q (.d (.tuple xs.reverse)) h
  | x => lstW x h fun xs => newL xs.reverse h Q
def bools : List PyData → Option (List Bool)
  | [] => some []
  | .bool b :: r => (match bools r with | some bs => some (b :: bs) | none => none)
  | _ :: _ => none
def intsL : List PyData → Option (List Int)
  | [] => some []
  | .int b :: r => (match intsL r with | some bs => some (b :: bs) | none => none)
  | _ :: _ => none
def lenW (v : MV) (h : MH) (K : Int → Prop) : Prop := match v with
  | .s ns => K ns.length
  | .d (.str z) => z.length ≤ 16777216 ∧ K z.length
  | v => seqW v h fun xs => K xs.length
def iabs (i : Int) : Int := if i < 0 then -i else i
def imax (i j : Int) : Int := if j > i then j else i
def imin (i j : Int) : Int := if j < i then j else i
def wRepr (v : MV) (h : MH) (Q : MQ) : Prop := datW v h fun x => (PyData.showable x = true ∧ x.depth ≤ 64 ∧ x.shown.length ≤ 16777216) ∧ Q (.d (.str x.shown)) h
def maxD (d : Int) (ns : List Int) : Int := match ns with
  | [] => d
  | n :: r => r.foldl (fun a b => if b > a then b else a) n
def wBlt (b : MB) (vs : List MV) (h : MH) (Q : MQ) : Prop := match b with
  | .len => (match vs with | [v] => lenW v h fun n => Q (.d (.int n)) h | _ => False)
  | .abs => (match vs with | [.d (.int i)] => Q (.d (.int (iabs i))) h | _ => False)
  | .int => (match vs with | [.d (.int i)] => Q (.d (.int i)) h | [.d (.bool b)] => Q (.d (.int (b2i b))) h | _ => False)
  | .max2 => (match vs with | [.d (.int i), .d (.int j)] => Q (.d (.int (imax i j))) h | _ => False)
  | .min2 => (match vs with | [.d (.int i), .d (.int j)] => Q (.d (.int (imin i j))) h | _ => False)
  | .tuple => (match vs with | [v] => seqW v h fun xs => Q (.d (.tuple xs)) h | _ => False)
  | .list => (match vs with | [v] => seqW v h fun xs => newL xs h Q | _ => False)
  | .repr => (match vs with | [v] => wRepr v h Q | _ => False)
  | .str => (match vs with | [.d (.int i)] => i.natAbs.log2 < 1920 ∧ Q (.d (.str (toString i))) h | [.d (.str z)] => Q (.d (.str z)) h | _ => False)
  | .all => (match vs with | [v] => lstW v h fun xs => (match bools xs with | some bs => Q (.d (.bool (bs.all id))) h | none => False) | _ => False)
  | .any => (match vs with | [v] => lstW v h fun xs => (match bools xs with | some bs => Q (.d (.bool (bs.any id))) h | none => False) | _ => False)
  | .sorted => (match vs with | [v] => lstW v h fun xs => (match intsL xs with | some ns => newL ((ns.mergeSort (· ≤ ·)).map .int) h Q | none => False) | _ => False)
  | .sum => (match vs with | [v] => seqW v h fun xs => (match intsL xs with | some ns => Q (.d (.int ns.sum)) h | none => False) | _ => False)
  | .max1 => (match vs with | [v] => lstW v h fun xs => (match intsL xs with | some ns => 0 < ns.length ∧ Q (.d (.int (maxD 0 ns))) h | none => False) | _ => False)
def wMaxD (v : MV) (d : Int) (h : MH) (Q : MQ) : Prop := lstW v h fun xs => (match intsL xs with | some ns => Q (.d (.int (maxD d ns))) h | none => False)
def uniq (ns : List Int) : List Int := ns.foldl (fun acc x => if acc.any (· == x) = true then acc else acc ++ [x]) []
def wLenSet (v : MV) (h : MH) (Q : MQ) : Prop := lstW v h fun xs => (match intsL xs with | some ns => ns.length ≤ 4000 ∧ Q (.d (.int (uniq ns).length)) h | none => False)
def insU (x : Int) : List Int → List Int
  | [] => [x]
  | y :: l => if x < y then x :: y :: l else if x = y then y :: l else y :: insU x l
/-- sorted(set(ns)) -/
def sset (ns : List Int) : List Int := ns.foldr insU []
def wSrtSet (v : MV) (h : MH) (Q : MQ) : Prop := seqW v h fun xs => (match intsL xs with | some ns => ns.length ≤ 4000 ∧ newL ((sset ns).map .int) h Q | none => False)
def isTy : MTy → PyData → Bool
  | .int, .int _ => true
  | .int, .bool _ => true
  | .bool, .bool _ => true
  | .tuple, .tuple _ => true
  | .list, .list _ => true
  | .str, .str _ => true
  | _, _ => false
def wIsi (v : MV) (t : MTy) (h : MH) (Q : MQ) : Prop := match v with
  | .s _ => False
  | .m _ => False
  | v => datW v h fun x => (match x with | .dict _ => False | _ => Q (.d (.bool (isTy t x))) h)
def wMth (m : MM) (o : MV) (vs : List MV) (h : MH) (Q : MQ) : Prop := match m, o, vs with
  | .append, .r i, [.d x] => cellW h i fun xs => xs.length < 16777216 ∧ Q (.d .none) (h.set i (xs ++ [x]))
  | .pop, .r i, [] => cellW h i fun xs => (match xs[xs.length - 1]? with | some v => Q (.d v) (h.set i xs.dropLast) | none => False)
  | .extend, .r i, [v] => cellW h i fun xs => lstW v h fun ys => xs.length + ys.length ≤ 16777216 ∧ Q (.d .none) (h.set i (xs ++ ys))
  | .popAt, .r i, [.d (.int k)] => cellW h i fun xs => (0 ≤ k ∧ k < 2 ^ 62) ∧ (match xs[k.toNat]? with | some v => Q (.d v) (h.set i (xs.eraseIdx k.toNat)) | none => False)
  | .clear, .r i, [] => cellW h i fun _ => Q (.d .none) (h.set i [])
  | .reverse, .r i, [] => cellW h i fun xs => Q (.d .none) (h.set i xs.reverse)
  | _, _, _ => False
def wDgetD (o k x : MV) (h : MH) (Q : MQ) : Prop := match o, k, x with
  | .m i, .d k, .d x => dctW h i fun t ps => keyOk t k = true ∧ Q (.d ((dgetP ps k).getD x)) h
  | _, _, _ => False
def wIdx (o x : MV) (h : MH) (Q : MQ) : Prop := match x with
  | .d x => lstW o h fun xs => (flatD x = true ∧ xs.all flatD = true) ∧ (match xs.findIdx? fun y => PyData.eqv y x with | some j => Q (.d (.int (j : Nat))) h | none => False)
  | _ => False
def wSetI (o i v : MV) (h : MH) (K : MH → Prop) : Prop := match o, i, v with
  | .r a, .d (.int k), .d x => cellW h a fun xs => (match L2.ixN xs.length k with | some j => K (h.set a (xs.set j x)) | none => False)
  | .m a, .d k, .d x => dctW h a fun t ps => (keyOk t k = true ∧ ps.length < 16777216) ∧ K (h.set a (dcell t (dputP ps k x)))
  | _, _, _ => False

/-! ### what is walked -/
def rgL (a b : Int) : List PyData := (List.range (b - a).toNat).map fun (k : Nat) => .int (a + (k : Int))
def rgC (a : Int) (c : Int) (n : Nat) : List PyData := (List.range n).map fun (k : Nat) => .int (a + (k : Int) * c)
def in62 (i : Int) : Prop := -(2 ^ 62) ≤ i ∧ i < 2 ^ 62
/-- the cell that a walk reads -/
abbrev MGd := Option (Nat × List PyData)
def gdOk (g : MGd) (h : MH) : Prop := match g with
  | none => True
  | some (i, xs) => h[i]? = some xs
def enmL : Nat → List PyData → List PyData
  | _, [] => []
  | k, x :: r => .tuple [.int k, x] :: enmL (k + 1) r
def zipL : List PyData → List PyData → List PyData
  | x :: xs, y :: ys => .tuple [x, y] :: zipL xs ys
  | _, _ => []
abbrev MK := List PyData → MGd → MH → Prop
def wSeqI (v : MV) (h : MH) (f : List PyData → List PyData) (K : MK) : Prop := match v with
  | .d (.list xs) => K (f xs) none h
  | .d (.tuple xs) => K (f xs) none h
  | .r i => cellW h i fun xs => K (f xs) (some (i, xs)) h
  | .s ns => K (f (ns.map .int)) none h
  | _ => False
def wLstI (v : MV) (h : MH) (f : List PyData → List PyData) (K : MK) : Prop := match v with
  | .d (.list xs) => K (f xs) none h
  | .r i => cellW h i fun xs => K (f xs) (some (i, xs)) h
  | _ => False
def wRng (vs : List MV) (h : MH) (K : MK) : Prop := match vs with
  | [.d (.int b)] => in62 b ∧ K (rgL 0 b) none h
  | [.d (.int a), .d (.int b)] => (in62 a ∧ in62 b) ∧ K (rgL a b) none h
  | [.d (.int a), .d (.int b), .d (.int c)] => (in62 a ∧ in62 b ∧ c = -1) ∧ K (rgC a (-1) (a - b).toNat) none h
  | _ => False
def wRrg (vs : List MV) (h : MH) (K : MK) : Prop := match vs with
  | [.d (.int b)] => in62 b ∧ K (rgL 0 b).reverse none h
  | [.d (.int a), .d (.int b)] => (in62 a ∧ in62 b) ∧ K (rgL a b).reverse none h
  | _ => False
def rgOk (a b : Int) : Prop := in62 a ∧ in62 b ∧ (b - a).toNat ≤ 16777216
/-- list(range(..)), tuple(range(..)) -/
def wRgv (t : Bool) (vs : List MV) (h : MH) (Q : MQ) : Prop := match vs with
  | [.d (.int b)] => rgOk 0 b ∧ (if t then Q (.d (.tuple (rgL 0 b))) h else newL (rgL 0 b) h Q)
  | [.d (.int a), .d (.int b)] => rgOk a b ∧ (if t then Q (.d (.tuple (rgL a b))) h else newL (rgL a b) h Q)
  | _ => False
def setAll (is : List Nat) (xs : List PyData) (e : MEnv) : MEnv := match is, xs with
  | i :: is, x :: xs => setAll is xs (e.set i (some (.d x)))
  | _, _ => e
/-- a target takes an item -/
def tgW (tg : MTg) (x : PyData) (e : MEnv) (K : MEnv → Prop) : Prop := match tg with
  | .one i => K (e.set i (some (.d x)))
  | .tup is => (match x with | .tuple xs => xs.length = is.length ∧ K (setAll is xs e) | _ => False)
def wipeE (e : MEnv) : List (String × Nat) → MEnv
  | [] => e
  | p :: r => (wipeE e r).set p.2 none
/-- what a turn leaves behind is dropped -/
def cutE (n : Nat) (e : MEnv) : MEnv := e.map fun v => match v with
  | some (.r i) => if i < n then some (.r i) else none
  | some (.m i) => if i < n then some (.m i) else none
  | v => v

structure MD where
  nx : MEnv → MH → Prop
  rt : MQ
  bk : MEnv → MH → Prop
  ct : MEnv → MH → Prop
def trE (tr : Bool) (n : Nat) (K : MEnv → MH → Prop) : MEnv → MH → Prop := fun e h => if tr then K (cutE n e) (h.take n) else K e h
def forN (tr : Bool) (n : Nat) (tg : MTg) (g : MGd) (bW : MEnv → MH → MD → Prop) (D : MD) : List PyData → MEnv → MH → Prop
  | [], e, h => gdOk g h ∧ D.nx e h
  | x :: r, e, h => gdOk g h ∧ tgW tg x e fun e1 => bW e1 h { nx := trE tr n (forN tr n tg g bW D r), ct := trE tr n (forN tr n tg g bW D r), bk := D.nx, rt := D.rt }
def whlN (tr : Bool) (n : Nat) (cW : MEnv → MH → (Bool → MH → Prop) → Prop) (bW : MEnv → MH → MD → Prop) (D : MD) : Nat → MEnv → MH → Prop
  | 0, _, _ => False
  | k + 1, e, h => cW e h fun t h1 => if t then bW e h1 { nx := trE tr n (whlN tr n cW bW D k), ct := trE tr n (whlN tr n cW bW D k), bk := D.nx, rt := D.rt } else D.nx e h1
/-- a comprehension's turns: n the new list's cell -/
def lcN (n : Nat) (tg : MTg) (g : MGd) (tW : MEnv → MH → (Bool → MH → Prop) → Prop) (eW : MEnv → MH → MQ → Prop) (e : MEnv) (K : MH → Prop) : List PyData → MH → Prop
  | [], h => gdOk g h ∧ K h
  | x :: r, h => gdOk g h ∧ tgW tg x e fun e1 => tW e1 h fun t h1 =>
      if t then eW e1 h1 fun v h2 => (match v with | .d y => cellW h2 n fun acc => acc.length < 16777216 ∧ lcN n tg g tW eW e K r ((h2.set n (acc ++ [y])).take (n + 1)) | _ => False)
      else lcN n tg g tW eW e K r (h1.take (n + 1))

mutual
def wX (G : MG) (E : ME) : MX → MEnv → MH → MQ → Prop
  | .var i, e, h, Q => (match e[i]? with | some (some v) => Q v h | _ => False)
  | .cst c, _, h, Q => Q (.d c) h
  | .glo _ c, _, h, Q => Q (.d c) h
  | .bin op a b, e, h, Q => wX G E a e h fun x h1 => wX G E b e h1 fun y h2 => wBin op x y h2 Q
  | .neg a, e, h, Q => wX G E a e h fun x h1 => wNeg x h1 Q
  | .nott a, e, h, Q => wX G E a e h fun x h1 => wTru x h1 fun t => Q (.d (.bool (!t))) h1
  | .andd a b, e, h, Q => wX G E a e h fun x h1 => wTru x h1 fun t => if t then wX G E b e h1 Q else Q x h1
  | .orr a b, e, h, Q => wX G E a e h fun x h1 => wTru x h1 fun t => if t then Q x h1 else wX G E b e h1 Q
  | .cmp op a b, e, h, Q => wX G E a e h fun x h1 => wX G E b e h1 fun y h2 => wCmp op x y h2 fun t => Q (.d (.bool t)) h2
  | .chn op op' a b c, e, h, Q => wX G E a e h fun x h1 => wX G E b e h1 fun y h2 => wCmp op x y h2 fun t =>
      if t then wX G E c e h2 fun z h3 => wCmp op' y z h3 fun t' => Q (.d (.bool t')) h3 else Q (.d (.bool false)) h2
  | .isC neg a c, e, h, Q => wX G E a e h fun x h1 => wIs x c fun t => Q (.d (.bool (neg != t))) h1
  | .ite c a b, e, h, Q => wX G E c e h fun x h1 => wTru x h1 fun t => if t then wX G E a e h1 Q else wX G E b e h1 Q
  | .tup xs, e, h, Q => wXs G E xs e h fun vs h1 => wTup vs h1 Q
  | .lst xs, e, h, Q => wXs G E xs e h fun vs h1 => wLst vs h1 Q
  | .frz a, e, h, Q => wX G E a e h fun v h1 => wFrz h.length v h1 Q
  | .ix a i, e, h, Q => wX G E a e h fun x h1 => wX G E i e h1 fun y h2 => wIx x y h2 Q
  | .sl a lo hi, e, h, Q => wX G E a e h fun x h1 => wXs G E lo e h1 fun l h2 => wBound l fun lo' => wXs G E hi e h2 fun u h3 => wBound u fun hi' => wSl x lo' hi' h3 Q
  | .revL a, e, h, Q => wX G E a e h fun x h1 => wRev x h1 Q
  | .alt k a, e, h, Q => wX G E a e h fun x h1 => wAlt k x h1 Q
  | .rgv t xs, e, h, Q => wXs G E xs e h fun vs h1 => wRgv t vs h1 Q
  | .call f xs, e, h, Q => wXs G E xs e h fun vs h1 => G f vs h1 Q E
  | .blt b xs, e, h, Q => wXs G E xs e h fun vs h1 => wBlt b vs h1 Q
  | .isi a t, e, h, Q => wX G E a e h fun x h1 => wIsi x t h1 Q
  | .mth m o xs, e, h, Q => wX G E o e h fun x h1 => (match x with | .r _ => wXs G E xs e h1 fun vs h2 => wMth m x vs h2 Q | _ => False)
  | .lc elt tg it cond own, e, h, Q => wI G E it e h fun xs g h1 =>
      lcN h1.length tg g (fun e1 h2 K => wT G cond e1 h2 K) (fun e1 h2 Q' => wX G (fun _ _ => False) elt e1 h2 Q') (wipeE e own) (fun h2 => Q (.r h1.length) h2) xs (h1 ++ [[]])
  | .maxD a d, e, h, Q => wX G E a e h fun v h1 => wMaxD v d h1 Q
  | .lenSet a, e, h, Q => wX G E a e h fun v h1 => wLenSet v h1 Q
  | .srtSet a, e, h, Q => wX G E a e h fun v h1 => wSrtSet v h1 Q
  | .dgetD o k x, e, h, Q => wX G E o e h fun ov h1 => (match ov with | .m _ => wX G E k e h1 fun kv h2 => wX G E x e h2 fun xv h3 => wDgetD ov kv xv h3 Q | _ => False)
  | .idxOf o x, e, h, Q => wX G E o e h fun ov h1 => lstW ov h1 fun _ => wX G E x e h1 fun xv h2 => wIdx ov xv h2 Q
  | .dnew t, _, h, Q => Q (.m h.length) (h ++ [dcell t []])
  | .dlit ks xs, e, h, Q => wXs G E xs e h fun vs h1 => wDlit ks vs h1 Q
  | .pick xs i, e, h, Q => wXs G E xs e h fun vs h1 => wX G E i e h1 fun y h2 => wPick vs y h2 Q
def wXs (G : MG) (E : ME) : MXs → MEnv → MH → (List MV → MH → Prop) → Prop
  | .nil, _, h, Q => Q [] h
  | .cons x xs, e, h, Q => wX G E x e h fun v h1 => wXs G E xs e h1 fun vs h2 => Q (v :: vs) h2
def wT (G : MG) : MXs → MEnv → MH → (Bool → MH → Prop) → Prop
  | .nil, _, h, K => K true h
  | .cons x _, e, h, K => wX G (fun _ _ => False) x e h fun v h1 => wTru v h1 fun t => K t h1
def wI (G : MG) (E : ME) : MI → MEnv → MH → MK → Prop
  | .seq a, e, h, K => wX G E a e h fun v h1 => wSeqI v h1 id K
  | .rng xs, e, h, K => wXs G E xs e h fun vs h1 => wRng vs h1 K
  | .rev a, e, h, K => wX G E a e h fun v h1 => wSeqI v h1 List.reverse K
  | .rrg xs, e, h, K => wXs G E xs e h fun vs h1 => wRrg vs h1 K
  | .enm a, e, h, K => wX G E a e h fun v h1 => wSeqI v h1 (enmL 0) K
  | .zip a b, e, h, K => wX G E a e h fun v h1 => wX G E b e h1 fun u h2 => wSeqI v h2 id fun xs g1 h3 => wSeqI u h3 id fun ys g2 h4 => g1 = none ∧ g2 = none ∧ K (zipL xs ys) none h4
end
/-- data of all values -/
def allD : List MV → Option (List PyData)
  | [] => some []
  | .d x :: vs => (match allD vs with | some ds => some (x :: ds) | none => none)
  | _ :: _ => none
def wRaise (C : String) (fs : List String) (vs : List MV) (e : MEnv) (h : MH) (E : MExc → MEnv → MH → Prop) : Prop := match allD vs with
  | some ds => (ds.length = fs.length ∧ fs.length ≤ 1000) ∧ E ⟨C, (fs.zip ds).reverse⟩ e h
  | none => False
def haV (x : MExc) : MHa → Option PyData
  | .cst c => some c
  | .fld f => (x.flds.find? fun q => Str.ofString q.1 == Str.ofString f).map (·.2)
def hasV (x : MExc) : List MHa → Option (List PyData)
  | [] => some []
  | a :: r => (match haV x a, hasV x r with | some d, some ds => some (d :: ds) | _, _ => none)
def hvV (x : MExc) : MHv → Option PyData
  | .one a => haV x a
  | .tup as => (hasV x as).map .tuple
def hqV (c : String) (q : String × Bool) : Bool := q.2 || c == q.1
def hcV (x : MExc) : MHc → Bool
  | .one q => hqV x.cls q
  | .any qs => qs.any (hqV x.cls)
  | .nt c => !hcV x c
  | .and a b => hcV x a && hcV x b
def wHs (x : MExc) : MHs → MEnv → (MEnv → Prop) → Prop
  | .nil, e, K => K e
  | .set i v r, e, K => (match hvV x v with | some d => wHs x r (e.set i (some (.d d))) K | none => False)
  | .iff c b r, e, K => if hcV x c = true then wHs x b e (fun e1 => wHs x r e1 K) else wHs x r e K
def wHd (hd : MHd) (x : MExc) (e : MEnv) (h : MH) (D : MD) : Prop := match hd with
  | .set i c => D.nx (e.set i (some (.d c))) h
  | .named j b => j < e.length ∧ wHs x b (e.set j none) fun e1 => D.nx (e1.set j none) h
def wCat (all : Bool) (C : String) (cs : List String) (hd : MHd) (E : MExc → MEnv → MH → Prop) (D : MD) (x : MExc) (e : MEnv) (h : MH) : Prop :=
  cs.contains x.cls = true ∧ if (all || x.cls == C) = true then wHd hd x e h D else E x e h
mutual
def wS (G : MG) (E : MExc → MEnv → MH → Prop) : MS → MEnv → MH → MD → Prop
  | .ex a, e, h, D => wX G (fun x h' => E x e h') a e h fun _ h1 => D.nx e h1
  | .set i a, e, h, D => wX G (fun x h' => E x e h') a e h fun v h1 => D.nx (e.set i (some v)) h1
  | .setT is a, e, h, D => wX G (fun x h' => E x e h') a e h fun v h1 => (match v with | .d x => tgW (.tup is) x e fun e1 => D.nx e1 h1 | _ => False)
  | .par i j a b, e, h, D => wX G (fun x h' => E x e h') a e h fun v h1 => wX G (fun x h' => E x e h') b e h1 fun u h2 => D.nx ((e.set i (some v)).set j (some u)) h2
  | .setI o i a, e, h, D => wX G (fun x h' => E x e h') a e h fun v h1 => wX G (fun x h' => E x e h') o e h1 fun ov h2 => wX G (fun x h' => E x e h') i e h2 fun iv h3 => wSetI ov iv v h3 fun h4 => D.nx e h4
  | .aug i op a, e, h, D => (match e[i]? with | some (some x) => wX G (fun x h' => E x e h') a e h fun y h1 => (match x, y with | .d (.int p), .d (.int q) => wBin op (.d (.int p)) (.d (.int q)) h1 fun z h2 => D.nx (e.set i (some z)) h2 | _, _ => False) | _ => False)
  | .augI o i op a, e, h, D => wX G (fun x h' => E x e h') o e h fun ov h1 => wX G (fun x h' => E x e h') i e h1 fun iv h2 => (match ov with
      | .r c => wIx (.r c) iv h2 fun x h3 => wX G (fun x h' => E x e h') a e h3 fun y h4 =>
          (match x, y with | .d (.int p), .d (.int q) => wBin op (.d (.int p)) (.d (.int q)) h4 fun z h5 => wSetI (.r c) iv z h5 fun h6 => D.nx e h6 | _, _ => False)
      | _ => False)
  | .ret a, e, h, D => wX G (fun x h' => E x e h') a e h D.rt
  | .retN, e, h, D => D.rt (.d .none) h
  | .iff c a b, e, h, D => wX G (fun x h' => E x e h') c e h fun x h1 => wTru x h1 fun t => if t then wSs G E a e h1 D else wSs G E b e h1 D
  | .whl tr c b, e, h, D => ∃ k, whlN tr h.length (fun e1 h1 K => wX G (fun x h' => E x e1 h') c e1 h1 fun x h2 => wTru x h2 fun t => K t h2) (fun e1 h1 D1 => wSs G E b e1 h1 D1) D k e h
  | .forr tr tg it b, e, h, D => wI G (fun x h' => E x e h') it e h fun xs g h1 => forN tr h1.length tg g (fun e1 h2 D1 => wSs G E b e1 h2 D1) D xs e h1
  | .pass, e, h, D => D.nx e h
  | .brk, e, h, D => D.bk e h
  | .cont, e, h, D => D.ct e h
  | .stuck, _, _, _ => False
  | .raise C fs xs, e, h, _ => wXs G (fun x h' => E x e h') xs e h fun vs h1 => wRaise C fs vs e h1 E
  | .tryy b all C cs hd, e, h, D => wSs G (wCat all C cs hd E D) b e h D
def wSs (G : MG) (E : MExc → MEnv → MH → Prop) : MSs → MEnv → MH → MD → Prop
  | .nil, e, h, D => D.nx e h
  | .cons x xs, e, h, D => wS G E x e h { D with nx := fun e1 h1 => wSs G E xs e1 h1 D }
end

/-! ### defs -/
structure MF where
  name : String
  np : Nat
  names : List String
  body : MSs
  own : String := name
/-- a result, what else the call made dropped -/
def retW (n : Nat) (Q : MQ) : MQ := fun v h => match v with
  | .r i => if i < n then Q (.r i) (h.take n) else cellW h i fun xs => Q (.r n) (h.take n ++ [xs])
  | .m i => if i < n then Q (.m i) (h.take n) else cellW h i fun xs => Q (.m n) (h.take n ++ [xs])
  | v => Q v (h.take n)
def startE (F : MF) (vs : List MV) : MEnv := vs.map some ++ List.replicate (F.names.length - F.np) none
def findF (T : List MF) (f : String) : Option MF := T.find? fun F => F.name == f
def wF (T : List MF) : Nat → MG
  | 0 => fun _ _ _ _ _ => False
  | k + 1 => fun f vs h Q E => match findF T f with
    | some F => vs.length = F.np ∧ wSs (wF T k) (fun x _ h' => E x (h'.take h.length)) F.body (startE F vs) h
        { nx := fun _ h' => retW h.length Q (.d .none) h', rt := retW h.length Q, bk := fun _ _ => False, ct := fun _ _ => False }
    | none => False
end Mini
end
section
set_option Elab.async false
set_option linter.all false
set_option maxRecDepth 100000
namespace Mini
open PySem

theorem cellW_mono {h : MH} {i : Nat} {K K' : List PyData → Prop} (m : ∀ xs, K xs → K' xs) : cellW h i K → cellW h i K' := by
  unfold cellW; split
  · exact m _
  · exact id
theorem lstW_mono {v : MV} {h : MH} {K K' : List PyData → Prop} (m : ∀ xs, K xs → K' xs) : lstW v h K → lstW v h K' := by
  unfold lstW; split
  · exact m _
  · exact cellW_mono m
  · exact id
theorem seqW_mono {v : MV} {h : MH} {K K' : List PyData → Prop} (m : ∀ xs, K xs → K' xs) : seqW v h K → seqW v h K' := by
  unfold seqW; split
  · exact m _
  · exact m _
  · exact cellW_mono m
  · exact id
theorem dctW_mono {h : MH} {i : Nat} {K K' : Bool → List (PyData × PyData) → Prop} (m : ∀ t ps, K t ps → K' t ps) : dctW h i K → dctW h i K' := by
  unfold dctW; split
  · exact m _ _
  · exact m _ _
  · exact id
theorem datW_mono {v : MV} {h : MH} {K K' : PyData → Prop} (m : ∀ xs, K xs → K' xs) : datW v h K → datW v h K' := by
  unfold datW; split
  · exact m _
  · exact cellW_mono fun _ => m _
  · exact m _
  · exact id
theorem inW_mono {a : PyData} {v : MV} {h : MH} {K K' : Bool → Prop} (m : ∀ t, K t → K' t) : inW a v h K → inW a v h K' := by
  unfold inW; split
  · exact dctW_mono fun _ _ => And.imp_right (m _)
  · exact seqW_mono fun _ => And.imp_right (m _)
theorem atW_mono {xs : List PyData} {i : Int} {K K' : PyData → Prop} (mk : ∀ x, K x → K' x) : atW xs i K → atW xs i K' := by
  unfold atW; split
  · exact mk _
  · exact id
theorem lenW_mono {v : MV} {K K' : Int → Prop} (mk : ∀ x, K x → K' x) : lenW v h K → lenW v h K' := by
  unfold lenW; split
  · exact mk _
  · exact And.imp_right (mk _)
  · exact seqW_mono fun _ => mk _
section
variable {Q Q' : MQ} {h : MH} (m : ∀ v h, Q v h → Q' v h)
include m
theorem newL_mono {xs : List PyData} : newL xs h Q → newL xs h Q' := m _ _
theorem wAdd_mono {x y : MV} : wAdd x y h Q → wAdd x y h Q' := by
  unfold wAdd; split
  · exact m _ _
  · exact And.imp_right (m _ _)
  · exact And.imp_right (m _ _)
  · exact And.imp_right (newL_mono m)
  · exact cellW_mono fun _ => And.imp_right (newL_mono m)
  · exact cellW_mono fun _ => And.imp_right (newL_mono m)
  · exact cellW_mono fun _ => cellW_mono fun _ => And.imp_right (newL_mono m)
  · exact id
theorem wMul_mono {x y : MV} : wMul x y h Q → wMul x y h Q' := by
  unfold wMul; split
  · exact And.imp_right (m _ _)
  · exact And.imp_right (newL_mono m)
  · exact And.imp_right (m _ _)
  · exact id
theorem wBin_mono {op : MOp} {x y : MV} : wBin op x y h Q → wBin op x y h Q' := by
  cases op
  · exact wAdd_mono m
  · show (match x, y with | .d (.int a), .d (.int b) => Q (.d (.int (a - b))) h | _, _ => False) → (match x, y with | .d (.int a), .d (.int b) => Q' (.d (.int (a - b))) h | _, _ => False)
    split
    · exact m _ _
    · exact id
  · exact wMul_mono m
  all_goals
    unfold wBin
    dsimp only
    split
    · exact And.imp_right (m _ _)
    · exact id
theorem wNeg_mono {x : MV} : wNeg x h Q → wNeg x h Q' := by
  unfold wNeg; split
  · exact m _ _
  · exact id
theorem wTup_mono {vs : List MV} : wTup vs h Q → wTup vs h Q' := by
  unfold wTup; split
  · exact m _ _
  · exact id
theorem wLst_mono {vs : List MV} : wLst vs h Q → wLst vs h Q' := by
  unfold wLst; split
  · exact m _ _
  · exact id
theorem wFrz_mono {n : Nat} {v : MV} : wFrz n v h Q → wFrz n v h Q' := by
  unfold wFrz; split
  · exact m _ _
  · exact And.imp_right (cellW_mono fun _ => m _ _)
  · exact m _ _
  · exact id
theorem wDlit_mono {ks : List PyData} {vs : List MV} : wDlit ks vs h Q → wDlit ks vs h Q' := by
  unfold wDlit; split
  · exact And.imp_right (m _ _)
  · exact id
theorem wIx_mono {x y : MV} : wIx x y h Q → wIx x y h Q' := by
  unfold wIx; split
  · refine dctW_mono fun _ _ => And.imp_right ?_
    split
    · exact m _ _
    · exact id
  · split
    · exact m _ _
    · exact id
  · refine And.imp_right ?_
    split
    · exact m _ _
    · exact id
  · exact seqW_mono fun _ => atW_mono fun _ => m _ _
  · exact id
theorem wMaxD_mono {v : MV} {d : Int} : wMaxD v d h Q → wMaxD v d h Q' := by
  unfold wMaxD
  refine lstW_mono fun xs => ?_
  split
  · exact m _ _
  · exact id
theorem wLenSet_mono {v : MV} : wLenSet v h Q → wLenSet v h Q' := by
  unfold wLenSet
  refine lstW_mono fun xs => ?_
  split
  · exact And.imp_right (m _ _)
  · exact id
theorem wSrtSet_mono {v : MV} : wSrtSet v h Q → wSrtSet v h Q' := by
  unfold wSrtSet
  refine seqW_mono fun xs => ?_
  split
  · exact And.imp_right (m _ _)
  · exact id
theorem wPick_mono {vs : List MV} {y : MV} : wPick vs y h Q → wPick vs y h Q' := by
  unfold wPick; split
  · split
    · exact m _ _
    · exact id
  · exact id
theorem wSl_mono {x : MV} {lo hi : Option Int} : wSl x lo hi h Q → wSl x lo hi h Q' := by
  unfold wSl; split
  · exact m _ _
  · exact newL_mono m
  · exact cellW_mono fun _ => newL_mono m
  · exact newL_mono m
  · exact id
theorem wRev_mono {x : MV} : wRev x h Q → wRev x h Q' := by
  unfold wRev; split
  · exact m _ _
  · exact lstW_mono fun _ => newL_mono m
theorem wAlt_mono {k : Nat} {x : MV} : wAlt k x h Q → wAlt k x h Q' := by
  unfold wAlt; split
  · exact m _ _
  · exact lstW_mono fun _ => newL_mono m
theorem wRgv_mono {t : Bool} {vs : List MV} : wRgv t vs h Q → wRgv t vs h Q' := by
  unfold wRgv; split
  · exact And.imp_right (by cases t <;> exact m _ _)
  · exact And.imp_right (by cases t <;> exact m _ _)
  · exact id
theorem wRepr_mono {v : MV} : wRepr v h Q → wRepr v h Q' := datW_mono fun _ => And.imp_right (m _ _)
theorem wBlt_mono {b : MB} {vs : List MV} : wBlt b vs h Q → wBlt b vs h Q' := by
  cases b <;> (unfold wBlt; dsimp only; split)
  all_goals first
    | exact id
    | exact m _ _
    | exact And.imp_right (m _ _)
    | exact lenW_mono fun _ => m _ _
    | exact seqW_mono fun _ => m _ _
    | exact seqW_mono fun _ => newL_mono m
    | exact wRepr_mono m
    | (refine lstW_mono fun _ => ?_
       split
       · exact m _ _
       · exact id)
    | (refine lstW_mono fun _ => ?_
       split
       · exact newL_mono m
       · exact id)
    | (refine lstW_mono fun _ => ?_
       split
       · exact And.imp_right (m _ _)
       · exact id)
    | (refine seqW_mono fun _ => ?_
       split
       · exact m _ _
       · exact id)
theorem wIsi_mono {v : MV} {t : MTy} : wIsi v t h Q → wIsi v t h Q' := by
  unfold wIsi; split
  · exact id
  · exact id
  · exact datW_mono fun x => by
      split
      · exact id
      · exact m _ _
theorem wMth_mono {k : MM} {o : MV} {vs : List MV} : wMth k o vs h Q → wMth k o vs h Q' := by
  unfold wMth; split
  · exact cellW_mono fun _ => And.imp_right (m _ _)
  · refine cellW_mono fun _ => ?_
    split
    · exact m _ _
    · exact id
  · exact cellW_mono fun _ => lstW_mono fun _ => And.imp_right (m _ _)
  · refine cellW_mono fun _ => And.imp_right ?_
    split
    · exact m _ _
    · exact id
  · exact cellW_mono fun _ => m _ _
  · exact cellW_mono fun _ => m _ _
  · exact id
theorem wDgetD_mono {o k x : MV} : wDgetD o k x h Q → wDgetD o k x h Q' := by
  unfold wDgetD; split
  · exact dctW_mono fun _ _ => And.imp_right (m _ _)
  · exact id
theorem wIdx_mono {o x : MV} : wIdx o x h Q → wIdx o x h Q' := by
  unfold wIdx; split
  · refine lstW_mono fun _ => And.imp_right ?_
    split
    · exact m _ _
    · exact id
  · exact id
end
theorem wTru_mono {x : MV} {h : MH} {K K' : Bool → Prop} (m : ∀ t, K t → K' t) : wTru x h K → wTru x h K' := by
  unfold wTru; split
  all_goals first | exact m _ | exact And.imp_right (m _) | exact cellW_mono fun _ => m _ | exact id
theorem wCmp_mono {op : MCmp} {x y : MV} {h : MH} {K K' : Bool → Prop} (m : ∀ t, K t → K' t) : wCmp op x y h K → wCmp op x y h K' := by
  cases op <;> unfold wCmp <;> dsimp only
  all_goals first
    | exact datW_mono fun _ => datW_mono fun _ => And.imp_right (m _)
    | exact datW_mono fun _ => inW_mono fun _ => m _
    | exact datW_mono fun _ => inW_mono m
    | (split
       · exact m _
       · exact id)
    | (split
       · exact m _
       · exact m _
       · exact datW_mono fun _ => datW_mono fun _ => And.imp_right (m _))
theorem wIs_mono {x : MV} {c : PyData} {K K' : Bool → Prop} (m : ∀ t, K t → K' t) : wIs x c K → wIs x c K' := by
  unfold wIs; split
  · split <;> exact m _
  · split
    · exact m _
    · exact id
  · exact id
theorem wBound_mono {vs : List MV} {K K' : Option Int → Prop} (m : ∀ t, K t → K' t) : wBound vs K → wBound vs K' := by
  unfold wBound; split
  · exact m _
  · exact m _
  · exact id
theorem wSetI_mono {o i v : MV} {h : MH} {K K' : MH → Prop} (m : ∀ t, K t → K' t) : wSetI o i v h K → wSetI o i v h K' := by
  unfold wSetI; split
  · refine cellW_mono fun _ => ?_
    split
    · exact m _
    · exact id
  · exact dctW_mono fun _ _ => And.imp_right (m _)
  · exact id
theorem tgW_mono {tg : MTg} {x : PyData} {e : MEnv} {K K' : MEnv → Prop} (m : ∀ t, K t → K' t) : tgW tg x e K → tgW tg x e K' := by
  unfold tgW; split
  · exact m _
  · split
    · exact And.imp_right (m _)
    · exact id
section
variable {K K' : MK} {h : MH} (m : ∀ xs g h, K xs g h → K' xs g h)
include m
theorem wSeqI_mono {v : MV} {f : List PyData → List PyData} : wSeqI v h f K → wSeqI v h f K' := by
  unfold wSeqI; split
  all_goals first | exact m _ _ _ | exact cellW_mono fun _ => m _ _ _ | exact id
theorem wLstI_mono {v : MV} {f : List PyData → List PyData} : wLstI v h f K → wLstI v h f K' := by
  unfold wLstI; split
  all_goals first | exact m _ _ _ | exact cellW_mono fun _ => m _ _ _ | exact id
theorem wRng_mono {vs : List MV} : wRng vs h K → wRng vs h K' := by
  unfold wRng; split
  all_goals first | exact And.imp_right (m _ _ _) | exact id
theorem wRrg_mono {vs : List MV} : wRrg vs h K → wRrg vs h K' := by
  unfold wRrg; split
  all_goals first | exact And.imp_right (m _ _ _) | exact id
end
/-- a wish is weaker -/
structure MD.Le (D D' : MD) : Prop where
  nx : ∀ e h, D.nx e h → D'.nx e h
  rt : ∀ v h, D.rt v h → D'.rt v h
  bk : ∀ e h, D.bk e h → D'.bk e h
  ct : ∀ e h, D.ct e h → D'.ct e h
theorem trE_mono {tr : Bool} {n : Nat} {K K' : MEnv → MH → Prop} (m : ∀ e h, K e h → K' e h) (e : MEnv) (h : MH) : trE tr n K e h → trE tr n K' e h := by
  unfold trE; cases tr
  · exact m _ _
  · exact m _ _
theorem forN_mono {tr : Bool} {n : Nat} {tg : MTg} {g : MGd} {bW bW' : MEnv → MH → MD → Prop} (mb : ∀ e h D D', D.Le D' → bW e h D → bW' e h D') {D D' : MD} (m : D.Le D') :
    ∀ (xs : List PyData) (e : MEnv) (h : MH), forN tr n tg g bW D xs e h → forN tr n tg g bW' D' xs e h
  | [], _, _ => And.imp_right (m.nx _ _)
  | _ :: r, _, _ => And.imp_right (tgW_mono fun _ => mb _ _ _ _ ⟨trE_mono (forN_mono mb m r), m.rt, m.nx, trE_mono (forN_mono mb m r)⟩)
theorem whlN_mono {tr : Bool} {n : Nat} {cW cW' : MEnv → MH → (Bool → MH → Prop) → Prop} {bW bW' : MEnv → MH → MD → Prop} (mc : ∀ e h K K', (∀ t h, K t h → K' t h) → cW e h K → cW' e h K')
    (mb : ∀ e h D D', D.Le D' → bW e h D → bW' e h D') {D D' : MD} (m : D.Le D') : ∀ (k : Nat) (e : MEnv) (h : MH), whlN tr n cW bW D k e h → whlN tr n cW' bW' D' k e h
  | 0, _, _ => id
  | k + 1, _, _ => mc _ _ _ _ fun t h1 => by
    cases t
    · exact m.nx _ _
    · exact mb _ _ _ _ ⟨trE_mono (whlN_mono mc mb m k), m.rt, m.nx, trE_mono (whlN_mono mc mb m k)⟩
theorem lcN_mono {n : Nat} {tg : MTg} {g : MGd} {tW tW' : MEnv → MH → (Bool → MH → Prop) → Prop} {eW eW' : MEnv → MH → MQ → Prop} (mt : ∀ e h K K', (∀ t h, K t h → K' t h) → tW e h K → tW' e h K')
    (me : ∀ e h Q Q', (∀ v h, Q v h → Q' v h) → eW e h Q → eW' e h Q') {e : MEnv} {K K' : MH → Prop} (m : ∀ h, K h → K' h) : ∀ (xs : List PyData) (h : MH), lcN n tg g tW eW e K xs h → lcN n tg g tW' eW' e K' xs h
  | [], _ => And.imp_right (m _)
  | _ :: r, _ => And.imp_right (tgW_mono fun _ => mt _ _ _ _ fun t h1 => by
    cases t
    · exact lcN_mono mt me m r _
    · refine me _ _ _ _ fun v h2 => ?_
      split
      · exact cellW_mono fun _ => And.imp_right (lcN_mono mt me m r _)
      · exact id)
def MonoG (G G' : MG) : Prop := ∀ f vs h Q Q' E E', (∀ v h, Q v h → Q' v h) → (∀ x h, E x h → E' x h) → G f vs h Q E → G' f vs h Q' E'
theorem ite_mono {t : Bool} {A A' B B' : Prop} (a : A → A') (b : B → B') : (if t = true then A else B) → (if t = true then A' else B') := by
  cases t
  · exact b
  · exact a
theorem wRaise_mono {E E' : MExc → MEnv → MH → Prop} (me : ∀ x e h, E x e h → E' x e h) {C : String} {fs : List String} {vs : List MV} {e : MEnv} {h : MH} : wRaise C fs vs e h E → wRaise C fs vs e h E' := by
  unfold wRaise; split
  · exact And.imp_right (me _ _ _)
  · exact id
theorem wHs_mono {x : MExc} : ∀ {b : MHs} {e : MEnv} {K K' : MEnv → Prop}, (∀ e, K e → K' e) → wHs x b e K → wHs x b e K'
  | .nil, e, K, K', m => by unfold wHs; exact m _
  | .set i v r, e, K, K', m => by
    unfold wHs; split
    · exact wHs_mono m
    · exact id
  | .iff c b r, e, K, K', m => by
    unfold wHs; split
    · exact wHs_mono fun _ => wHs_mono m
    · exact wHs_mono m
theorem wHd_mono {hd : MHd} {x : MExc} {e : MEnv} {h : MH} {D D' : MD} (m : D.Le D') : wHd hd x e h D → wHd hd x e h D' := by
  cases hd with
  | set i c => exact m.nx _ _
  | named j b => exact And.imp_right (wHs_mono fun _ => m.nx _ _)
theorem wCat_mono {all : Bool} {C : String} {cs : List String} {hd : MHd} {E E' : MExc → MEnv → MH → Prop} (me : ∀ x e h, E x e h → E' x e h) {D D' : MD} (m : D.Le D') {x : MExc} {e : MEnv} {h : MH} : wCat all C cs hd E D x e h → wCat all C cs hd E' D' x e h := by
  unfold wCat
  refine And.imp_right fun q => ?_
  split
  · rename_i z; rw [if_pos z] at q; exact wHd_mono m q
  · rename_i z; rw [if_neg z] at q; exact me _ _ _ q
section
variable {G G' : MG} (mg : MonoG G G')
include mg
mutual
theorem wX_mono {E E' : ME} (me : ∀ x h, E x h → E' x h) : ∀ (a : MX) (e : MEnv) (h : MH) {Q Q' : MQ}, (∀ v h, Q v h → Q' v h) → wX G E a e h Q → wX G' E' a e h Q'
  | .var i, e, h, Q, Q', m => by
    unfold wX; split
    · exact m _ _
    · exact id
  | .cst c, e, h, Q, Q', m => by unfold wX; exact m _ _
  | .glo _ c, e, h, Q, Q', m => by unfold wX; exact m _ _
  | .bin op a b, e, h, Q, Q', m => by unfold wX; exact wX_mono me a _ _ fun _ _ => wX_mono me b _ _ fun _ _ => wBin_mono m
  | .neg a, e, h, Q, Q', m => by unfold wX; exact wX_mono me a _ _ fun _ _ => wNeg_mono m
  | .nott a, e, h, Q, Q', m => by unfold wX; exact wX_mono me a _ _ fun _ _ => wTru_mono fun _ => m _ _
  | .andd a b, e, h, Q, Q', m => by unfold wX; exact wX_mono me a _ _ fun _ _ => wTru_mono fun _ => ite_mono (wX_mono me b _ _ m) (m _ _)
  | .orr a b, e, h, Q, Q', m => by unfold wX; exact wX_mono me a _ _ fun _ _ => wTru_mono fun _ => ite_mono (m _ _) (wX_mono me b _ _ m)
  | .cmp op a b, e, h, Q, Q', m => by unfold wX; exact wX_mono me a _ _ fun _ _ => wX_mono me b _ _ fun _ _ => wCmp_mono fun _ => m _ _
  | .chn op op' a b c, e, h, Q, Q', m => by
    unfold wX
    exact wX_mono me a _ _ fun _ _ => wX_mono me b _ _ fun _ _ => wCmp_mono fun _ => ite_mono (wX_mono me c _ _ fun _ _ => wCmp_mono fun _ => m _ _) (m _ _)
  | .isC neg a c, e, h, Q, Q', m => by unfold wX; exact wX_mono me a _ _ fun _ _ => wIs_mono fun _ => m _ _
  | .ite c a b, e, h, Q, Q', m => by unfold wX; exact wX_mono me c _ _ fun _ _ => wTru_mono fun _ => ite_mono (wX_mono me a _ _ m) (wX_mono me b _ _ m)
  | .tup xs, e, h, Q, Q', m => by unfold wX; exact wXs_mono me xs _ _ fun _ _ => wTup_mono m
  | .lst xs, e, h, Q, Q', m => by unfold wX; exact wXs_mono me xs _ _ fun _ _ => wLst_mono m
  | .frz a, e, h, Q, Q', m => by unfold wX; exact wX_mono me a _ _ fun _ _ => wFrz_mono m
  | .maxD a d, e, h, Q, Q', m => by unfold wX; exact wX_mono me a _ _ fun _ _ => wMaxD_mono m
  | .lenSet a, e, h, Q, Q', m => by unfold wX; exact wX_mono me a _ _ fun _ _ => wLenSet_mono m
  | .srtSet a, e, h, Q, Q', m => by unfold wX; exact wX_mono me a _ _ fun _ _ => wSrtSet_mono m
  | .dgetD o k x, e, h, Q, Q', m => by
    unfold wX
    refine wX_mono me o _ _ fun _ _ => ?_
    split
    · exact wX_mono me k _ _ fun _ _ => wX_mono me x _ _ fun _ _ => wDgetD_mono m
    · exact id
  | .idxOf o x, e, h, Q, Q', m => by
    unfold wX
    exact wX_mono me o _ _ fun _ _ => lstW_mono fun _ => wX_mono me x _ _ fun _ _ => wIdx_mono m
  | .dnew t, e, h, Q, Q', m => by unfold wX; exact m _ _
  | .dlit ks xs, e, h, Q, Q', m => by unfold wX; exact wXs_mono me xs _ _ fun _ _ => wDlit_mono m
  | .pick xs i, e, h, Q, Q', m => by unfold wX; exact wXs_mono me xs _ _ fun _ _ => wX_mono me i _ _ fun _ _ => wPick_mono m
  | .ix a i, e, h, Q, Q', m => by unfold wX; exact wX_mono me a _ _ fun _ _ => wX_mono me i _ _ fun _ _ => wIx_mono m
  | .sl a lo hi, e, h, Q, Q', m => by
    unfold wX
    exact wX_mono me a _ _ fun _ _ => wXs_mono me lo _ _ fun _ _ => wBound_mono fun _ => wXs_mono me hi _ _ fun _ _ => wBound_mono fun _ => wSl_mono m
  | .revL a, e, h, Q, Q', m => by unfold wX; exact wX_mono me a _ _ fun _ _ => wRev_mono m
  | .alt k a, e, h, Q, Q', m => by unfold wX; exact wX_mono me a _ _ fun _ _ => wAlt_mono m
  | .rgv t xs, e, h, Q, Q', m => by unfold wX; exact wXs_mono me xs _ _ fun _ _ => wRgv_mono m
  | .call f xs, e, h, Q, Q', m => by unfold wX; exact wXs_mono me xs _ _ fun _ _ => mg _ _ _ _ _ _ _ m me
  | .blt b xs, e, h, Q, Q', m => by unfold wX; exact wXs_mono me xs _ _ fun _ _ => wBlt_mono m
  | .isi a t, e, h, Q, Q', m => by unfold wX; exact wX_mono me a _ _ fun _ _ => wIsi_mono m
  | .mth k o xs, e, h, Q, Q', m => by
    unfold wX
    refine wX_mono me o _ _ fun _ _ => ?_
    split
    · exact wXs_mono me xs _ _ fun _ _ => wMth_mono m
    · exact id
  | .lc elt tg it cond own, e, h, Q, Q', m => by
    unfold wX
    exact wI_mono me it _ _ fun xs g h1 => lcN_mono (fun e1 h2 _ _ k => wT_mono cond e1 h2 k) (fun e1 h2 _ _ k => wX_mono (fun _ _ z => z) elt e1 h2 k) (fun h2 => m _ h2) xs _
theorem wXs_mono {E E' : ME} (me : ∀ x h, E x h → E' x h) : ∀ (a : MXs) (e : MEnv) (h : MH) {Q Q' : List MV → MH → Prop}, (∀ v h, Q v h → Q' v h) → wXs G E a e h Q → wXs G' E' a e h Q'
  | .nil, e, h, Q, Q', m => by unfold wXs; exact m _ _
  | .cons x xs, e, h, Q, Q', m => by unfold wXs; exact wX_mono me x _ _ fun _ _ => wXs_mono me xs _ _ fun _ _ => m _ _
theorem wT_mono : ∀ (a : MXs) (e : MEnv) (h : MH) {K K' : Bool → MH → Prop}, (∀ v h, K v h → K' v h) → wT G a e h K → wT G' a e h K'
  | .nil, e, h, K, K', m => by unfold wT; exact m _ _
  | .cons x xs, e, h, K, K', m => by unfold wT; exact wX_mono (fun _ _ z => z) x _ _ fun _ _ => wTru_mono fun _ => m _ _
theorem wI_mono {E E' : ME} (me : ∀ x h, E x h → E' x h) : ∀ (a : MI) (e : MEnv) (h : MH) {K K' : MK}, (∀ xs g h, K xs g h → K' xs g h) → wI G E a e h K → wI G' E' a e h K'
  | .seq a, e, h, K, K', m => by unfold wI; exact wX_mono me a _ _ fun _ _ => wSeqI_mono m
  | .rng xs, e, h, K, K', m => by unfold wI; exact wXs_mono me xs _ _ fun _ _ => wRng_mono m
  | .rev a, e, h, K, K', m => by unfold wI; exact wX_mono me a _ _ fun _ _ => wSeqI_mono m
  | .rrg xs, e, h, K, K', m => by unfold wI; exact wXs_mono me xs _ _ fun _ _ => wRrg_mono m
  | .enm a, e, h, K, K', m => by unfold wI; exact wX_mono me a _ _ fun _ _ => wSeqI_mono m
  | .zip a b, e, h, K, K', m => by
    unfold wI
    exact wX_mono me a _ _ fun _ _ => wX_mono me b _ _ fun _ _ => wSeqI_mono fun _ _ _ => wSeqI_mono fun _ _ _ => And.imp_right (And.imp_right (m _ _ _))
end
mutual
theorem wS_mono {E E' : MExc → MEnv → MH → Prop} (me : ∀ x e h, E x e h → E' x e h) : ∀ (a : MS) (e : MEnv) (h : MH) {D D' : MD}, D.Le D' → wS G E a e h D → wS G' E' a e h D'
  | .ex a, e, h, D, D', m => by unfold wS; exact wX_mono mg (fun _ _ => me _ _ _) a _ _ fun _ _ => m.nx _ _
  | .set i a, e, h, D, D', m => by unfold wS; exact wX_mono mg (fun _ _ => me _ _ _) a _ _ fun _ _ => m.nx _ _
  | .setT is a, e, h, D, D', m => by
    unfold wS
    refine wX_mono mg (fun _ _ => me _ _ _) a _ _ fun _ _ => ?_
    split
    · exact tgW_mono fun _ => m.nx _ _
    · exact id
  | .par i j a b, e, h, D, D', m => by unfold wS; exact wX_mono mg (fun _ _ => me _ _ _) a _ _ fun _ _ => wX_mono mg (fun _ _ => me _ _ _) b _ _ fun _ _ => m.nx _ _
  | .setI o i a, e, h, D, D', m => by
    unfold wS
    exact wX_mono mg (fun _ _ => me _ _ _) a _ _ fun _ _ => wX_mono mg (fun _ _ => me _ _ _) o _ _ fun _ _ => wX_mono mg (fun _ _ => me _ _ _) i _ _ fun _ _ => wSetI_mono fun _ => m.nx _ _
  | .aug i op a, e, h, D, D', m => by
    unfold wS; split
    · refine wX_mono mg (fun _ _ => me _ _ _) a _ _ fun _ _ => ?_
      split
      · exact wBin_mono fun _ _ => m.nx _ _
      · exact id
    · exact id
  | .augI o i op a, e, h, D, D', m => by
    unfold wS
    refine wX_mono mg (fun _ _ => me _ _ _) o _ _ fun _ _ => wX_mono mg (fun _ _ => me _ _ _) i _ _ fun _ _ => ?_
    split
    · refine wIx_mono fun _ _ => wX_mono mg (fun _ _ => me _ _ _) a _ _ fun _ _ => ?_
      split
      · exact wBin_mono fun _ _ => wSetI_mono fun _ => m.nx _ _
      · exact id
    · exact id
  | .ret a, e, h, D, D', m => by unfold wS; exact wX_mono mg (fun _ _ => me _ _ _) a _ _ m.rt
  | .retN, e, h, D, D', m => by unfold wS; exact m.rt _ _
  | .iff c a b, e, h, D, D', m => by
    unfold wS
    exact wX_mono mg (fun _ _ => me _ _ _) c _ _ fun _ _ => wTru_mono fun _ => ite_mono (wSs_mono me a _ _ m) (wSs_mono me b _ _ m)
  | .whl tr c b, e, h, D, D', m => by
    unfold wS
    rintro ⟨k, q⟩
    exact ⟨k, whlN_mono (fun e1 h1 _ _ kk => wX_mono mg (fun _ _ => me _ _ _) c e1 h1 fun _ _ => wTru_mono fun _ => kk _ _) (fun e1 h1 _ _ kk => wSs_mono me b e1 h1 kk) m k e h q⟩
  | .forr tr tg it b, e, h, D, D', m => by
    unfold wS
    exact wI_mono mg (fun _ _ => me _ _ _) it _ _ fun xs g h1 => forN_mono (fun e1 h2 _ _ kk => wSs_mono me b e1 h2 kk) m xs _ _
  | .pass, e, h, D, D', m => by unfold wS; exact m.nx _ _
  | .brk, e, h, D, D', m => by unfold wS; exact m.bk _ _
  | .cont, e, h, D, D', m => by unfold wS; exact m.ct _ _
  | .stuck, e, h, D, D', m => by unfold wS; exact id
  | .raise C fs xs, e, h, D, D', m => by
    unfold wS
    exact wXs_mono mg (fun _ _ => me _ _ _) xs _ _ fun _ _ => wRaise_mono me
  | .tryy b all C cs hd, e, h, D, D', m => by
    unfold wS
    exact wSs_mono (fun x e h => wCat_mono me m) b _ _ m
theorem wSs_mono {E E' : MExc → MEnv → MH → Prop} (me : ∀ x e h, E x e h → E' x e h) : ∀ (a : MSs) (e : MEnv) (h : MH) {D D' : MD}, D.Le D' → wSs G E a e h D → wSs G' E' a e h D'
  | .nil, e, h, D, D', m => by unfold wSs; exact m.nx _ _
  | .cons x xs, e, h, D, D', m => by unfold wSs; exact wS_mono me x _ _ ⟨fun _ _ => wSs_mono me xs _ _ m, m.rt, m.bk, m.ct⟩
end
end
theorem retW_mono {n : Nat} {Q Q' : MQ} (m : ∀ v h, Q v h → Q' v h) (v : MV) (h : MH) : retW n Q v h → retW n Q' v h := by
  unfold retW; split
  · split
    · exact m _ _
    · exact cellW_mono fun _ => m _ _
  · split
    · exact m _ _
    · exact cellW_mono fun _ => m _ _
  · exact m _ _
theorem wF_mono (T : List MF) : ∀ k, MonoG (wF T k) (wF T k)
  | 0 => fun _ _ _ _ _ _ _ _ _ => id
  | k + 1 => fun f vs h Q Q' E E' m me => by
    unfold wF; split
    · exact And.imp_right (wSs_mono (wF_mono T k) (fun _ _ _ => me _ _) _ _ _ ⟨fun _ h2 => retW_mono m (.d .none) h2, retW_mono m, fun _ _ => id, fun _ _ => id⟩)
    · exact id
theorem wF_up (T : List MF) : ∀ k, MonoG (wF T k) (wF T (k + 1))
  | 0 => fun _ _ _ _ _ _ _ _ _ h => h.elim
  | k + 1 => fun f vs h Q Q' E E' m me => by
    unfold wF; split
    · exact And.imp_right (wSs_mono (wF_up T k) (fun _ _ _ => me _ _) _ _ _ ⟨fun _ h2 => retW_mono m (.d .none) h2, retW_mono m, fun _ _ => id, fun _ _ => id⟩)
    · exact id
end Mini
end
section
set_option Elab.async false
set_option linter.all false
set_option maxRecDepth 100000
namespace Mini
open PySem PySem.Spec PyProof.Rows L2

/-! ### data as it lies in the abstract heap; B: the cells that may be written -/
def TupAt (K : PySem.W.Frag) (H : Hp) (a : Addr) (xs : List V) : Prop :=
  (gnd = true ∧ ∃ (o : Obj) (its : Array Value) (n : Nat), K.lookup a = some o ∧ o.cls = .type "tuple" ∧ o.data = .seq its n ∧ its.size ≤ sizeLine ∧ Vals xs its.toList) ∨ H a = some (.tup xs)
theorem TupAt.sq {K : PySem.W.Frag} {H : Hp} {a : Addr} {xs : List V} (h : TupAt K H a xs) : SqT K H a xs := by
  rcases h with ⟨_, h⟩ | h
  · exact .inr h
  · exact SqT.of h
theorem TupAt.mono {K : PySem.W.Frag} {H H' : Hp} {a : Addr} {xs : List V} (mt : ∀ a xs, H a = some (.tup xs) → H' a = some (.tup xs)) (h : TupAt K H a xs) : TupAt K H' a xs := h.imp id (mt a xs)
theorem TupAt.own {K : PySem.W.Frag} {H : Hp} {a : Addr} {xs : List V} (g : gnd = false) (h : TupAt K H a xs) : H a = some (.tup xs) := by
  rcases h with ⟨e, _⟩ | h
  · rw [g] at e; cases e
  · exact h
mutual
inductive Fz (K : PySem.W.Frag) (B : Addr → Prop) (H : Hp) : V → PyData → Prop
  | non : Fz K B H .non .none
  | bl (b : Bool) : Fz K B H (.bl b) (.bool b)
  | int (i : Int) : Fz K B H (.int i) (.int i)
  | str (x : Str) : Fz K B H (.str x) (.str x)
  | lst {a : Addr} {xs : List V} {ds : List PyData} : H a = some (.lst xs) → ¬ B a → FzAll K B H xs ds → Fz K B H (.ref a) (.list ds)
  | tup {a : Addr} {xs : List V} {ds : List PyData} : TupAt K H a xs → FzAll K B H xs ds → Fz K B H (.ref a) (.tuple ds)
inductive FzAll (K : PySem.W.Frag) (B : Addr → Prop) (H : Hp) : List V → List PyData → Prop
  | nil : FzAll K B H [] []
  | cons {v : V} {vs : List V} {d : PyData} {ds : List PyData} : Fz K B H v d → FzAll K B H vs ds → FzAll K B H (v :: vs) (d :: ds)
end
section
variable {K : PySem.W.Frag} {B B' : Addr → Prop} {H H' : Hp}
mutual
theorem Fz.mono (ml : ∀ a xs, ¬ B a → H a = some (.lst xs) → ¬ B' a ∧ H' a = some (.lst xs)) (mt : ∀ a xs, H a = some (.tup xs) → H' a = some (.tup xs)) : ∀ (d : PyData) (v : V), Fz K B H v d → Fz K B' H' v d
  | .none, _, h => by cases h; exact .non
  | .bool _, _, h => by cases h; exact .bl _
  | .int _, _, h => by cases h; exact .int _
  | .str _, _, h => by cases h; exact .str _
  | .list ds, _, h => by
    cases h with
    | lst e nb a => exact .lst (ml _ _ nb e).2 (ml _ _ nb e).1 (FzAll.mono ml mt ds _ a)
  | .tuple ds, _, h => by
    cases h with
    | tup e a => exact .tup (e.mono mt) (FzAll.mono ml mt ds _ a)
  | .dict _, _, h => by cases h
theorem FzAll.mono (ml : ∀ a xs, ¬ B a → H a = some (.lst xs) → ¬ B' a ∧ H' a = some (.lst xs)) (mt : ∀ a xs, H a = some (.tup xs) → H' a = some (.tup xs)) : ∀ (ds : List PyData) (vs : List V), FzAll K B H vs ds → FzAll K B' H' vs ds
  | [], _, h => by cases h; exact .nil
  | d :: ds, _, h => by
    cases h with
    | cons h1 h2 => exact .cons (Fz.mono ml mt d _ h1) (FzAll.mono ml mt ds _ h2)
end
theorem FzAll.length : ∀ {vs : List V} {ds : List PyData}, FzAll K B H vs ds → vs.length = ds.length
  | _, _, .nil => rfl
  | _, _, .cons _ t => congrArg (· + 1) (FzAll.length t)
theorem FzAll.append : ∀ {vs : List V} {ds : List PyData} {ws : List V} {es : List PyData}, FzAll K B H vs ds → FzAll K B H ws es → FzAll K B H (vs ++ ws) (ds ++ es)
  | _, _, _, _, .nil, s => s
  | _, _, _, _, .cons r t, s => .cons r (FzAll.append t s)
theorem FzAll.take : ∀ {vs : List V} {ds : List PyData} (n : Nat), FzAll K B H vs ds → FzAll K B H (vs.take n) (ds.take n)
  | _, _, 0, _ => .nil
  | _, _, _ + 1, .nil => .nil
  | _, _, n + 1, .cons r t => .cons r (FzAll.take n t)
theorem FzAll.drop : ∀ {vs : List V} {ds : List PyData} (n : Nat), FzAll K B H vs ds → FzAll K B H (vs.drop n) (ds.drop n)
  | _, _, 0, r => r
  | _, _, _ + 1, .nil => .nil
  | _, _, n + 1, .cons _ t => FzAll.drop n t
theorem FzAll.set {v : V} {d : PyData} (r : Fz K B H v d) : ∀ {vs : List V} {ds : List PyData} (n : Nat), FzAll K B H vs ds → FzAll K B H (vs.set n v) (ds.set n d)
  | _, _, _, .nil => .nil
  | _, _, 0, .cons _ t => .cons r t
  | _, _, n + 1, .cons q t => .cons q (FzAll.set r n t)
theorem FzAll.reverse {vs : List V} {ds : List PyData} (h : FzAll K B H vs ds) : FzAll K B H vs.reverse ds.reverse := by
  induction vs generalizing ds with
  | nil => cases h; exact .nil
  | cons v vs ih =>
    cases h with
    | cons r t => rw [List.reverse_cons, List.reverse_cons]; exact (ih t).append (.cons r .nil)
theorem FzAll.get : ∀ {vs : List V} {ds : List PyData} {i : Nat} {d : PyData}, FzAll K B H vs ds → ds[i]? = some d → ∃ v, vs[i]? = some v ∧ Fz K B H v d
  | _, _, _, _, .nil, e => by simp at e
  | _, _, 0, _, .cons r _, e => by simp at e; subst e; exact ⟨_, rfl, r⟩
  | _, _, i + 1, d, .cons _ t, e => by
    obtain ⟨v, h1, h2⟩ := FzAll.get (i := i) (d := d) t (by simpa using e)
    exact ⟨v, by simpa using h1, h2⟩
theorem FzAll.flat {vs : List V} {ds : List PyData} (h : FzAll K B H vs ds) : ∀ k : Nat, FzAll K B H (List.replicate k vs).flatten (List.replicate k ds).flatten
  | 0 => .nil
  | k + 1 => by rw [List.replicate_succ, List.replicate_succ, List.flatten_cons, List.flatten_cons]; exact h.append (FzAll.flat h k)
theorem FzAll.dropLast {vs : List V} {ds : List PyData} (h : FzAll K B H vs ds) : FzAll K B H vs.dropLast ds.dropLast := by
  rw [List.dropLast_eq_take, List.dropLast_eq_take, h.length]; exact h.take _
mutual
theorem Fz.dp : ∀ (d : PyData) (v : V), Fz K B H v d → Dp K H v d
  | .none, _, h => by cases h; exact .non
  | .bool _, _, h => by cases h; exact .bl _
  | .int _, _, h => by cases h; exact .int _
  | .str _, _, h => by cases h; exact .str _
  | .list ds, _, h => by
    cases h with
    | lst e nb a => exact .lst (SqL.of e) (FzAll.dp ds _ a)
  | .tuple ds, _, h => by
    cases h with
    | tup e a => exact .tup e.sq (FzAll.dp ds _ a)
  | .dict _, _, h => by cases h
theorem FzAll.dp : ∀ (ds : List PyData) (vs : List V), FzAll K B H vs ds → DpAll K H vs ds
  | [], _, h => by cases h; exact .nil
  | d :: ds, _, h => by
    cases h with
    | cons h1 h2 => exact .cons (Fz.dp d _ h1) (FzAll.dp ds _ h2)
end
end

/-! ### worlds -/
structure Wd where
  p : Nat → Addr
  h : MH
  H : Hp
def live (W : Wd) (a : Addr) : Prop := ∃ i xs, W.h[i]? = some xs ∧ W.p i = a
def ScrOk (K : PySem.W.Frag) (H : Hp) (a : Addr) (ns : List Int) : Prop :=
  (∃ o, H a = some (.frz o (.lst (ns.map V.int)))) ∨
    ∃ (o : Obj) (its : Array Value) (n : Nat), K.lookup a = some o ∧ o.cls = .type "list" ∧ o.dict = none ∧ o.data = .seq its n ∧ its.size ≤ sizeLine ∧ Vals (ns.map V.int) its.toList
theorem ScrOk.sq {K : PySem.W.Frag} {H : Hp} {a : Addr} {ns : List Int} (h : ScrOk K H a ns) : SqL K H a (ns.map V.int) := by
  rcases h with ⟨o, h⟩ | h
  · exact .inl (.inr ⟨o, h⟩)
  · exact .inr h
/-- is the cell a dict -/
def kd (h : MH) (i : Nat) : Bool := match h[i]? with
  | some xs => isDc xs
  | none => false
def keyD : L2.Key → PyData
  | .inl i => .int i
  | .inr s => .str s
/-- a dict as it lies -/
def DOk (K : PySem.W.Frag) (B : Addr → Prop) (H : Hp) (a : Addr) (t : Bool) (ps : List (PyData × PyData)) : Prop := match t with
  | false => ∃ kvs, H a = some (.dK kvs) ∧ Paired (fun (x : L2.Key × V) p => keyD x.1 = p.1 ∧ Fz K B H x.2 p.2) kvs ps
  | true => ∃ kvs, H a = some (.dT kvs) ∧ Paired (fun (x : List L2.Key × V) p => PyData.tuple (x.1.map keyD) = p.1 ∧ Fz K B H x.2 p.2) kvs ps
/-- a cell as it lies -/
def CellOk (K : PySem.W.Frag) (B : Addr → Prop) (H : Hp) (a : Addr) (xs : MCell) : Prop :=
  (isDc xs = false ∧ ∃ vs, H a = some (.lst vs) ∧ FzAll K B H vs xs) ∨ ∃ t ps, xs = dcell t ps ∧ DOk K B H a t ps
def CellO : HO → Prop
  | .lst _ => True
  | .dK _ => True
  | .dT _ => True
  | _ => False
theorem dc_dcell {t : Bool} {ps : List (PyData × PyData)} : isDc (dcell t ps) = true := by cases t <;> rfl
theorem CellOk.obj {K : PySem.W.Frag} {B : Addr → Prop} {H : Hp} {a : Addr} {xs : MCell} (c : CellOk K B H a xs) : ∃ o, H a = some o ∧ CellO o := by
  rcases c with ⟨_, vs, e, _⟩ | ⟨t, ps, _, d⟩
  · exact ⟨_, e, trivial⟩
  · cases t with
    | false => obtain ⟨kvs, e, _⟩ := d; exact ⟨_, e, trivial⟩
    | true => obtain ⟨kvs, e, _⟩ := d; exact ⟨_, e, trivial⟩
theorem CellOk.lst {K : PySem.W.Frag} {B : Addr → Prop} {H : Hp} {a : Addr} {xs : MCell} (c : CellOk K B H a xs) (k : isDc xs = false) : ∃ vs, H a = some (.lst vs) ∧ FzAll K B H vs xs := by
  rcases c with ⟨_, z⟩ | ⟨t, ps, rfl, _⟩
  · exact z
  · rw [dc_dcell] at k; cases k
theorem dcell_inj {t t' : Bool} {ps ps' : List (PyData × PyData)} (h : dcell t ps = dcell t' ps') : t = t' ∧ ps = ps' := by
  cases t <;> cases t' <;> simp [dcell] at h ⊢ <;> exact h
theorem CellOk.dct {K : PySem.W.Frag} {B : Addr → Prop} {H : Hp} {a : Addr} {t : Bool} {ps : List (PyData × PyData)} (c : CellOk K B H a (dcell t ps)) : DOk K B H a t ps := by
  rcases c with ⟨k, _⟩ | ⟨t', ps', e, d⟩
  · rw [dc_dcell] at k; cases k
  · obtain ⟨rfl, rfl⟩ := dcell_inj e
    exact d
theorem fz_nd {K : PySem.W.Frag} {B : Addr → Prop} {H : Hp} {vs : List V} {xs : MCell} (f : FzAll K B H vs xs) : isDc xs = false := by
  cases f with
  | nil => rfl
  | cons r t => cases r <;> rfl
theorem DOk.mono {K : PySem.W.Frag} {B B' : Addr → Prop} {H H' : Hp} {a : Addr} {t : Bool} {ps : List (PyData × PyData)} (ml : ∀ a xs, ¬ B a → H a = some (.lst xs) → ¬ B' a ∧ H' a = some (.lst xs)) (mt : ∀ a xs, H a = some (.tup xs) → H' a = some (.tup xs))
    (mo : ∀ o, H a = some o → CellO o → H' a = some o) (c : DOk K B H a t ps) : DOk K B' H' a t ps := by
  cases t with
  | false => obtain ⟨kvs, e, p⟩ := c; exact ⟨kvs, mo _ e trivial, Paired.mapP p fun x q z => ⟨z.1, Fz.mono ml mt _ _ z.2⟩⟩
  | true => obtain ⟨kvs, e, p⟩ := c; exact ⟨kvs, mo _ e trivial, Paired.mapP p fun x q z => ⟨z.1, Fz.mono ml mt _ _ z.2⟩⟩
theorem CellOk.mono {K : PySem.W.Frag} {B B' : Addr → Prop} {H H' : Hp} {a : Addr} {xs : MCell} (ml : ∀ a xs, ¬ B a → H a = some (.lst xs) → ¬ B' a ∧ H' a = some (.lst xs)) (mt : ∀ a xs, H a = some (.tup xs) → H' a = some (.tup xs))
    (mo : ∀ o, H a = some o → CellO o → H' a = some o) (c : CellOk K B H a xs) : CellOk K B' H' a xs := by
  rcases c with ⟨k, vs, e, f⟩ | ⟨t, ps, e, d⟩
  · exact .inl ⟨k, vs, mo _ e trivial, FzAll.mono ml mt _ _ f⟩
  · exact .inr ⟨t, ps, e, d.mono ml mt mo⟩
theorem kd_of {h : MH} {i : Nat} {xs : MCell} (e : h[i]? = some xs) : kd h i = isDc xs := by unfold kd; rw [e]
def RV (K : PySem.W.Frag) (W : Wd) : MV → V → Prop
  | .d x, v => Fz K (live W) W.H v x
  | .r i, v => (i < W.h.length ∧ kd W.h i = false) ∧ v = .ref (W.p i)
  | .m i, v => (i < W.h.length ∧ kd W.h i = true) ∧ v = .ref (W.p i)
  | .s ns, v => ∃ a, v = .ref a ∧ ScrOk K W.H a ns
inductive RVs (K : PySem.W.Frag) (W : Wd) : List MV → List V → Prop
  | nil : RVs K W [] []
  | cons {d : MV} {ds : List MV} {v : V} {vs : List V} : RV K W d v → RVs K W ds vs → RVs K W (d :: ds) (v :: vs)
structure WOk K (W : Wd) : Prop where
  cells : ∀ i xs, W.h[i]? = some xs → CellOk K (live W) W.H (W.p i) xs
  inj : ∀ i j xs ys, W.h[i]? = some xs → W.h[j]? = some ys → W.p i = W.p j → i = j
structure Ext (K : PySem.W.Frag) (W W' : Wd) : Prop where
  rv : ∀ d v, RV K W d v → RV K W' d v
  ml : ∀ a o, CellO o → ¬ live W a → W.H a = some o → ¬ live W' a ∧ W'.H a = some o
instance {K : PySem.W.Frag} {W W' : Wd} : CoeFun (Ext K W W') (fun _ => ∀ d v, RV K W d v → RV K W' d v) := ⟨Ext.rv⟩
section
variable {K : PySem.W.Frag} {W W' W1 W2 : Wd}
theorem Ext.refl : Ext K W W := ⟨fun _ _ h => h, fun _ _ _ n e => ⟨n, e⟩⟩
theorem Ext.trans (a : Ext K W W1) (b : Ext K W1 W2) : Ext K W W2 := ⟨fun d v h => b d v (a d v h), fun _ _ c n e => let ⟨n1, e1⟩ := a.ml _ _ c n e; b.ml _ _ c n1 e1⟩
theorem Ext.len (x : Ext K W W') : W.h.length ≤ W'.h.length := by
  cases n : W.h.length with
  | zero => exact Nat.zero_le _
  | succ k => exact (match hk : kd W.h k with
    | false => (x (.r k) (.ref (W.p k)) ⟨⟨by omega, hk⟩, rfl⟩).1.1
    | true => (x (.m k) (.ref (W.p k)) ⟨⟨by omega, hk⟩, rfl⟩).1.1)
theorem RVs.ext (x : Ext K W W') : ∀ {ds : List MV} {vs : List V}, RVs K W ds vs → RVs K W' ds vs
  | _, _, .nil => .nil
  | _, _, .cons r t => .cons (x _ _ r) (RVs.ext x t)
theorem RVs.length : ∀ {ds : List MV} {vs : List V}, RVs K W ds vs → ds.length = vs.length
  | _, _, .nil => rfl
  | _, _, .cons _ t => congrArg (· + 1) (RVs.length t)
/-- what a change of the world must keep -/
theorem ext_of (hlen : W.h.length ≤ W'.h.length) (hk : ∀ i, i < W.h.length → kd W'.h i = kd W.h i) (hp : ∀ i, i < W.h.length → W'.p i = W.p i) (mo : ∀ a o, CellO o → ¬ live W a → W.H a = some o → ¬ live W' a ∧ W'.H a = some o)
    (mt : ∀ a xs, W.H a = some (.tup xs) → W'.H a = some (.tup xs)) (mf : ∀ a o u, W.H a = some (.frz o u) → W'.H a = some (.frz o u)) : Ext K W W' := ⟨fun d v h => by
  cases d with
  | d x => exact Fz.mono (fun a xs => mo a _ trivial) mt x v h
  | r i => exact ⟨⟨Nat.lt_of_lt_of_le h.1.1 hlen, by rw [hk i h.1.1]; exact h.1.2⟩, by rw [hp i h.1.1]; exact h.2⟩
  | m i => exact ⟨⟨Nat.lt_of_lt_of_le h.1.1 hlen, by rw [hk i h.1.1]; exact h.1.2⟩, by rw [hp i h.1.1]; exact h.2⟩
  | s ns =>
    obtain ⟨a, e, q⟩ := h
    refine ⟨a, e, ?_⟩
    rcases q with ⟨o, q⟩ | q
    · exact .inl ⟨o, mf _ _ _ q⟩
    · exact .inr q, mo⟩
/-- a new tuple -/
theorem wd_tup {p : Nat → Addr} {h : MH} {H : Hp} {q : Addr} {vs : List V} {ds : List PyData} (ok : WOk K ⟨p, h, H⟩) (n : H q = none) (f : FzAll K (live ⟨p, h, H⟩) H vs ds) :
    WOk K ⟨p, h, upd H q (.tup vs)⟩ ∧ Ext K ⟨p, h, H⟩ ⟨p, h, upd H q (.tup vs)⟩ ∧ RV K ⟨p, h, upd H q (.tup vs)⟩ (.d (.tuple ds)) (.ref q) := by
  have mo : ∀ a o, CellO o → ¬ live ⟨p, h, H⟩ a → H a = some o → ¬ live ⟨p, h, upd H q (.tup vs)⟩ a ∧ upd H q (.tup vs) a = some o := fun a o _ na e => ⟨na, by rw [upd_ne (ne_of_none e n)]; exact e⟩
  have ml := fun a xs => mo a (.lst xs) trivial
  have mt : ∀ a xs, H a = some (.tup xs) → upd H q (.tup vs) a = some (.tup xs) := fun a xs e => by rw [upd_ne (ne_of_none e n)]; exact e
  refine ⟨⟨fun i xs e => ?_, ok.inj⟩, ext_of (Nat.le_refl _) (fun _ _ => rfl) (fun _ _ => rfl) mo mt (fun a o u e => by show upd H q _ a = _; rw [upd_ne (ne_of_none e n)]; exact e), .tup (.inr upd_same) (FzAll.mono ml mt _ _ f)⟩
  exact (ok.cells i xs e).mono ml mt fun o e1 _ => by show upd H q _ _ = _; rw [upd_ne (ne_of_none e1 n)]; exact e1
/-- a new thing that is let go -/
theorem wd_gar {p : Nat → Addr} {h : MH} {H : Hp} {q : Addr} {o : HO} (ok : WOk K ⟨p, h, H⟩) (n : H q = none) :
    WOk K ⟨p, h, upd H q o⟩ ∧ Ext K ⟨p, h, H⟩ ⟨p, h, upd H q o⟩ := by
  have mo : ∀ a o', CellO o' → ¬ live ⟨p, h, H⟩ a → H a = some o' → ¬ live ⟨p, h, upd H q o⟩ a ∧ upd H q o a = some o' := fun a o' _ na e => ⟨na, by rw [upd_ne (ne_of_none e n)]; exact e⟩
  have ml := fun a xs => mo a (.lst xs) trivial
  have mt : ∀ a xs, H a = some (.tup xs) → upd H q o a = some (.tup xs) := fun a xs e => by rw [upd_ne (ne_of_none e n)]; exact e
  refine ⟨⟨fun i xs e => ?_, ok.inj⟩, ext_of (Nat.le_refl _) (fun _ _ => rfl) (fun _ _ => rfl) mo mt (fun a o' u e => by show upd H q _ a = _; rw [upd_ne (ne_of_none e n)]; exact e)⟩
  exact (ok.cells i xs e).mono ml mt fun o e1 _ => by show upd H q _ _ = _; rw [upd_ne (ne_of_none e1 n)]; exact e1
/-- a new cell -/
theorem wd_new {p : Nat → Addr} {h : MH} {H : Hp} {q : Addr} {o : HO} {ds : MCell} (ok : WOk K ⟨p, h, H⟩) (n : H q = none)
    (f : ∀ (B' : Addr → Prop) (H' : Hp), (∀ a xs, ¬ live ⟨p, h, H⟩ a → H a = some (.lst xs) → ¬ B' a ∧ H' a = some (.lst xs)) → (∀ a xs, H a = some (.tup xs) → H' a = some (.tup xs)) → H' q = some o → CellOk K B' H' q ds) :
    WOk K ⟨fun i => if i = h.length then q else p i, h ++ [ds], upd H q o⟩ ∧ Ext K ⟨p, h, H⟩ ⟨fun i => if i = h.length then q else p i, h ++ [ds], upd H q o⟩ := by
  have old : ∀ i xs, (h ++ [ds])[i]? = some xs → i ≠ h.length → h[i]? = some xs ∧ i < h.length := fun i xs e ne => by
    have hl : i < (h ++ [ds]).length := (List.getElem?_eq_some_iff.mp e).1
    rw [List.length_append, List.length_singleton] at hl
    have hi : i < h.length := by omega
    rw [List.getElem?_append_left hi] at e
    exact ⟨e, hi⟩
  have lv : ∀ a xs, H a = some xs → live ⟨fun i => if i = h.length then q else p i, h ++ [ds], upd H q o⟩ a → live ⟨p, h, H⟩ a := fun a xs ea ⟨i, ys, e1, e2⟩ => by
    by_cases hi : i = h.length
    · simp only [hi, if_true] at e2
      exact absurd e2.symm (ne_of_none ea n)
    · simp only [hi, if_false] at e2
      exact ⟨i, ys, (old i ys e1 hi).1, e2⟩
  have mo : ∀ a o', CellO o' → ¬ live ⟨p, h, H⟩ a → H a = some o' → ¬ live ⟨fun i => if i = h.length then q else p i, h ++ [ds], upd H q o⟩ a ∧ upd H q o a = some o' :=
    fun a o' _ na e => ⟨fun z => na (lv a _ e z), by rw [upd_ne (ne_of_none e n)]; exact e⟩
  have ml := fun a xs => mo a (.lst xs) trivial
  have mt : ∀ a xs, H a = some (.tup xs) → upd H q o a = some (.tup xs) := fun a xs e => by rw [upd_ne (ne_of_none e n)]; exact e
  refine ⟨⟨fun i xs e => ?_, fun i j xs ys e1 e2 e => ?_⟩, ext_of (by simp) (fun i hi => ?_) (fun i hi => if_neg (Nat.ne_of_lt hi)) mo mt (fun a o' u e => by show upd H q _ a = _; rw [upd_ne (ne_of_none e n)]; exact e)⟩
  · by_cases hi : i = h.length
    · subst hi
      rw [show ((h ++ [ds])[h.length]? : Option MCell) = some ds by simp] at e
      cases e
      show CellOk _ _ _ (if h.length = h.length then q else p h.length) _
      rw [if_pos rfl]
      exact f _ _ ml mt upd_same
    · obtain ⟨e', _⟩ := old i xs e hi
      show CellOk _ _ _ (if i = h.length then q else p i) _
      rw [if_neg hi]
      exact (ok.cells i xs e').mono ml mt fun o' e1 _ => by show upd H q _ _ = _; rw [upd_ne (ne_of_none e1 n)]; exact e1
  · have key : ∀ i xs, (h ++ [ds])[i]? = some xs → i ≠ h.length → p i ≠ q := fun i xs e ne z => by
      obtain ⟨o', e1, _⟩ := (ok.cells i xs (old i xs e ne).1).obj
      have e1 : H (p i) = some o' := e1
      rw [z, n] at e1
      cases e1
    have e : (if i = h.length then q else p i) = (if j = h.length then q else p j) := e
    by_cases hi : i = h.length
    · by_cases hj : j = h.length
      · rw [hi, hj]
      · rw [if_pos hi, if_neg hj] at e
        exact absurd e.symm (key j ys e2 hj)
    · by_cases hj : j = h.length
      · rw [if_neg hi, if_pos hj] at e
        exact absurd e (key i xs e1 hi)
      · rw [if_neg hi, if_neg hj] at e
        exact ok.inj i j xs ys (old i xs e1 hi).1 (old j ys e2 hj).1 e
  · show kd (h ++ [ds]) i = kd h i
    unfold kd
    rw [List.getElem?_append_left hi]
theorem kd_new {h : MH} {ds : MCell} : kd (h ++ [ds]) h.length = isDc ds := kd_of (by simp)
/-- a new list: the next cell -/
theorem wd_lst {p : Nat → Addr} {h : MH} {H : Hp} {q : Addr} {vs : List V} {ds : List PyData} (ok : WOk K ⟨p, h, H⟩) (n : H q = none) (f : FzAll K (live ⟨p, h, H⟩) H vs ds) :
    WOk K ⟨fun i => if i = h.length then q else p i, h ++ [ds], upd H q (.lst vs)⟩ ∧ Ext K ⟨p, h, H⟩ ⟨fun i => if i = h.length then q else p i, h ++ [ds], upd H q (.lst vs)⟩ ∧
      RV K ⟨fun i => if i = h.length then q else p i, h ++ [ds], upd H q (.lst vs)⟩ (.r h.length) (.ref q) := by
  obtain ⟨a, b⟩ := wd_new (K := K) (o := .lst vs) (ds := ds) ok n fun B' H' ml mt e => .inl ⟨fz_nd f, vs, e, FzAll.mono ml mt _ _ f⟩
  exact ⟨a, b, ⟨by simp, by rw [kd_new]; exact fz_nd f⟩, by simp⟩
/-- a new dict: the next cell -/
theorem wd_dct {p : Nat → Addr} {h : MH} {H : Hp} {q : Addr} {o : HO} {t : Bool} {ps : List (PyData × PyData)} (ok : WOk K ⟨p, h, H⟩) (n : H q = none)
    (f : ∀ (B' : Addr → Prop) (H' : Hp), (∀ a xs, ¬ live ⟨p, h, H⟩ a → H a = some (.lst xs) → ¬ B' a ∧ H' a = some (.lst xs)) → (∀ a xs, H a = some (.tup xs) → H' a = some (.tup xs)) → H' q = some o → DOk K B' H' q t ps) :
    WOk K ⟨fun i => if i = h.length then q else p i, h ++ [dcell t ps], upd H q o⟩ ∧ Ext K ⟨p, h, H⟩ ⟨fun i => if i = h.length then q else p i, h ++ [dcell t ps], upd H q o⟩ ∧
      RV K ⟨fun i => if i = h.length then q else p i, h ++ [dcell t ps], upd H q o⟩ (.m h.length) (.ref q) := by
  obtain ⟨a, b⟩ := wd_new (K := K) (o := o) (ds := dcell t ps) ok n fun B' H' ml mt e => .inr ⟨t, ps, rfl, f B' H' ml mt e⟩
  exact ⟨a, b, ⟨by simp, by rw [kd_new]; exact dc_dcell⟩, by simp⟩
/-- a dict that lies already becomes the next cell -/
theorem wd_adopt {p : Nat → Addr} {h : MH} {H : Hp} {q : Addr} {o : HO} {ds : MCell} {kvs0 : List (L2.Key × V)} (n0 : W.H q = none) (ok : WOk K ⟨p, h, H⟩) (x : Ext K W ⟨p, h, H⟩) (nl : ¬ live ⟨p, h, H⟩ q) (hq : H q = some (.dK kvs0))
    (f : ∀ (B' : Addr → Prop) (H' : Hp), (∀ a xs, ¬ live ⟨p, h, H⟩ a → H a = some (.lst xs) → ¬ B' a ∧ H' a = some (.lst xs)) → (∀ a xs, H a = some (.tup xs) → H' a = some (.tup xs)) → H' q = some o → CellOk K B' H' q ds) :
    WOk K ⟨fun i => if i = h.length then q else p i, h ++ [ds], upd H q o⟩ ∧ Ext K W ⟨fun i => if i = h.length then q else p i, h ++ [ds], upd H q o⟩ := by
  have old : ∀ i xs, (h ++ [ds])[i]? = some xs → i ≠ h.length → h[i]? = some xs ∧ i < h.length := fun i xs e ne => by
    have hl : i < (h ++ [ds]).length := (List.getElem?_eq_some_iff.mp e).1
    rw [List.length_append, List.length_singleton] at hl
    have hi : i < h.length := by omega
    rw [List.getElem?_append_left hi] at e
    exact ⟨e, hi⟩
  have lv : ∀ a, a ≠ q → live ⟨fun i => if i = h.length then q else p i, h ++ [ds], upd H q o⟩ a → live ⟨p, h, H⟩ a := fun a ea ⟨i, ys, e1, e2⟩ => by
    by_cases hi : i = h.length
    · simp only [hi, if_true] at e2
      exact absurd e2.symm ea
    · simp only [hi, if_false] at e2
      exact ⟨i, ys, (old i ys e1 hi).1, e2⟩
  have nq : ∀ a (o' : HO), H a = some o' → (∀ k, o' ≠ .dK k) → a ≠ q := fun a o' e d z => by rw [z, hq] at e; cases e; exact d _ rfl
  have ml : ∀ a xs, ¬ live ⟨p, h, H⟩ a → H a = some (.lst xs) → ¬ live ⟨fun i => if i = h.length then q else p i, h ++ [ds], upd H q o⟩ a ∧ upd H q o a = some (.lst xs) :=
    fun a xs na e => ⟨fun z => na (lv a (nq a _ e fun _ w => nomatch w) z), by rw [upd_ne (nq a _ e fun _ w => nomatch w)]; exact e⟩
  have mt : ∀ a xs, H a = some (.tup xs) → upd H q o a = some (.tup xs) := fun a xs e => by rw [upd_ne (nq a _ e fun _ w => nomatch w)]; exact e
  have mf : ∀ a o' u, H a = some (.frz o' u) → upd H q o a = some (.frz o' u) := fun a o' u e => by rw [upd_ne (nq a _ e fun _ w => nomatch w)]; exact e
  refine ⟨⟨fun i xs e => ?_, fun i j xs ys e1 e2 e => ?_⟩, fun d v r => ?_, fun a o' c n e => ?_⟩
  · by_cases hi : i = h.length
    · subst hi
      rw [show ((h ++ [ds])[h.length]? : Option MCell) = some ds by simp] at e
      cases e
      show CellOk _ _ _ (if h.length = h.length then q else p h.length) _
      rw [if_pos rfl]
      exact f _ _ ml mt upd_same
    · obtain ⟨e', _⟩ := old i xs e hi
      show CellOk _ _ _ (if i = h.length then q else p i) _
      rw [if_neg hi]
      exact (ok.cells i xs e').mono ml mt fun o' e1 _ => by show upd H q _ _ = _; rw [upd_ne (fun z => nl ⟨i, xs, e', z⟩)]; exact e1
  · have key : ∀ i xs, (h ++ [ds])[i]? = some xs → i ≠ h.length → p i ≠ q := fun i xs e ne z => nl ⟨i, xs, (old i xs e ne).1, z⟩
    have e : (if i = h.length then q else p i) = (if j = h.length then q else p j) := e
    by_cases hi : i = h.length
    · by_cases hj : j = h.length
      · rw [hi, hj]
      · rw [if_pos hi, if_neg hj] at e
        exact absurd e.symm (key j ys e2 hj)
    · by_cases hj : j = h.length
      · rw [if_neg hi, if_pos hj] at e
        exact absurd e (key i xs e1 hi)
      · rw [if_neg hi, if_neg hj] at e
        exact ok.inj i j xs ys (old i xs e1 hi).1 (old j ys e2 hj).1 e
  · have r2 := x d v r
    have kl : ∀ i, i < h.length → kd (h ++ [ds]) i = kd h i := fun i hi => by unfold kd; rw [List.getElem?_append_left hi]
    have low : ∀ i, i < h.length → i < (h ++ [ds]).length := fun i hi => by rw [List.length_append]; omega
    cases d with
    | d y => exact Fz.mono ml mt _ _ r2
    | r i => exact ⟨⟨low i r2.1.1, (kl i r2.1.1).trans r2.1.2⟩, by show v = .ref (if i = h.length then q else p i); rw [if_neg (Nat.ne_of_lt r2.1.1)]; exact r2.2⟩
    | m i => exact ⟨⟨low i r2.1.1, (kl i r2.1.1).trans r2.1.2⟩, by show v = .ref (if i = h.length then q else p i); rw [if_neg (Nat.ne_of_lt r2.1.1)]; exact r2.2⟩
    | s ns =>
      obtain ⟨a, e, w⟩ := r2
      refine ⟨a, e, ?_⟩
      rcases w with ⟨o', w⟩ | w
      · exact .inl ⟨o', mf _ _ _ w⟩
      · exact .inr w
  · have ne : a ≠ q := fun z => by rw [z, n0] at e; cases e
    obtain ⟨n1, e1⟩ := x.ml a o' c n e
    exact ⟨fun z => n1 (lv a ne z), by show upd H q o a = _; rw [upd_ne ne]; exact e1⟩
/-- a cell is written -/
theorem wd_put {p : Nat → Addr} {h : MH} {H : Hp} {i : Nat} {xs ds : MCell} {o : HO} (ok : WOk K ⟨p, h, H⟩) (e : h[i]? = some xs) (hk : isDc ds = isDc xs)
    (f : ∀ (B' : Addr → Prop) (H' : Hp), (∀ a xs, ¬ live ⟨p, h, H⟩ a → H a = some (.lst xs) → ¬ B' a ∧ H' a = some (.lst xs)) → (∀ a xs, H a = some (.tup xs) → H' a = some (.tup xs)) → H' (p i) = some o → CellOk K B' H' (p i) ds) :
    WOk K ⟨p, h.set i ds, upd H (p i) o⟩ ∧ Ext K ⟨p, h, H⟩ ⟨p, h.set i ds, upd H (p i) o⟩ := by
  have hi : i < h.length := (List.getElem?_eq_some_iff.mp e).1
  obtain ⟨o0, hw, ho⟩ := (ok.cells i xs e).obj
  have hw : H (p i) = some o0 := hw
  have old : ∀ j ys, (h.set i ds)[j]? = some ys → ∃ zs, h[j]? = some zs ∧ (j ≠ i → zs = ys) := fun j ys q => by
    by_cases hj : i = j
    · subst hj; exact ⟨xs, e, fun z => absurd rfl z⟩
    · rw [List.getElem?_set_ne hj] at q; exact ⟨ys, q, fun _ => rfl⟩
  have lv : ∀ a, live ⟨p, h.set i ds, upd H (p i) o⟩ a → live ⟨p, h, H⟩ a := fun a ⟨j, ys, e1, e2⟩ => by
    obtain ⟨zs, q, _⟩ := old j ys e1
    exact ⟨j, zs, q, e2⟩
  have mo : ∀ a o', CellO o' → ¬ live ⟨p, h, H⟩ a → H a = some o' → ¬ live ⟨p, h.set i ds, upd H (p i) o⟩ a ∧ upd H (p i) o a = some o' :=
    fun a o' _ na q => ⟨fun z => na (lv a z), by rw [upd_ne (fun z => na ⟨i, xs, e, z.symm⟩)]; exact q⟩
  have ml := fun a xs => mo a (.lst xs) trivial
  have nl : ∀ a (o' : HO), H a = some o' → ¬ CellO o' → a ≠ p i := fun a o' q d z => by
    rw [z, hw] at q
    cases q
    exact d ho
  have mt : ∀ a xs, H a = some (.tup xs) → upd H (p i) o a = some (.tup xs) := fun a ys q => by rw [upd_ne (nl a _ q fun z => z)]; exact q
  refine ⟨⟨fun j ys q => ?_, fun j k ys zs q1 q2 => ?_⟩, ext_of (by simp) (fun j hj => ?_) (fun _ _ => rfl) mo mt fun a o' u q => by show upd H _ _ a = _; rw [upd_ne (nl a _ q fun z => z)]; exact q⟩
  · by_cases hj : j = i
    · subst hj
      rw [show (h.set j ds)[j]? = some ds from List.getElem?_set_self hi] at q
      cases q
      exact f _ _ ml mt upd_same
    · obtain ⟨zs, q1, q2⟩ := old j ys q
      have q3 := q2 hj
      subst q3
      exact (ok.cells j zs q1).mono ml mt fun o' e1 _ => by
        show upd H (p i) _ (p j) = _
        rw [upd_ne (fun z => hj (ok.inj j i zs xs q1 e z))]
        exact e1
  · obtain ⟨a, h1, _⟩ := old j ys q1
    obtain ⟨b, h2, _⟩ := old k zs q2
    exact ok.inj j k a b h1 h2
  · show kd (h.set i ds) j = kd h j
    by_cases hj' : i = j
    · subst hj'
      rw [kd_of (show (h.set i ds)[i]? = some ds from List.getElem?_set_self hi), kd_of e, hk]
    · unfold kd
      rw [List.getElem?_set_ne hj']
theorem wd_set {p : Nat → Addr} {h : MH} {H : Hp} {i : Nat} {xs : List PyData} {vs : List V} {ds : List PyData} (ok : WOk K ⟨p, h, H⟩) (e : h[i]? = some xs) (k : isDc xs = false) (f : FzAll K (live ⟨p, h, H⟩) H vs ds) :
    WOk K ⟨p, h.set i ds, upd H (p i) (.lst vs)⟩ ∧ Ext K ⟨p, h, H⟩ ⟨p, h.set i ds, upd H (p i) (.lst vs)⟩ :=
  wd_put ok e (by rw [k]; exact fz_nd f) fun B' H' ml mt e' => .inl ⟨fz_nd f, vs, e', FzAll.mono ml mt _ _ f⟩
theorem take_get {h : MH} {n i : Nat} {xs : List PyData} (e : (h.take n)[i]? = some xs) : h[i]? = some xs ∧ i < n := by
  have hl : i < (h.take n).length := (List.getElem?_eq_some_iff.mp e).1
  have hn : i < n := by rw [List.length_take] at hl; omega
  rw [List.getElem?_take_of_lt hn] at e
  exact ⟨e, hn⟩
theorem kd_take {h : MH} {n i : Nat} (hi : i < n) : kd (h.take n) i = kd h i := by unfold kd; rw [List.getElem?_take_of_lt hi]
/-- the last cells are dropped -/
theorem wd_cut {p : Nat → Addr} {h : MH} {H : Hp} {n : Nat} (ok : WOk K ⟨p, h, H⟩) (x : Ext K W ⟨p, h, H⟩) (hn : W.h.length ≤ n) : WOk K ⟨p, h.take n, H⟩ ∧ Ext K W ⟨p, h.take n, H⟩ := by
  have lv : ∀ a, live ⟨p, h.take n, H⟩ a → live ⟨p, h, H⟩ a := fun a ⟨j, ys, e1, e2⟩ => ⟨j, ys, (take_get e1).1, e2⟩
  have ml : ∀ a xs, ¬ live ⟨p, h, H⟩ a → H a = some (.lst xs) → ¬ live ⟨p, h.take n, H⟩ a ∧ H a = some (.lst xs) := fun a xs na e => ⟨fun z => na (lv a z), e⟩
  refine ⟨⟨fun i xs e => ?_, fun i j xs ys e1 e2 => ok.inj i j xs ys (take_get e1).1 (take_get e2).1⟩, fun d v r => ?_, fun a o c n e => let ⟨n1, e1⟩ := x.ml _ _ c n e; ⟨fun z => n1 (lv a z), e1⟩⟩
  · exact (ok.cells i xs (take_get e).1).mono ml (fun _ _ q => q) fun _ e _ => e
  · have q := x d v r
    have low : ∀ i, i < W.h.length → i < h.length → i < (h.take n).length := fun i h1 h2 => by rw [List.length_take]; omega
    cases d with
    | d y => exact Fz.mono ml (fun _ _ q => q) _ _ q
    | r i => exact ⟨⟨low i r.1.1 q.1.1, (kd_take (Nat.lt_of_lt_of_le r.1.1 hn)).trans q.1.2⟩, q.2⟩
    | m i => exact ⟨⟨low i r.1.1 q.1.1, (kd_take (Nat.lt_of_lt_of_le r.1.1 hn)).trans q.1.2⟩, q.2⟩
    | s ns => exact q
/-- a fresh cell as a frozen list, the cells behind dropped -/
theorem wd_frz {p : Nat → Addr} {h : MH} {H : Hp} {i n : Nat} {xs : List PyData} (ok : WOk K ⟨p, h, H⟩) (x : Ext K W ⟨p, h, H⟩) (hn : W.h.length ≤ n) (hi : n ≤ i) (e : h[i]? = some xs) (k : isDc xs = false) : RV K ⟨p, h.take n, H⟩ (.d (.list xs)) (.ref (p i)) := by
  obtain ⟨vs, e1, e2⟩ := (ok.cells i xs e).lst k
  have lv : ∀ a, live ⟨p, h.take n, H⟩ a → live ⟨p, h, H⟩ a := fun a ⟨j, ys, e1, e2⟩ => ⟨j, ys, (take_get e1).1, e2⟩
  refine .lst e1 (fun z => ?_) (FzAll.mono (fun a xs na e => ⟨fun z => na (lv a z), e⟩) (fun _ _ q => q) _ _ e2)
  obtain ⟨j, ys, q1, q2⟩ := z
  have q3 := take_get q1
  have := ok.inj j i ys xs q3.1 e q2
  omega
/-- a fresh cell becomes the n-th, all else behind dropped -/
theorem wd_move {p : Nat → Addr} {h : MH} {H : Hp} {i n : Nat} {xs : List PyData} (ok : WOk K ⟨p, h, H⟩) (x : Ext K W ⟨p, h, H⟩) (hn : W.h.length = n) (hi : n ≤ i) (e : h[i]? = some xs) :
    WOk K ⟨fun j => if j = n then p i else p j, h.take n ++ [xs], H⟩ ∧ Ext K W ⟨fun j => if j = n then p i else p j, h.take n ++ [xs], H⟩ ∧ (isDc xs = false → RV K ⟨fun j => if j = n then p i else p j, h.take n ++ [xs], H⟩ (.r n) (.ref (p i))) ∧ (isDc xs = true → RV K ⟨fun j => if j = n then p i else p j, h.take n ++ [xs], H⟩ (.m n) (.ref (p i))) := by
  have hil : i < h.length := (List.getElem?_eq_some_iff.mp e).1
  have hl : (h.take n).length = n := by rw [List.length_take]; omega
  have old : ∀ j ys, (h.take n ++ [xs])[j]? = some ys → ∃ k, h[k]? = some ys ∧ (if j = n then p i else p j) = p k ∧ (j = n → k = i) ∧ (j ≠ n → k = j ∧ j < n) := fun j ys q => by
    have h1 : j < (h.take n ++ [xs]).length := (List.getElem?_eq_some_iff.mp q).1
    rw [List.length_append, List.length_singleton, hl] at h1
    by_cases hj : j = n
    · subst hj
      rw [List.getElem?_append_right (by omega), hl, Nat.sub_self] at q
      simp at q
      subst q
      exact ⟨i, e, if_pos rfl, fun _ => rfl, fun z => absurd rfl z⟩
    · rw [List.getElem?_append_left (by omega)] at q
      exact ⟨j, (take_get q).1, if_neg hj, fun z => absurd z hj, fun _ => ⟨rfl, by omega⟩⟩
  have kdl : ∀ j, j < n → kd (h.take n ++ [xs]) j = kd h j := fun j hj => by
    rw [← kd_take (h := h) hj]
    unfold kd
    rw [List.getElem?_append_left (by omega)]
  have kdn : kd (h.take n ++ [xs]) n = isDc xs := kd_of (by rw [List.getElem?_append_right (by omega), hl, Nat.sub_self]; rfl)
  have lv : ∀ a, live ⟨fun j => if j = n then p i else p j, h.take n ++ [xs], H⟩ a → live ⟨p, h, H⟩ a := fun a ⟨j, ys, e1, e2⟩ => by
    obtain ⟨k, k1, k2, _⟩ := old j ys e1
    exact ⟨k, ys, k1, k2.symm.trans e2⟩
  have ml : ∀ a xs', ¬ live ⟨p, h, H⟩ a → H a = some (.lst xs') → ¬ live ⟨fun j => if j = n then p i else p j, h.take n ++ [xs], H⟩ a ∧ H a = some (.lst xs') := fun a xs' na e => ⟨fun z => na (lv a z), e⟩
  refine ⟨⟨fun j ys q => ?_, fun j k ys zs q1 q2 q => ?_⟩, ⟨fun d v r => ?_, fun a o c n e => let ⟨n1, e1⟩ := x.ml _ _ c n e; ⟨fun z => n1 (lv a z), e1⟩⟩, fun kk => ⟨⟨?_, ?_⟩, ?_⟩, fun kk => ⟨⟨?_, ?_⟩, ?_⟩⟩
  · obtain ⟨k, k1, k2, _⟩ := old j ys q
    show CellOk _ _ _ (if j = n then p i else p j) _
    rw [k2]
    exact (ok.cells k ys k1).mono ml (fun _ _ q => q) fun _ e _ => e
  · obtain ⟨a, a1, a2, a3, a4⟩ := old j ys q1
    obtain ⟨b, b1, b2, b3, b4⟩ := old k zs q2
    have q' : p a = p b := a2.symm.trans (q.trans b2)
    have ab := ok.inj a b ys zs a1 b1 q'
    by_cases hj : j = n
    · by_cases hk : k = n
      · rw [hj, hk]
      · have := a3 hj; have := b4 hk; omega
    · by_cases hk : k = n
      · have := b3 hk; have := a4 hj; omega
      · have := a4 hj; have := b4 hk; omega
  · have q := x d v r
    cases d with
    | d y => exact Fz.mono ml (fun _ _ q => q) _ _ q
    | r j =>
      have h1 : j < W.h.length := r.1.1
      refine ⟨⟨?_, (kdl j (by omega)).trans q.1.2⟩, ?_⟩
      · show j < (h.take n ++ [xs]).length
        rw [List.length_append, hl]; omega
      · show v = .ref (if j = n then p i else p j)
        rw [if_neg (by omega)]; exact q.2
    | m j =>
      have h1 : j < W.h.length := r.1.1
      refine ⟨⟨?_, (kdl j (by omega)).trans q.1.2⟩, ?_⟩
      · show j < (h.take n ++ [xs]).length
        rw [List.length_append, hl]; omega
      · show v = .ref (if j = n then p i else p j)
        rw [if_neg (by omega)]; exact q.2
    | s ns => exact q
  · show n < (h.take n ++ [xs]).length
    rw [List.length_append, hl, List.length_singleton]; omega
  · exact kdn.trans kk
  · show V.ref (p i) = .ref (if n = n then p i else p n)
    rw [if_pos rfl]
  · show n < (h.take n ++ [xs]).length
    rw [List.length_append, hl, List.length_singleton]; omega
  · exact kdn.trans kk
  · show V.ref (p i) = .ref (if n = n then p i else p n)
    rw [if_pos rfl]
end

/-! ### frames -/
structure RE (K : PySem.W.Frag) (W : Wd) (e : MEnv) (σ : L2.St) : Prop where
  len : e.length = σ.length
  at_ : ∀ (i : Nat) (d : MV), e[i]? = some (some d) → ∃ v, σ[i]? = some (some v) ∧ RV K W d v
section
variable {K : PySem.W.Frag} {W W' : Wd} {e : MEnv} {σ : L2.St}
theorem RE.ext (r : RE K W e σ) (x : Ext K W W') : RE K W' e σ := ⟨r.len, fun i d h => let ⟨v, h1, h2⟩ := r.at_ i d h; ⟨v, h1, x _ _ h2⟩⟩
theorem RE.set (r : RE K W e σ) {i : Nat} {d : MV} {v : V} (h : RV K W d v) : RE K W (e.set i (some d)) (σ.set i (some v)) := by
  refine ⟨by rw [List.length_set, List.length_set]; exact r.len, fun j c q => ?_⟩
  by_cases hj : i = j
  · subst hj
    have hl : i < e.length := by
      have := (List.getElem?_eq_some_iff.mp q).1
      rwa [List.length_set] at this
    rw [List.getElem?_set_self hl] at q
    cases q
    exact ⟨v, List.getElem?_set_self (by rw [← r.len]; exact hl), h⟩
  · rw [List.getElem?_set_ne hj] at q
    rw [List.getElem?_set_ne hj]
    exact r.at_ j c q
theorem RE.wipe (r : RE K W e σ) : ∀ own : List (String × Nat), RE K W (wipeE e own) (L2.wipe σ (own.map (·.2)))
  | [] => r
  | p :: own => by
    have ih := RE.wipe r own
    refine ⟨by show ((wipeE e own).set p.2 none).length = ((L2.wipe σ (own.map (·.2))).set p.2 none).length; rw [List.length_set, List.length_set]; exact ih.len, fun j c q => ?_⟩
    have q : ((wipeE e own).set p.2 none)[j]? = some (some c) := q
    show ∃ v, ((L2.wipe σ (own.map (·.2))).set p.2 none)[j]? = some (some v) ∧ _
    by_cases hj : p.2 = j
    · have hl : p.2 < (wipeE e own).length := by
        have := (List.getElem?_eq_some_iff.mp q).1
        rw [List.length_set] at this
        omega
      rw [← hj, List.getElem?_set_self hl] at q
      cases q
    · rw [List.getElem?_set_ne hj] at q
      rw [List.getElem?_set_ne hj]
      exact ih.at_ j c q
/-- behind a cut: what lies behind is forgotten -/
theorem RE.cut {W₀ : Wd} {n : Nat} {p : Nat → Addr} {h : MH} {H : Hp} (r : RE K ⟨p, h, H⟩ e σ) (hn : n ≤ h.length) : RE K ⟨p, h.take n, H⟩ (cutE n e) σ := by
  have lv : ∀ a, live ⟨p, h.take n, H⟩ a → live ⟨p, h, H⟩ a := fun a ⟨j, ys, e1, e2⟩ => ⟨j, ys, (take_get e1).1, e2⟩
  refine ⟨by unfold cutE; rw [List.length_map]; exact r.len, fun i d q => ?_⟩
  unfold cutE at q
  rw [List.getElem?_map] at q
  cases hc : e[i]? with
  | none => rw [hc] at q; cases q
  | some o =>
    rw [hc] at q
    cases o with
    | none => cases q
    | some c =>
      obtain ⟨v, h1, h2⟩ := r.at_ i c hc
      cases c with
      | d x =>
        cases q
        exact ⟨v, h1, Fz.mono (fun a xs na e => ⟨fun z => na (lv a z), e⟩) (fun _ _ q => q) _ _ h2⟩
      | s ns =>
        cases q
        exact ⟨v, h1, h2⟩
      | r j =>
        have q : some (if j < n then some (MV.r j) else none) = some (some d) := q
        by_cases hj : j < n
        · rw [if_pos hj] at q
          cases q
          refine ⟨v, h1, ⟨?_, (kd_take hj).trans h2.1.2⟩, h2.2⟩
          show j < (h.take n).length
          rw [List.length_take]; omega
        · rw [if_neg hj] at q
          cases q
      | m j =>
        have q : some (if j < n then some (MV.m j) else none) = some (some d) := q
        by_cases hj : j < n
        · rw [if_pos hj] at q
          cases q
          refine ⟨v, h1, ⟨?_, (kd_take hj).trans h2.1.2⟩, h2.2⟩
          show j < (h.take n).length
          rw [List.length_take]; omega
        · rw [if_neg hj] at q
          cases q
end
end Mini
end
section
set_option Elab.async false
set_option linter.all false
set_option maxRecDepth 100000
/-! Mini: calls in surroundings whose guards are known (so that repr of lists and tuples is served). -/
namespace Mini
open PySem PySem.Spec PyProof.Rows L2

structure RoomG (k : Nat) (A : Around) : Prop where
  room : Room (k + 2) A
  gd : A.guards = some []
theorem RoomG.mono {j k : Nat} {A : Around} (r : RoomG k A) (h : j ≤ k) : RoomG j A := ⟨r.room.mono (Nat.add_le_add_right h 2), r.gd⟩
theorem RoomG.deeper {k : Nat} {A : Around} (r : RoomG (k + 1) A) (env : Env) : RoomG k (A.deeper env) := ⟨r.room.deeper env, r.gd⟩

/-- a def keeps its promise -/
structure FnG (P : Program) (w : World) (K : PySem.W.Frag) (mg : Str → Option Value)
    (base : Heap) (k : Nat) (f : Addr) (fd : FuncData) (ps : List Str) (sp : Sp) : Prop where
  len : ∀ vs H Q E, sp vs H Q E → vs.length = ps.length
  go : ∀ (A : Around) (outer : List Env) (s : Shared) (H : Hp) (args : Args)
    (us : List Value) (vs : List V) (Q : VK) (E : XK),
    RoomG k A → Env0 P w K mg base A outer s H →
    BindsTo s fd args (ps.zip us) → Vals vs us → sp vs H Q E →
    codeAny (model P w) A (.call (.ref f) args) (CR (L2.CX P w) outer P w H s Q E) s

section
variable {X : Cx} {k : Nat} {f : Addr} {fd : FuncData} {ps : List Str} {sp : Sp} {E : L2.St → XK}
/-- the callee runs -/
theorem FnG.at_ {pins : List (Addr × Obj)} {σ : L2.St} {H : Hp} {s : Shared} {Q : VK}
    {us : List Value} {vs : List V} (F : FnG X.prog X.w X.K X.mg X.base k f fd ps sp)
    (hr : RoomG k X.A) (hb : Binds X.K fd ps [])
    (hx : PassesAt (L2.CX X.prog X.w) X σ (E σ)) (I : Inv X pins σ H s)
    (r : Vals vs us) (h : sp vs H Q (E σ)) :
    wpAny (model X.prog X.w) X.A (call (.ref f) us) (EP X pins σ Q) X.xe s := by
  have hl : (us ++ []).length = ps.length := by
    rw [List.append_nil, ← r.length]
    exact F.len _ _ _ _ h
  have hz : BindsTo s fd ⟨us, []⟩ (ps.zip us) := by
    have z := hb s us I.kIn hl
    rw [List.append_nil] at z
    exact z
  have go := F.go X.A X.stack s H ⟨us, []⟩ us vs Q (E σ) hr I.env0 hz r h
  refine wpAny_call (codeAny_mono go fun r s' hq => ?_)
  match r, hq with
  | .error e, hq => exact hx pins H s e s' I hq
  | .ok (.ret u), hq => exact I.after hq
  | .ok .next, hq => exact hq.elim
  | .ok .brk, hq => exact hq.elim
  | .ok .cont, hq => exact hq.elim
def tCallG (sp : Sp) (E : L2.St → XK) (t : TA) : TE := fun σ H Q => t σ H fun vs H1 => sp vs H1 Q (E σ)
/-- f(e, ..) -/
theorem pe_callG {x : Str} {p pos : Pos} {e : Expr} {es : List Expr} {t : TA}
    (F : FnG X.prog X.w X.K X.mg X.base k f fd ps sp) (hr : RoomG k X.A) (hg : Gl X x)
    (hm : X.mg x = some (.ref f)) (hk : PySem.W.keepIn X.K (.ref f) = true) (hb : Binds X.K fd ps [])
    (hx : ∀ σ, PassesAt (L2.CX X.prog X.w) X σ (E σ)) (ha : PA X (e :: es) t)
    (hdb : (x == ("__debug__" : Str)) = false)
    (he : starEach (e :: es) X.env = (false, eval e X.env) :: starEach es X.env)
    (hpl : (backTo pos (starEach es X.env)).any (·.1) = false) :
    PE X (.Call (.Name x p) (e :: es) [] pos) (tCallG sp E t) := by
  constructor
  intro pins s σ H Q I h
  refine wpAny_Call_Name_kw (ld_glob I hg hm ?_ hdb)
  have arg := thn (ha.run pos pins s σ H _ I h) fun us s1 (z : AP X pins σ _ us s1) =>
    (show s1.heap = s1.heap ∧ AP X pins σ _ us s1 from ⟨rfl, z⟩)
  refine PySem.W.callWith_K (h₀ := X.base) I.ok.mod.kin hk (thn arg fun us s1 z => ?_) he hpl
  obtain ⟨_, vs, H1, I1, r, q⟩ := z
  exact ⟨I1.kIn, F.at_ hr hb (hx σ) I1 r q⟩
theorem pe_callG0 {x : Str} {p pos : Pos}
    (F : FnG X.prog X.w X.K X.mg X.base k f fd ps sp) (hr : RoomG k X.A) (hg : Gl X x)
    (hm : X.mg x = some (.ref f)) (hk : PySem.W.keepIn X.K (.ref f) = true) (hb : Binds X.K fd ps [])
    (hx : ∀ σ, PassesAt (L2.CX X.prog X.w) X σ (E σ)) (hdb : (x == ("__debug__" : Str)) = false) :
    PE X (.Call (.Name x p) [] [] pos) (tCallG sp E tNil) := by
  constructor
  intro pins s σ H Q I h
  refine wpAny_Call_Name_kw (ld_glob I hg hm ?_ hdb)
  exact PySem.W.callWith_K0 I.kIn hk (F.at_ (us := []) hr hb (hx σ) I .nil h)
end

/-- a def of the text, by its body -/
theorem fnG_of {P : Program} {w : World} {K : PySem.W.Frag} {mg : Str → Option Value} {base : Heap} {k : Nat}
    {x : Str} {st : Stmt} {f : Addr} {fd : FuncData} {N ps : List Str} {sp : Sp}
    (F : Fun K x x st f fd) (S : FnScope N ps (defScope st))
    (len : ∀ vs H Q E, sp vs H Q E → vs.length = ps.length)
    (body : ∀ (cdv : Value) (A : Around) (outer : List Env) (s : Shared) (H : Hp) (vs : List V) (Q : VK) (E : XK),
      RoomG k (A.deeper (envOfC x (defScope st) s.heap.objs.size f cdv)) → sp vs H Q E →
      ∃ t, PSs (cxOf (L2.CX P w) P w K mg base N x (defScope st) f cdv A outer s H E) (defBody st) t ∧
        t { nx := fun _ H' => Q .non H', rt := Q } (start N vs) H) :
    FnG P w K mg base (k + 1) f fd ps sp := by
  obtain ⟨oc, od, kV, doc, pm, an, cdv, ct, osl, rfl, lk, hcd⟩ := F.ex
  refine ⟨len, ?_⟩
  intro A outer s H args us vs Q E hr e0 hb r hsp
  have hl := len _ _ _ _ hsp
  have KX : K.In s.heap := e0.mod.kin.keeps fun b o e => (e0.bs b o e).1
  have lim : s.heap.NoLimit := e0.mod.nolimit.keeps fun b o e => (e0.bs b o e).1
  have kinds : ∀ y ∈ ps.zip us, (defScope st).names.lookup y.1 = some .local ∨
      ((defScope st).names.lookup y.1 = some .cell ∧
        ((cellsFrom (s.heap.objs.size + 1) (defScope st).names []).lookup y.1).isSome = true) := by
    intro y hy
    cases S.par y.1 (List.of_mem_zip hy).1 with
    | inl q => exact .inl q
    | inr q => exact .inr ⟨q, PySem.W.cellsFrom_some _ _ _ (.inl q)⟩
  refine codeAny_call_function hr.room.depth (KX _ _ lk) rfl S.co S.gen rfl (PySem.W.codeRec_of KX hcd)
    (hb _ _ _ _ ?_)
  refine wpAny_newFunctionEnv_cells S.kind kinds fun env he s1 xx => ?_
  subst he
  refine ⟨lim.keeps xx.toInCall.keep, codeAny_func ?_⟩
  obtain ⟨t, ht, hq⟩ := body cdv A outer s H vs Q E (hr.deeper _) hsp
  have I := inv_start (CX := L2.CX P w) (E := E) S hr.room.hd e0 hl r xx
  refine wpAny_mono (ht.run [] s1 (start N vs) H _ I hq) (fun fl s' hs => ?_) fun e s' hs => hs
  match fl, hs with
  | .ret u, ⟨v, σ', H', J, rv, q⟩ => exact ⟨v, H', J.os, J.bare, J.base, J.hok, rv, q⟩
  | .next, ⟨σ', H', J, q⟩ => exact ⟨V.non, H', J.os, J.bare, J.base, J.hok, rfl, q⟩
  | .brk, ⟨_, _, _, q⟩ => exact q.elim
  | .cont, ⟨_, _, _, q⟩ => exact q.elim

/-- the script is known, or one of the module's own -/
def ScrOnly (K : PySem.W.Frag) (H : Hp) (a : Addr) (ns : List Int) : Prop := ScrOk K H a ns
theorem callerG {k : Nat} (h : Room (k + 2) callerA) : RoomG k callerA := ⟨h, rfl⟩
/-- the law's call, behind the top -/
theorem lawG {P : Program} {w : World} {K : PySem.W.Frag} {mg mb : Str → Option Value} {k : Nat} {fa a : Addr}
    {fd : FuncData} {x : Str} {sp : Sp} {s1 : Shared} {vs : List Value} {ns : List Int}
    (KX : K.In s1.heap) (hns : s1.heap.Ns mainGlobals mg) (hb : s1.heap.Ns builtinsNs mb)
    (hbb : ∀ x : Str, x ≠ "__name__" → mb x = bootBuiltins x) (hlim : s1.heap.NoLimit) (hg : s1.gens = #[])
    (ha : s1.heap.get? a = some { cls := .type "list", data := .seq vs.toArray }) (hi : IntsAre vs ns)
    (hl : ns.length ≤ sizeLine) (hr : Room (k + 2) callerA)
    (F : ∀ base : Heap, K.In base → base.Ns mainGlobals mg → FnG P w K mg base k fa fd [x] sp)
    (hbind : ∀ (s : Shared) (u : Value), BindsTo s fd ⟨[u], []⟩ [(x, u)])
    (hsp : ∀ H : Hp, ScrOk K H a ns → sp [.ref a] H (fun v _ => v = .bl true) fun _ _ _ => False) :
    codeAny (model P w) callerA (.call (.ref fa) ⟨[.ref a], []⟩)
      (fun r s' => r = .ok (.ret (.bool true)) ∧ OldK s1.heap s'.heap ∧ s'.os = s1.os ∧ AllBare s'.gens) s1 := by
  have rv := vals_ints hi
  have lenV := hi.length
  suffices core : ∀ H : Hp, (∀ b, H b = none ∨ ∃ o xs, H b = some (.frz o (.lst xs))) → ScrOk K H a ns →
      HOk P w H s1.heap → (∀ b, H b ≠ none → b = a) → (H a ≠ none → K.lookup a = none) →
      codeAny (model P w) callerA (.call (.ref fa) ⟨[.ref a], []⟩)
        (fun r s' => r = .ok (.ret (.bool true)) ∧ OldK s1.heap s'.heap ∧ s'.os = s1.os ∧ AllBare s'.gens) s1 by
    cases hk : K.lookup a with
    | some o =>
      have e := KX a o hk
      rw [ha] at e
      cases e
      have hw : ScrOk K (fun _ => none) a ns :=
        .inr ⟨_, vs.toArray, _, hk, rfl, rfl, rfl, by rw [List.size_toArray, lenV]; exact hl, by simpa using rv⟩
      exact core (fun _ => none) (fun _ => .inl rfl) hw (fun b u z => nomatch z) (fun b z => absurd rfl z)
        fun z => absurd rfl z
    | none =>
      have hyes : ∀ {c : Addr}, c = a → (fun b => if b = a then some (HO.frz { cls := .type "list", data := .seq vs.toArray } (.lst (ns.map V.int))) else none : Hp) c =
          some (.frz { cls := .type "list", data := .seq vs.toArray } (.lst (ns.map V.int))) := fun h => if_pos h
      have hno : ∀ {c : Addr}, c ≠ a → (fun b => if b = a then some (HO.frz { cls := .type "list", data := .seq vs.toArray } (.lst (ns.map V.int))) else none : Hp) c = none :=
        fun h => if_neg h
      refine core (fun b => if b = a then some (.frz { cls := .type "list", data := .seq vs.toArray } (.lst (ns.map V.int))) else none)
        (fun b => ?_) (.inl ⟨_, hyes rfl⟩) (fun b u z => ?_) (fun b z => ?_) fun _ => hk
      · by_cases h : b = a
        · exact .inr ⟨_, _, hyes h⟩
        · exact .inl (hno h)
      · by_cases h : b = a
        · cases (hyes h).symm.trans z
          subst h
          exact ⟨ha, by rw [List.length_map]; exact hl, vs, _, rv, ha⟩
        · cases (hno h).symm.trans z
      · by_cases h : b = a
        · exact h
        · exact absurd (hno h) z
  intro H hO hS hok hA hK
  have up : ∀ {b : Addr} {o : Obj}, s1.heap.get? b = some o → H b = none → (hidT s1.heap H).get? b = some o :=
    fun e n => hidT_get e n
  have nsK : ∀ {b : Addr} {m : Str → Option Value}, s1.heap.Ns b m → (hidT s1.heap H).Ns b m := by
    intro b m ⟨o, es, ep, e, d, r⟩
    refine ⟨o, es, ep, up e ?_, d, r⟩
    cases q : H b with
    | none => rfl
    | some u =>
      have e' : b = a := hA b (by rw [q]; simp)
      subst e'
      rw [ha] at e
      cases e
      have d' : Data.seq vs.toArray _ = Data.dict es ep := d
      cases d'
  have hKb : K.In (hidT s1.heap H) := by
    intro b o e
    refine up (KX b o e) ?_
    cases q : H b with
    | none => rfl
    | some u =>
      have e' : b = a := hA b (by rw [q]; simp)
      subst e'
      rw [hK (by rw [q]; simp)] at e
      cases e
  have hM : Mod K mg (hidT s1.heap H) := ⟨hKb, nsK hns, ⟨mb, nsK hb, hbb⟩, let ⟨mc, h1, h2⟩ := hlim; ⟨mc, nsK h1, h2⟩⟩
  have nof : ∀ b, b ∉ frs [] := fun b z => by simp [frs] at z
  have e0 : Env0 P w K mg (hidT s1.heap H) callerA [] s1 H :=
    ⟨rfl, hM, fun b o e => of_hidT e, Nat.le_of_eq (hidT_size _ _), trivial, fun b hb => absurd hb (nof b), hok, .of_eq hg⟩
  have go := (F _ hKb (nsK hns)).go callerA [] s1 H ⟨[.ref a], []⟩ [.ref a] [.ref a] _ _ (callerG hr) e0
    (hbind s1 (.ref a)) (.cons rfl .nil) (hsp H hS)
  refine codeAny_mono go fun r s' h => ?_
  match r, h with
  | .error e, ⟨_, _, _, _, _, _, _, _, _, _, _, _, z⟩ => exact z.elim
  | .ok .next, h => exact h.elim
  | .ok .brk, h => exact h.elim
  | .ok .cont, h => exact h.elim
  | .ok (.ret u), ⟨v, H', os, bare, un, hok', r', q⟩ =>
    have q' : v = .bl true := q
    subst q'
    obtain rfl : u = Value.bool true := r'
    refine ⟨rfl, OldK.of_keep fun b o e => ?_, os, bare⟩
    cases q : H b with
    | none => exact un.keep b o e q (nof b) (by simp)
    | some u =>
      rcases hO b with z | ⟨ob, xs, z⟩
      · rw [q] at z
        cases z
      · obtain ⟨e1, _⟩ := hok b _ z
        obtain ⟨e2, _⟩ := hok' b _ (un.frzs b ob _ z)
        rw [e] at e1
        cases e1
        exact e2
/-- the goal behind k_head, from the law's promise -/
theorem walkG {l : PySem.W.OpenLaw} {n k : Nat} {q : Program} {loose : List Str} {XP : (Str → Option Value) → Heap → Prop}
    {YP : World → Heap → Prop} {d : DefRec} {K : Params → PySem.W.Frag} {sp : PySem.W.Frag → Sp} {x : Str}
    (hn : l.most = some n) (hn2 : n ≤ sizeLine) (hdf : d.params.defaults = []) (hr : Room (k + 2) callerA)
    (hY : ∀ (w : World) (h : Heap), YP w h → (K w.params).In h)
    (F : ∀ (w : World) (mg : Str → Option Value) (fa : Addr) (h : Heap), (K w.params).In h → h.Ns mainGlobals mg →
      mg d.name = some (.ref fa) → ∃ fd : FuncData,
        (∀ (s : Shared) (u : Value), BindsTo s fd ⟨[u], []⟩ [(x, u)]) ∧
        ∀ base : Heap, (K w.params).In base → base.Ns mainGlobals mg → FnG l.prog w (K w.params) mg base k fa fd [x] (sp (K w.params)))
    (hsp : ∀ (K : PySem.W.Frag) (H : Hp) (a : Addr) (ns : List Int), ns.length ≤ n → ScrOk K H a ns →
      sp K [.ref a] H (fun v _ => v = .bl true) fun _ _ _ => False) :
    PySem.W.WalkO q loose XP YP l.row.toRowW d [] (fun f vs => PySem.call f vs) := by
  refine Att.attach_call hn hdf ?_
  intro w s0 s1 mg mb fa o pm cd doc a vs ns G Y ho hd hcd hmg hobj hints hlen hg
  obtain ⟨fd, hb, hF⟩ := F w mg fa _ (hY w _ Y) G.T.g hmg
  exact lawG (hY w _ Y) G.T.g G.T.b G.T.builtins G.T.nolimit hg hobj hints (Nat.le_trans hlen hn2) hr hF hb
    fun H hS => hsp _ H a ns hlen hS
end Mini
end
section
set_option Elab.async false
set_option linter.all false
set_option maxRecDepth 100000
set_option maxHeartbeats 4000000
/-! tuple * 1, tuple * 0 -/
namespace Mini
open PySem PySem.Spec PyProof.Rows L2
theorem tuple_mul1 (l : Addr) (items : Array Value) (n : Nat) (dd : Option Addr) (sl : Array (Option Value)) (u : Tok) :
    Meets (Builtin.«tuple.__mul__» ⟨[.ref l, .int 1 u], []⟩) (fun _ R s => s.heap.get? l = some { cls := .type "tuple", dict := dd, data := .seq items n, slots := sl } ∧
      R (.ok (.ret (Value.ref l))) s) :=
  .of_wp fun prog w A R s h => by
    obtain ⟨hp, g, d, tk, os⟩ := s
    obtain ⟨hl, h⟩ := h
    have f1 := AutoSeq1.idx_int
    wp_walk using wpAny_loadPart' hl
    exact ⟨_, rfl, h⟩
theorem tuple_mul0 (l : Addr) (items : Array Value) (n : Nat) (dd : Option Addr) (sl : Array (Option Value)) (x : Int) (u : Tok) (c0 : (decide (x < -(2 ^ 63)) || decide (x ≥ 2 ^ 63)) = false) (c1 : (items.isEmpty || x == 1) = false) (c2 : (decide (x ≤ 0) || items.isEmpty) = true) :
    Meets (Builtin.«tuple.__mul__» ⟨[.ref l, .int x u], []⟩) (fun _ R s => s.heap.get? l = some { cls := .type "tuple", dict := dd, data := .seq items n, slots := sl } ∧
      R (.ok (.ret (Value.ref s.heap.objs.size))) { s with heap := s.heap.push { cls := Value.type "tuple", data := Data.seq #[] }, toks := s.toks }) :=
  .of_wp fun prog w A R s h => by
    obtain ⟨hp, g, d, tk, os⟩ := s
    obtain ⟨hl, h⟩ := h
    have f1 := AutoSeq1.idx_int
    wp_walk using wpAny_loadPart' hl
    repeat (first
      | (refine wpAny_ite_false (decide_eq_false (by rw [c0]; exact Bool.false_ne_true)) ?_; wp_walk using wpAny_loadPart' hl)
      | (refine wpAny_ite_false (decide_eq_false (by rw [c1]; exact Bool.false_ne_true)) ?_; wp_walk using wpAny_loadPart' hl)
      | (refine wpAny_ite_true (decide_eq_true (by rw [c2])) ?_; wp_walk using wpAny_loadPart' hl))
    exact ⟨_, rfl, h⟩
def rRepT1 (K : PySem.W.Frag) : R2 := fun x y H Q => ∃ l k xs, x = .ref l ∧ y = .int k ∧ SqT K H l xs ∧ (k = 1 ∧ Q (.ref l) H ∨ xs ≠ [] ∧ -1000000 ≤ k ∧ k ≤ 0 ∧ ∀ p, H p = none → Q (.ref p) (upd H p (.tup [])))
theorem op_repT1 {X : Cx} : OpR X (binaryOp .Mult) (rRepT1 X.K) := by
  intro pins s σ H x y v u Q I rx ry h
  obtain ⟨l, k, xs, rfl, rfl, hT, h⟩ := h
  cases rx
  obtain ⟨t, rfl⟩ := ry
  obtain ⟨its, r, ⟨⟨cls, dd, data, sl⟩, ho, hc, n, hd⟩, hs⟩ := I.tuple hT
  simp only at hc hd
  subst hc hd
  rcases h with ⟨rfl, q⟩ | ⟨hne, h1, h2, q⟩
  · refine wpAny_binaryOp_repeat_ref (T := "tuple") (U := "int") (by decide) ⟨_, ho, rfl⟩ (fun s' => typeIs_int s' 1 t) noFill_tuple_mul F.fills_int_mul F.slot_int_rmul repeat_tuple F.slot_int_index.lookup
      (call_meets F.slot_int_rmul (typeIs_int s 1 t) F.entry_int_rmul (F.args_int_rmul_2 _ _) (int_rmul_tuple 1 t l its.toArray n dd sl)
        ⟨ho, rfl, ⟨_, ho, rfl⟩, call_meets F.slot_tuple_mul ⟨_, ho, rfl⟩ F.entry_tuple_mul (F.args_tuple_mul_2 _ _) (tuple_mul1 l its.toArray n dd sl t) ⟨ho, ?_⟩⟩)
    exact ⟨.ref l, _, I, rfl, q⟩
  · have hle : its.length = xs.length := r.length.symm
    have hn : its ≠ [] := fun e => hne (by
      rw [e] at hle
      exact List.eq_nil_of_length_eq_zero hle.symm)
    have hi : its.toArray.isEmpty = false := by
      cases its with
      | nil => exact absurd rfl hn
      | cons a b => rfl
    have c0 : (decide (k < -(2 ^ 63)) || decide (k ≥ 2 ^ 63)) = false := by
      rw [decide_eq_false (by omega), decide_eq_false (by omega)] <;> rfl
    have c1 : (its.toArray.isEmpty || k == 1) = false := by
      rw [hi, Bool.false_or]
      exact beq_eq_false_iff_ne.mpr (by omega)
    have c2 : (decide (k ≤ 0) || its.toArray.isEmpty) = true := by
      rw [decide_eq_true h2]; rfl
    refine wpAny_binaryOp_repeat_ref (T := "tuple") (U := "int") (by decide) ⟨_, ho, rfl⟩ (fun s' => typeIs_int s' k t) noFill_tuple_mul F.fills_int_mul F.slot_int_rmul repeat_tuple F.slot_int_index.lookup
      (call_meets F.slot_int_rmul (typeIs_int s k t) F.entry_int_rmul (F.args_int_rmul_2 _ _) (int_rmul_tuple k t l its.toArray n dd sl)
        ⟨ho, rfl, ⟨_, ho, rfl⟩, call_meets F.slot_tuple_mul ⟨_, ho, rfl⟩ F.entry_tuple_mul (F.args_tuple_mul_2 _ _) (tuple_mul0 l its.toArray n dd sl k t c0 c1 c2) ⟨ho, ?_⟩⟩)
    refine ⟨.ref s.heap.objs.size, _, I.laid (t' := s.toks) (o := .tup []) (fun b ob q => Heap.get?_push_of_some _ q) (Nat.le_refl _) ?_, rfl, q _ (I.hok.fresh (Nat.le_refl _))⟩
    exact ⟨Nat.zero_le _, [], .nil, IsTup.new _ _⟩
end Mini
end
section
set_option Elab.async false
set_option linter.all false
set_option maxRecDepth 100000
set_option maxHeartbeats 4000000
/-! max(xs, default=d) -/
namespace Mini
open PySem PySem.Spec PyProof.Rows L2
section
variable {prog : Program} {w : World} {A : Around} {E : Value → Shared → Prop} {s : Shared}
theorem call_function_treeK {id : String} {b : Builtin} {args : List Value} {kw : List (Str × Value)} {Q : Value → Shared → Prop} (hk : builtinKind id = none) (hp : plainId id = true)
    (hb : entryFor table id = some b) (ha : argsOk id ⟨args, kw⟩)
    (hc : wpAny (model prog w) A.in1 (b ⟨args, kw⟩) (fun fin s' => match fin with
      | .done f => (match (Except.ok f : Result) with | .ok (.ret v) => Q v s' | .ok _ => False | .error e => E e s')
      | .again c' => c'.quiet = true ∧ codeAny (model prog w) A c' (fun r s' => match r with | .ok (.ret v) => Q v s' | .ok _ => False | .error e => E e s') s') E s) :
    wpAny (model prog w) A (call (.builtin id) args kw) Q E s := by
  refine wpAny_call (codeAny_call_builtin hp hb ?_)
  simp only [checkBuiltinCall, hk]
  cases hsig : Manifest.signature? id with
  | none => exact wpAny_pure hc
  | some sig =>
    have ha' : Bind.checkArgs id sig ⟨args, kw⟩ = pure () := by simpa only [argsOk, hsig] using ha
    simp only [ha']
    exact wpAny_pure hc
theorem args_maxD (a d : Value) : argsOk "max" ⟨[a], [("default", d)]⟩ := by unfold argsOk; kernel_rfl
end
section
variable {prog : Program} {w : World} {A : Around} {R : Result → Shared → Prop} {I : Addr} {fp wr : List Addr} {n : Nat} {P : Nat → Value → Prop} {St : Nat → Heap → Prop} {d : Value}
theorem codeAny_max_loopD (W : Walks prog w A.in1 I fp wr n P St) (bt : Nat → Nat → Bool) (hcmp : CmpOf prog w A.in1 .Gt P bt) (S : Addr) (hSf : S ∉ fp) :
    ∀ (k j : Nat) (s : Shared) (vb : Value) (c : Nat), n - (j + 1) = k → j + 1 ≤ n → St (j + 1) s.heap → P (argBest bt j) vb →
    s.heap.get? S = some { cls := .type "list", dict := none, data := .seq #[vb, vb] c, slots := #[] } →
    (∀ v h' tk, P (argBest bt (n - 1)) v → (∀ b o, b ∉ wr → b ≠ S → s.heap.get? b = some o → h'.get? b = some o) → R (.ok (.ret v)) { s with heap := h', toks := tk }) →
    codeAny (model prog w) A (.builtin "max.loop" ⟨[.ref I, .none, .ref S], [("default", d)]⟩) R s := by
  have hSw : S ∉ wr := fun h => hSf (W.sub _ h)
  have hname : (toString "max" ++ toString ".loop" : String) = "max.loop" := by decide
  intro k
  induction k with
  | zero =>
    intro j s vb c hk hj hst hPb hS hR
    have hin : j + 1 = n := by omega
    refine codeAny_builtin PySem.F.entry_max_loop ?_
    rw [Around.under_plainId PySem.F.plain_max_loop _]
    show wpAny _ A.in1 (seqItems? (.ref S) >>= _) _ _ s
    refine wpAny_bind (wpAny_seqItems hS rfl ?_)
    show wpAny _ A.in1 (tryCatch (pyNext (.ref I)) _ >>= _) _ _ s
    refine wpAny_bind (wpAny_tryCatch (W.done s _ _ (hin ▸ hst) fun h' tk hk' => ?_))
    have hS' := hk' S _ hSw hS
    show wpAny _ A.in1 (updateSeq S (fun _ => #[]) >>= _) _ _ _
    refine wpAny_bind ?_
    refine wpAny_updateSeq hS' rfl (wpAny_bind (wpAny_letGo (wpAny_pure ?_)))
    refine hR vb _ tk (by rw [← hin]; exact hPb) fun b o hbw hbS e => (Heap.get?_update_other _ _ (Ne.symm hbS)).trans (hk' b o hbw e)
  | succ k ih =>
    intro j s vb c hk hj hst hPb hS hR
    have hlt : j + 1 < n := by omega
    refine codeAny_builtin PySem.F.entry_max_loop ?_
    rw [Around.under_plainId PySem.F.plain_max_loop _]
    show wpAny _ A.in1 (seqItems? (.ref S) >>= _) _ _ s
    refine wpAny_bind (wpAny_seqItems hS rfl ?_)
    show wpAny _ A.in1 (tryCatch (pyNext (.ref I)) _ >>= _) _ _ s
    refine wpAny_bind (wpAny_tryCatch (W.item (j + 1) s _ _ hlt hst fun v h' tk hP hst' hk' => ?_))
    have hS' := hk' S _ hSw hS
    show wpAny _ A.in1 (tryCatch (holding [v, v] (richCompare .Gt v vb >>= _)) _ >>= _) _ _ _
    refine wpAny_bind (wpAny_tryCatch (wpAny_holding (wpAny_bind (hcmp (j + 1) (argBest bt j) v vb _ _ _ hP hPb ?_))))
    refine wpAny_bind (wpAny_holding (wpAny_truthy_bool ?_))
    refine wpAny_bind (wpAny_letGo (wpAny_pure ?_))
    cases hb : bt (j + 1) (argBest bt j) with
    | true =>
      simp only [if_true]
      refine wpAny_bind ?_
      refine wpAny_updateSeq hS' rfl (wpAny_bind (wpAny_letGo ?_))
      rw [hname]
      refine wpAny_pure ⟨plainId_quiet PySem.F.plain_max_loop _, ih (j + 1) _ v _ (by omega) hlt (W.frame _ _ _ hst' fun b hbf o e => ?_) (by simp only [argBest, hb, if_true]; exact hP) (Heap.get?_update_self _ hS' rfl)
        fun v' h'' tk'' hP' hk'' => ?_⟩
      · exact (Heap.get?_update_other _ _ (fun h : S = b => hSf (by rw [h]; exact hbf))).trans e
      · exact hR v' h'' tk'' hP' fun b o hbw hbS e => hk'' b o hbw hbS ((Heap.get?_update_other _ _ (Ne.symm hbS)).trans (hk' b o hbw e))
    | false =>
      simp only [Bool.false_eq_true, if_false]
      refine wpAny_bind (wpAny_letGo ?_)
      rw [hname]
      refine wpAny_pure ⟨plainId_quiet PySem.F.plain_max_loop _, ih (j + 1) _ vb c (by omega) hlt hst' (by simp only [argBest, hb, Bool.false_eq_true, if_false]; exact hPb) hS' fun v' h'' tk'' hP' hk'' => ?_⟩
      exact hR v' h'' tk'' hP' fun b o hbw hbS e => hk'' b o hbw hbS (hk' b o hbw e)
theorem codeAny_max_loop_firstD (W : Walks prog w A.in1 I fp wr n P St) (bt : Nat → Nat → Bool) (hcmp : CmpOf prog w A.in1 .Gt P bt) (S : Addr) (hSf : S ∉ fp) {s : Shared} {c : Nat} (hst : St 0 s.heap)
    (hS : s.heap.get? S = some { cls := .type "list", dict := none, data := .seq #[] c, slots := #[] })
    (hR : ∀ v h' tk, (n = 0 ∧ v = d ∨ 0 < n ∧ P (argBest bt (n - 1)) v) → (∀ b o, b ∉ wr → b ≠ S → s.heap.get? b = some o → h'.get? b = some o) → R (.ok (.ret v)) { s with heap := h', toks := tk }) :
    codeAny (model prog w) A (.builtin "max.loop" ⟨[.ref I, .none, .ref S], [("default", d)]⟩) R s := by
  have hSw : S ∉ wr := fun h => hSf (W.sub _ h)
  have hname : (toString "max" ++ toString ".loop" : String) = "max.loop" := by decide
  have hname2 : (toString "max" ++ toString ".default" : String) = "max.default" := by decide
  refine codeAny_builtin PySem.F.entry_max_loop ?_
  rw [Around.under_plainId PySem.F.plain_max_loop _]
  show wpAny _ A.in1 (seqItems? (.ref S) >>= _) _ _ s
  refine wpAny_bind (wpAny_seqItems hS rfl ?_)
  show wpAny _ A.in1 (tryCatch (pyNext (.ref I)) _ >>= _) _ _ s
  rcases Nat.eq_zero_or_pos n with hn | hn
  · refine wpAny_bind (wpAny_tryCatch (W.done s _ _ (hn ▸ hst) fun h' tk hk' => ?_))
    show wpAny _ A.in1 (rule _ >>= _) _ _ _
    refine wpAny_bind (wpAny_rule ?_)
    refine wpAny_pure ?_
    exact hR d h' tk (.inl ⟨hn, rfl⟩) fun b o hbw _ e => hk' b o hbw e
  · refine wpAny_bind (wpAny_tryCatch (W.item 0 s _ _ hn hst fun v h' tk hP hst' hk' => ?_))
    have hS' := hk' S _ hSw hS
    show wpAny _ A.in1 (updateSeq S (fun _ => #[v, v]) >>= _) _ _ _
    refine wpAny_bind ?_
    refine wpAny_updateSeq hS' rfl ?_
    rw [hname]
    refine wpAny_pure ⟨plainId_quiet PySem.F.plain_max_loop _, codeAny_max_loopD W bt hcmp S hSf _ 0 _ v _ rfl hn (W.frame _ _ _ hst' fun b hbf o e => ?_) hP (Heap.get?_update_self _ hS' rfl) fun v' h'' tk'' hP' hk'' => ?_⟩
    · exact (Heap.get?_update_other _ _ (fun h : S = b => hSf (by rw [h]; exact hbf))).trans e
    · exact hR v' h'' tk'' (.inr ⟨hn, hP'⟩) fun b o hbw hbS e => hk'' b o hbw hbS ((Heap.get?_update_other _ _ (Ne.symm hbS)).trans (hk' b o hbw e))
end
section
variable {prog : Program} {w : World} {A : Around} {E : Value → Shared → Prop} {s : Shared} {d : Value}
theorem call_max_walkD {x : Value} {Q : Value → Shared → Prop}
    (h : wpAny (model prog w) A.in1 (pyIter x) (fun it s₂ => ∃ I fp wr n P St bt, it = .ref I ∧ Walks prog w A.in1 I fp wr n P St ∧ St 0 s₂.heap ∧ (∀ b ∈ fp, b < s₂.heap.objs.size) ∧ CmpOf prog w A.in1 .Gt P bt ∧
      ∀ v h' tk, (n = 0 ∧ v = d ∨ 0 < n ∧ P (argBest bt (n - 1)) v) → (∀ b o, b ∉ wr → s₂.heap.get? b = some o → h'.get? b = some o) → Q v { s₂ with heap := h', toks := tk }) E s) :
    wpAny (model prog w) A (call (.builtin "max") [x] [("default", d)]) Q E s := by
  have hname : (toString "max" ++ toString ".loop" : String) = "max.loop" := by decide
  refine call_function_treeK PySem.F.kind_max PySem.F.plain_max PySem.F.entry_max (args_maxD _ _) ?_
  show wpAny _ A.in1 (Builtin.Builtins.bindParams "max" ["key", "default"] 0 ⟨[], [("default", d)]⟩ >>= _) _ _ s
  refine wpAny_bind (wpAny_of_eq (show Builtin.Builtins.bindParams "max" ["key", "default"] 0 ⟨[], [("default", d)]⟩ = pure [none, some d] from rfl) ?_)
  refine wpAny_bind (wpAny_pure ?_)
  refine wpAny_bind (wpAny_mono h (fun it s₂ h₂ => ?_) fun _ _ e => e)
  obtain ⟨I, fp, wr, n, P, St, bt, rfl, W, hst, hfp, hcmp, hQ⟩ := h₂
  refine wpAny_bind (wpAny_newObj_type ?_)
  have hSf : s₂.heap.objs.size ∉ fp := fun hm => Nat.lt_irrefl _ (hfp _ hm)
  rw [hname]
  refine wpAny_pure ⟨plainId_quiet PySem.F.plain_max_loop _, codeAny_max_loop_firstD W bt hcmp s₂.heap.objs.size hSf (W.frame _ _ _ hst fun b _ o e => Heap.get?_push_of_some _ e) (Heap.get?_push_size _ rfl) fun v h' tk hP hk => ?_⟩
  exact hQ v h' tk hP fun b o hbw e => hk b o hbw (Nat.ne_of_lt (Heap.lt_size e)) (Heap.get?_push_of_some _ e)
theorem max_intListD {l : Addr} {xs : Array (Int × Tok)} {Q : Value → Shared → Prop} (hh : A.handled = none) (hl : s.heap.IsList l (intItems xs))
    (h : ∀ v h' tk, (xs.size = 0 ∧ v = d ∨ 0 < xs.size ∧ (intItems xs)[argBest (fun i j => decide (numAt xs i > numAt xs j)) (xs.size - 1)]? = some v) → (∀ b o, s.heap.get? b = some o → h'.get? b = some o) → Q v { s with heap := h', toks := tk }) :
    wpAny (model prog w) A (call (.builtin "max") [.ref l] [("default", d)]) Q E s := by
  refine call_max_walkD (iter_intList hl fun s₂ e st hfp hlI => ?_)
  subst e
  refine ⟨_, _, _, _, _, _, _, rfl, Walks.list (A := A.in1) hh _ l hlI (intItems xs), st, hfp, CmpOf.ints_gt (numAt xs) (fun _ _ => intItems_at), fun v h' tk hP hk => ?_⟩
  exact h v h' tk (by simpa [intItems] using hP) (old_kept hk)
theorem foldl_max : ∀ {r : List Int} {n : Int}, (r.foldl (fun a b => if b > a then b else a) n = n ∨ r.foldl (fun a b => if b > a then b else a) n ∈ r) ∧ n ≤ r.foldl (fun a b => if b > a then b else a) n ∧ ∀ y ∈ r, y ≤ r.foldl (fun a b => if b > a then b else a) n
  | [], n => ⟨.inl rfl, Int.le_refl _, fun y hy => absurd hy (by simp)⟩
  | m :: r, n => by
    obtain ⟨h1, h2, h3⟩ := foldl_max (r := r) (n := if m > n then m else n)
    rw [List.foldl_cons]
    generalize hz : List.foldl (fun a b => if b > a then b else a) (if m > n then m else n) r = z at *
    refine ⟨?_, ?_, fun y hy => ?_⟩
    · by_cases c : m > n
      · rw [if_pos c] at h1
        rcases h1 with h1 | h1
        · exact .inr (by rw [h1]; exact List.mem_cons_self ..)
        · exact .inr (List.mem_cons_of_mem _ h1)
      · rw [if_neg c] at h1
        rcases h1 with h1 | h1
        · exact .inl h1
        · exact .inr (List.mem_cons_of_mem _ h1)
    · split at h2 <;> omega
    · rcases List.mem_cons.mp hy with rfl | hy
      · split at h2 <;> omega
      · exact h3 y hy
theorem maxD_of {d M : Int} {ns : List Int} (h : M ∈ ns) (h2 : ∀ y ∈ ns, y ≤ M) : M = maxD d ns := by
  cases ns with
  | nil => exact absurd h (by simp)
  | cons n r =>
    obtain ⟨h3, h4, h5⟩ := foldl_max (r := r) (n := n)
    show M = List.foldl _ n r
    have h6 : List.foldl (fun a b => if b > a then b else a) n r ≤ M := by
      rcases h3 with h3 | h3
      · rw [h3]; exact h2 n (List.mem_cons_self ..)
      · exact h2 _ (List.mem_cons_of_mem _ h3)
    have h7 : M ≤ List.foldl (fun a b => if b > a then b else a) n r := by
      rcases List.mem_cons.mp h with rfl | h
      · exact h4
      · exact h5 M h
    omega
theorem maxD_raw {its : List Value} {ns : List Int} {l : Addr} {i : Int} {t : Tok} {Q : Value → Shared → Prop} (hh : A.handled = none) (hl : s.heap.IsList l its.toArray) (hi : IntsAre its ns)
    (h : ∀ h' tk t', (∀ b o, s.heap.get? b = some o → h'.get? b = some o) → Q (.int (maxD i ns) t') { s with heap := h', toks := tk }) : wpAny (model prog w) A (call (.builtin "max") [.ref l] [("default", .int i t)]) Q E s := by
  obtain ⟨xs, e⟩ := hi.allInts.items
  have hn : numsOf (intItems xs).toList = ns := by rw [← e]; exact hi.numsOf
  rw [nums_intItems] at hn
  subst hn
  rw [e] at hl
  refine max_intListD hh hl fun v h' tk hv hk => ?_
  rcases hv with ⟨h0, rfl⟩ | ⟨h0, hv⟩
  · have : xs.toList.map (·.1) = [] := by
      have : xs.toList = [] := List.length_eq_zero_iff.mp (by rw [Array.length_toList]; exact h0)
      rw [this]; rfl
    rw [this] at h
    exact h h' tk t hk
  · obtain ⟨t', rfl⟩ := intItems_at hv
    obtain ⟨h1, h2⟩ := argBest_gt (numAt xs) (xs.size - 1)
    rw [show numAt xs (argBest (fun i j => decide (numAt xs i > numAt xs j)) (xs.size - 1)) = maxD i (xs.toList.map (·.1)) from maxD_of ?_ fun a ha => ?_]
    · exact h h' tk t' hk
    · rw [numAt_eq]; exact PySem.getD_mem (by rw [List.length_map, Array.length_toList]; omega)
    · obtain ⟨j, hj, rfl⟩ := mem_getD ha
      rw [List.length_map, Array.length_toList] at hj
      rw [← numAt_eq]; exact h2 j (by omega)
end
def rMaxDf (K : PySem.W.Frag) : List V → List V → Hp → VK → Prop := fun vs zs H Q => ∃ (a : Addr) (ns : List Int) (i : Int), vs = [V.ref a] ∧ zs = [V.int i] ∧ SqL K H a (ns.map V.int) ∧ Q (.int (maxD i ns)) H
theorem cr_maxDf {X : Cx} (hc : X.calm = true) : CallRK X (.builtin "max") [Str.ofString "default"] (rMaxDf X.K) := by
  intro pins s σ H vs zs us ws Q I r rz h
  obtain ⟨a, ns, i, rfl, rfl, hs, q⟩ := h
  obtain ⟨its, rv, hl, _⟩ := I.list hs
  obtain rfl := Vals.ref1 r
  obtain ⟨w1, rfl, e1⟩ := vals1 rz
  obtain ⟨t, rfl⟩ := e1
  exact maxD_raw (I.ok.hd hc) hl.isList rv.ints fun h' tk t' hk => ⟨.int _, H, I.kept hk, ⟨_, rfl⟩, q⟩
end Mini
end
section
set_option Elab.async false
set_option linter.all false
set_option maxRecDepth 100000
/-! Mini: each operation over what HandS has for it. -/
namespace Mini
open PySem PySem.Spec PyProof.Rows L2

theorem line24 : (sizeLine : Nat) = 16777216 := sizeLine_eq

section
variable {K : PySem.W.Frag} {p : Nat → Addr} {h : MH} {H : Hp} {x y z : MV} {v u t : V}
theorem rv_int {i : Int} (r : RV K ⟨p, h, H⟩ (.d (.int i)) v) : v = .int i := by cases r; rfl
theorem rv_bool {i : Bool} (r : RV K ⟨p, h, H⟩ (.d (.bool i)) v) : v = .bl i := by cases r; rfl
theorem rv_none (r : RV K ⟨p, h, H⟩ (.d .none) v) : v = .non := by cases r; rfl
theorem rv_str {i : Str} (r : RV K ⟨p, h, H⟩ (.d (.str i)) v) : v = .str i := by cases r; rfl
theorem rv_list {xs : List PyData} (r : RV K ⟨p, h, H⟩ (.d (.list xs)) v) : ∃ a vs, v = .ref a ∧ H a = some (.lst vs) ∧ ¬ live ⟨p, h, H⟩ a ∧ FzAll K (live ⟨p, h, H⟩) H vs xs := by
  cases r with
  | lst e n f => exact ⟨_, _, rfl, e, n, f⟩
theorem rv_tup {xs : List PyData} (r : RV K ⟨p, h, H⟩ (.d (.tuple xs)) v) : ∃ a vs, v = .ref a ∧ TupAt K H a vs ∧ FzAll K (live ⟨p, h, H⟩) H vs xs := by
  cases r with
  | tup e f => exact ⟨_, _, rfl, e, f⟩
theorem rv_cell {i : Nat} {C : List PyData → Prop} (ok : WOk K ⟨p, h, H⟩) (r : RV K ⟨p, h, H⟩ (.r i) v) (q : cellW h i C) : ∃ vs xs, v = .ref (p i) ∧ h[i]? = some xs ∧ H (p i) = some (.lst vs) ∧ FzAll K (live ⟨p, h, H⟩) H vs xs ∧ C xs := by
  unfold cellW at q
  split at q
  · rename_i xs e
    obtain ⟨vs, e1, e2⟩ := (ok.cells i xs e).lst ((kd_of e).symm.trans r.1.2)
    exact ⟨vs, xs, r.2, e, e1, e2, q⟩
  · exact q.elim
theorem lst_snd {C : List PyData → Prop} (ok : WOk K ⟨p, h, H⟩) (r : RV K ⟨p, h, H⟩ x v) (q : lstW x h C) : ∃ a vs xs, v = .ref a ∧ H a = some (.lst vs) ∧ FzAll K (live ⟨p, h, H⟩) H vs xs ∧ C xs := by
  unfold lstW at q
  split at q
  · obtain ⟨a, vs, e, e1, _, f⟩ := rv_list r
    exact ⟨a, vs, _, e, e1, f, q⟩
  · obtain ⟨vs, xs, e, _, e1, f, q⟩ := rv_cell ok r q
    exact ⟨_, vs, xs, e, e1, f, q⟩
  · exact q.elim
theorem seq_snd {C : List PyData → Prop} (ok : WOk K ⟨p, h, H⟩) (r : RV K ⟨p, h, H⟩ x v) (q : seqW x h C) : ∃ a vs xs, v = .ref a ∧ (H a = some (.lst vs) ∨ TupAt K H a vs) ∧ FzAll K (live ⟨p, h, H⟩) H vs xs ∧ C xs := by
  unfold seqW at q
  split at q
  · obtain ⟨a, vs, e, e1, _, f⟩ := rv_list r
    exact ⟨a, vs, _, e, .inl e1, f, q⟩
  · obtain ⟨a, vs, e, e1, f⟩ := rv_tup r
    exact ⟨a, vs, _, e, .inr e1, f, q⟩
  · obtain ⟨vs, xs, e, _, e1, f, q⟩ := rv_cell ok r q
    exact ⟨_, vs, xs, e, .inl e1, f, q⟩
  · exact q.elim
theorem sq_or {a : Addr} {vs : List V} (e : H a = some (.lst vs) ∨ TupAt K H a vs) : SqL K H a vs ∨ SqT K H a vs := e.imp SqL.of TupAt.sq
theorem dp_ints : ∀ ns : List Int, DpAll K H (ns.map V.int) (ns.map PyData.int)
  | [] => .nil
  | n :: ns => .cons (.int n) (dp_ints ns)
theorem dat_snd {C : PyData → Prop} (ok : WOk K ⟨p, h, H⟩) (r : RV K ⟨p, h, H⟩ x v) (q : datW x h C) : ∃ d, Dp K H v d ∧ C d := by
  unfold datW at q
  split at q
  · exact ⟨_, Fz.dp _ _ r, q⟩
  · obtain ⟨vs, xs, e, _, e1, f, q⟩ := rv_cell ok r q
    subst e
    exact ⟨_, .lst (SqL.of e1) (FzAll.dp _ _ f), q⟩
  · obtain ⟨a, rfl, sc⟩ := r
    exact ⟨_, .lst sc.sq (dp_ints _), q⟩
  · exact q.elim
end

/-! ### dicts -/
theorem keyIs_D (a b : L2.Key) : keyIs (keyD a) (keyD b) = decide (a = b) := by
  cases a <;> cases b <;> simp [keyD, keyIs]
theorem keysIs_D : ∀ (a b : List L2.Key), keysIs (a.map keyD) (b.map keyD) = decide (a = b)
  | [], [] => rfl
  | [], _ :: _ => rfl
  | _ :: _, [] => rfl
  | x :: a, y :: b => by
    show (keyIs (keyD x) (keyD y) && keysIs (a.map keyD) (b.map keyD)) = _
    rw [keyIs_D, keysIs_D a b]
    by_cases h1 : x = y <;> by_cases h2 : a = b <;> simp [h1, h2]
theorem keyIs_T (a b : List L2.Key) : keyIs (.tuple (a.map keyD)) (.tuple (b.map keyD)) = decide (a = b) := keysIs_D a b
section
variable {κ : Type} [DecidableEq κ] {K : PySem.W.Frag} {B : Addr → Prop} {H : Hp} {f : κ → PyData} (hf : ∀ a b, keyIs (f a) (f b) = decide (a = b))
include hf
/-- what a dict tells of a key -/
theorem dget_rel {k : κ} : ∀ {kvs : List (κ × V)} {ps : List (PyData × PyData)}, Paired (fun (x : κ × V) p => f x.1 = p.1 ∧ Fz K B H x.2 p.2) kvs ps →
    (valV kvs k = none ∧ dgetP ps (f k) = none) ∨ ∃ v d, valV kvs k = some v ∧ dgetP ps (f k) = some d ∧ Fz K B H v d
  | _, _, .nil => .inl ⟨rfl, rfl⟩
  | x :: kvs, p :: ps, .cons r t => by
    have e : keyIs p.1 (f k) = decide (x.1 = k) := by rw [← r.1, hf]
    by_cases h : x.1 = k
    · refine .inr ⟨x.2, p.2, valV_pos h, ?_, r.2⟩
      unfold dgetP
      rw [List.find?_cons, e, decide_eq_true h]; rfl
    · rw [valV_neg h]
      have ih := dget_rel (k := k) t
      have e2 : dgetP (p :: ps) (f k) = dgetP ps (f k) := by
        unfold dgetP
        rw [List.find?_cons, e, decide_eq_false h]
      rw [e2]
      exact ih
theorem dany_rel {k : κ} : ∀ {kvs : List (κ × V)} {ps : List (PyData × PyData)}, Paired (fun (x : κ × V) p => f x.1 = p.1 ∧ Fz K B H x.2 p.2) kvs ps →
    (ps.any fun p => keyIs p.1 (f k)) = kvs.any fun kv => decide (kv.1 = k)
  | _, _, .nil => rfl
  | x :: kvs, p :: ps, .cons r t => by
    rw [List.any_cons, List.any_cons, dany_rel t, ← r.1, hf]
theorem dmap_rel {k : κ} {v : V} {d : PyData} (rv : Fz K B H v d) : ∀ {kvs : List (κ × V)} {ps : List (PyData × PyData)}, Paired (fun (x : κ × V) p => f x.1 = p.1 ∧ Fz K B H x.2 p.2) kvs ps →
    Paired (fun (x : κ × V) p => f x.1 = p.1 ∧ Fz K B H x.2 p.2) (kvs.map fun kv => if kv.1 = k then (kv.1, v) else kv) (ps.map fun p => if keyIs p.1 (f k) = true then (p.1, d) else p)
  | _, _, .nil => .nil
  | x :: kvs, p :: ps, .cons r t => by
    have e : keyIs p.1 (f k) = decide (x.1 = k) := by rw [← r.1, hf]
    refine .cons ?_ (dmap_rel rv t)
    dsimp only
    by_cases h : x.1 = k
    · rw [if_pos h, if_pos (by rw [e]; exact decide_eq_true h)]; exact ⟨r.1, rv⟩
    · rw [if_neg h, if_neg (by rw [e, decide_eq_false h]; exact Bool.false_ne_true)]; exact ⟨r.1, r.2⟩
theorem dsnoc_rel {k : κ} {v : V} {d : PyData} (rv : Fz K B H v d) : ∀ {kvs : List (κ × V)} {ps : List (PyData × PyData)}, Paired (fun (x : κ × V) p => f x.1 = p.1 ∧ Fz K B H x.2 p.2) kvs ps →
    Paired (fun (x : κ × V) p => f x.1 = p.1 ∧ Fz K B H x.2 p.2) (kvs ++ [(k, v)]) (ps ++ [(f k, d)])
  | _, _, .nil => .cons ⟨rfl, rv⟩ .nil
  | _, _, .cons r t => .cons r (dsnoc_rel rv t)
theorem dput_rel {k : κ} {v : V} {d : PyData} (rv : Fz K B H v d) {kvs : List (κ × V)} {ps : List (PyData × PyData)} (r : Paired (fun (x : κ × V) p => f x.1 = p.1 ∧ Fz K B H x.2 p.2) kvs ps) :
    Paired (fun (x : κ × V) p => f x.1 = p.1 ∧ Fz K B H x.2 p.2) (putK kvs k v) (dputP ps (f k) d) := by
  have e := dany_rel hf (k := k) r
  unfold putK dputP
  rw [e]
  cases h : kvs.any fun kv => decide (kv.1 = k) with
  | true => simp only [if_true]; exact dmap_rel hf rv r
  | false => simp only [Bool.false_eq_true, if_false]; exact dsnoc_rel hf rv r
end
theorem key_fz {K : PySem.W.Frag} {B : Addr → Prop} {H : Hp} {d : PyData} {v : V} (f : Fz K B H v d) (h : flatK d = true) : ∃ k : L2.Key, v = kV k ∧ d = keyD k := by
  cases f with
  | int i => exact ⟨.inl i, rfl, rfl⟩
  | str s => exact ⟨.inr s, rfl, rfl⟩
  | _ => cases h
theorem key_t {ks : List PyData} (h : keyOk true (.tuple ks) = true) : gnd = false ∧ ks.all flatK = true := by
  have h : (!gnd && ks.all flatK) = true := h
  rw [Bool.and_eq_true, Bool.not_eq_true'] at h
  exact h
theorem keys_fz {K : PySem.W.Frag} {B : Addr → Prop} {H : Hp} : ∀ {ds : List PyData} {vs : List V}, FzAll K B H vs ds → ds.all flatK = true → ∃ ks : List L2.Key, vs = ks.map kV ∧ ds = ks.map keyD
  | _, _, .nil, _ => ⟨[], rfl, rfl⟩
  | d :: ds, v :: vs, .cons r t, h => by
    rw [List.all_cons, Bool.and_eq_true] at h
    obtain ⟨k, rfl, rfl⟩ := key_fz r h.1
    obtain ⟨ks, rfl, rfl⟩ := keys_fz t h.2
    exact ⟨k :: ks, rfl, rfl⟩
theorem pairedLen {α β : Type} {F : α → β → Prop} : ∀ {l : List α} {m : List β}, Paired F l m → l.length = m.length
  | _, _, .nil => rfl
  | _, _, .cons _ t => congrArg (· + 1) (pairedLen t)
section
variable {K : PySem.W.Frag} {p : Nat → Addr} {h : MH} {H : Hp} {v u : V}
/-- a dict at a cell -/
theorem rv_dct {i : Nat} {C : Bool → List (PyData × PyData) → Prop} (ok : WOk K ⟨p, h, H⟩) (r : RV K ⟨p, h, H⟩ (.m i) v) (q : dctW h i C) : ∃ t ps, v = .ref (p i) ∧ h[i]? = some (dcell t ps) ∧ DOk K (live ⟨p, h, H⟩) H (p i) t ps ∧ C t ps := by
  unfold dctW at q
  split at q
  · rename_i ps e
    exact ⟨false, ps, r.2, e, (ok.cells i _ e).dct (t := false), q⟩
  · rename_i ps e
    exact ⟨true, ps, r.2, e, (ok.cells i _ e).dct (t := true), q⟩
  · exact q.elim
/-- what a dict tells -/
theorem dget_snd {a : Addr} {t : Bool} {ps : List (PyData × PyData)} {k : PyData} (d : DOk K (live ⟨p, h, H⟩) H a t ps) (rk : Fz K (live ⟨p, h, H⟩) H u k) (ok : keyOk t k = true) :
    (dgetP ps k = none ∧ DGet H a u none) ∨ ∃ w x, dgetP ps k = some x ∧ DGet H a u (some w) ∧ Fz K (live ⟨p, h, H⟩) H w x := by
  cases t with
  | false =>
    obtain ⟨kvs, e, r⟩ := d
    obtain ⟨k', rfl, rfl⟩ := key_fz rk ok
    rcases dget_rel keyIs_D (k := k') r with ⟨h1, h2⟩ | ⟨w, x, h1, h2, h3⟩
    · exact .inl ⟨h2, by rw [← h1]; exact DGet.k e⟩
    · exact .inr ⟨w, x, h2, by rw [← h1]; exact DGet.k e, h3⟩
  | true =>
    obtain ⟨kvs, e, r⟩ := d
    cases rk with
    | tup eb f =>
      have eb := eb.own (key_t ok).1
      obtain ⟨ks, rfl, rfl⟩ := keys_fz f (key_t ok).2
      rcases dget_rel keyIs_T (k := ks) r with ⟨h1, h2⟩ | ⟨w, x, h1, h2, h3⟩
      · exact .inl ⟨h2, by rw [← h1]; exact DGet.t e eb⟩
      · exact .inr ⟨w, x, h2, by rw [← h1]; exact DGet.t e eb, h3⟩
    | _ => cases ok
/-- a dict is written -/
theorem dput_snd {i : Nat} {t : Bool} {ps : List (PyData × PyData)} {k x : PyData} {w : V} (ok : WOk K ⟨p, h, H⟩) (e : h[i]? = some (dcell t ps)) (d : DOk K (live ⟨p, h, H⟩) H (p i) t ps) (rk : Fz K (live ⟨p, h, H⟩) H u k) (rx : Fz K (live ⟨p, h, H⟩) H w x) (hk : keyOk t k = true) (hl : ps.length < 16777216) :
    ∃ o, DPut H (p i) u w (upd H (p i) o) ∧ WOk K ⟨p, h.set i (dcell t (dputP ps k x)), upd H (p i) o⟩ ∧ Ext K ⟨p, h, H⟩ ⟨p, h.set i (dcell t (dputP ps k x)), upd H (p i) o⟩ := by
  cases t with
  | false =>
    obtain ⟨kvs, eh, r⟩ := d
    obtain ⟨k', rfl, rfl⟩ := key_fz rk hk
    have hz : kvs.length < sizeLine := by rw [pairedLen r, sizeLine_eq]; exact hl
    obtain ⟨a, b⟩ := wd_put (K := K) (o := .dK (putK kvs k' w)) (ds := dcell false (dputP ps (keyD k') x)) ok e (by rw [dc_dcell, dc_dcell]) fun B' H' ml mt e' =>
      .inr ⟨false, _, rfl, _, e', dput_rel keyIs_D (Fz.mono ml mt _ _ rx) (Paired.mapP r fun a q z => ⟨z.1, Fz.mono ml mt _ _ z.2⟩)⟩
    exact ⟨_, DPut.k eh hz, a, b⟩
  | true =>
    obtain ⟨kvs, eh, r⟩ := d
    cases rk with
    | tup eb f =>
      have eb := eb.own (key_t hk).1
      obtain ⟨ks, rfl, rfl⟩ := keys_fz f (key_t hk).2
      have hz : kvs.length < sizeLine := by rw [pairedLen r, sizeLine_eq]; exact hl
      obtain ⟨a, b⟩ := wd_put (K := K) (o := .dT (putK kvs ks w)) (ds := dcell true (dputP ps (.tuple (ks.map keyD)) x)) ok e (by rw [dc_dcell, dc_dcell]) fun B' H' ml mt e' =>
        .inr ⟨true, _, rfl, _, e', dput_rel keyIs_T (Fz.mono ml mt _ _ rx) (Paired.mapP r fun a q z => ⟨z.1, Fz.mono ml mt _ _ z.2⟩)⟩
      exact ⟨_, DPut.t eh eb hz, a, b⟩
    | _ => cases hk
end

/-- what a rule's end asks, from what the small language's end promises -/
abbrev Fin (K : PySem.W.Frag) (W : Wd) (Qm : MQ) (Q : VK) : Prop := ∀ (d : MV) (h' : MH) (p' : Nat → Addr) (H' : Hp) (v : V), Qm d h' → WOk K ⟨p', h', H'⟩ → Ext K W ⟨p', h', H'⟩ → RV K ⟨p', h', H'⟩ d v → Q v H'
section
variable {K : PySem.W.Frag} {p : Nat → Addr} {h : MH} {H : Hp} {x y : MV} {v u : V} {Qm : MQ} {Q : VK}
theorem fin_new {xs : List PyData} {vs : List V} {q : Addr} (ok : WOk K ⟨p, h, H⟩) (fin : Fin K ⟨p, h, H⟩ Qm Q) (f : FzAll K (live ⟨p, h, H⟩) H vs xs) (hq : newL xs h Qm) (n : H q = none) : Q (.ref q) (upd H q (.lst vs)) := by
  obtain ⟨a, b, c⟩ := wd_lst (K := K) ok n f
  exact fin _ _ _ _ _ hq a b c
theorem fin_tup {xs : List PyData} {vs : List V} {q : Addr} (ok : WOk K ⟨p, h, H⟩) (fin : Fin K ⟨p, h, H⟩ Qm Q) (f : FzAll K (live ⟨p, h, H⟩) H vs xs) (hq : Qm (.d (.tuple xs)) h) (n : H q = none) : Q (.ref q) (upd H q (.tup vs)) := by
  obtain ⟨a, b, c⟩ := wd_tup (K := K) ok n f
  exact fin _ _ _ _ _ hq a b c
/-- nothing has changed -/
theorem fin_here {d : MV} {w : V} (ok : WOk K ⟨p, h, H⟩) (fin : Fin K ⟨p, h, H⟩ Qm Q) (hq : Qm d h) (r : RV K ⟨p, h, H⟩ d w) : Q w H := fin _ _ _ _ _ hq ok Ext.refl r

def rAddM (K : PySem.W.Frag) : R2 := fun x y H Q => rI0 (fun i j => .int (i + j)) x y H Q ∨ rCatA K x y H Q ∨
  (∃ i j, x = .str i ∧ y = .str j ∧ i.length + j.length ≤ sizeLine ∧ Q (.str (i ++ j)) H) ∨ rCat x y H Q
theorem op_addM {X : Cx} : OpR X (binaryOp .Add) (rAddM X.K) := op_add.or (op_catA.or (op_add_str.or op_cat))
theorem add_snd (ok : WOk K ⟨p, h, H⟩) (rx : RV K ⟨p, h, H⟩ x v) (ry : RV K ⟨p, h, H⟩ y u) (hw : wAdd x y h Qm) (fin : Fin K ⟨p, h, H⟩ Qm Q) : rAddM K v u H Q := by
  have cat : ∀ {a b : Addr} {vs us : List V} {xs ys : List PyData}, H a = some (.lst vs) → H b = some (.lst us) → FzAll K (live ⟨p, h, H⟩) H vs xs → FzAll K (live ⟨p, h, H⟩) H us ys →
      (xs.length + ys.length ≤ 16777216 ∧ newL (xs ++ ys) h Qm) → rAddM K (.ref a) (.ref b) H Q := fun ea eb fa fb hq =>
    .inr (.inr (.inr ⟨_, _, _, _, rfl, rfl, ea, eb, by rw [fa.length, fb.length, line24]; exact hq.1, fun q n => fin_new ok fin (fa.append fb) hq.2 n⟩))
  unfold wAdd at hw
  split at hw
  · cases rv_int rx
    cases rv_int ry
    exact .inl ⟨_, _, rfl, rfl, fin_here ok fin hw (.int _)⟩
  · obtain ⟨a, vs, rfl, ea, fa⟩ := rv_tup rx
    obtain ⟨b, us, rfl, eb, fb⟩ := rv_tup ry
    refine .inr (.inl ⟨a, b, vs, us, rfl, rfl, ea.sq, eb.sq, by rw [fa.length, fb.length, line24]; exact hw.1, fun e => ?_, fun _ e => ?_, fun _ _ q n => fin_tup ok fin (fa.append fb) hw.2 n⟩)
    · subst e
      cases fa
      exact fin_here ok fin hw.2 (.tup eb fb)
    · subst e
      cases fb
      have hq := hw.2
      rw [List.append_nil] at hq
      exact fin_here ok fin hq (.tup ea fa)
  · cases rv_str rx
    cases rv_str ry
    exact .inr (.inr (.inl ⟨_, _, rfl, rfl, by rw [line24]; exact hw.1, fin_here ok fin hw.2 (.str _)⟩))
  · obtain ⟨a, vs, rfl, ea, _, fa⟩ := rv_list rx
    obtain ⟨b, us, rfl, eb, _, fb⟩ := rv_list ry
    exact cat ea eb fa fb hw
  · obtain ⟨a, vs, rfl, ea, _, fa⟩ := rv_list rx
    obtain ⟨us, ys, rfl, _, eb, fb, hq⟩ := rv_cell ok ry hw
    exact cat ea eb fa fb hq
  · obtain ⟨b, us, rfl, eb, _, fb⟩ := rv_list ry
    obtain ⟨vs, xs, rfl, _, ea, fa, hq⟩ := rv_cell ok rx hw
    exact cat ea eb fa fb hq
  · obtain ⟨vs, xs, rfl, _, ea, fa, hq⟩ := rv_cell ok rx hw
    obtain ⟨us, ys, rfl, _, eb, fb, hq⟩ := rv_cell ok ry hq
    exact cat ea eb fa fb hq
  · exact hw.elim
def rMulM (K : PySem.W.Frag) : R2 := fun x y H Q => (rI CMulW (fun i j => .int (i * j)) x y H Q ∨ rI CMul (fun i j => .int (i * j)) x y H Q) ∨ rRep x y H Q ∨ rRepT K x y H Q ∨ rRepT1 K x y H Q
theorem op_mulM {X : Cx} : OpR X (binaryOp .Mult) (rMulM X.K) := (op_mulW.or op_mul).or (op_rep.or (op_repT.or op_repT1))
theorem mul_snd (ok : WOk K ⟨p, h, H⟩) (rx : RV K ⟨p, h, H⟩ x v) (ry : RV K ⟨p, h, H⟩ y u) (hw : wMul x y h Qm) (fin : Fin K ⟨p, h, H⟩ Qm Q) : rMulM K v u H Q := by
  unfold wMul at hw
  split at hw
  · cases rv_int rx
    cases rv_int ry
    have fh := fin_here ok fin hw.2 (.int _)
    rcases hw.1 with (z | z) | z
    · exact .inl (.inr ⟨_, _, rfl, rfl, .inl (by omega), fh⟩)
    · exact .inl (.inr ⟨_, _, rfl, rfl, .inr (by omega), fh⟩)
    · exact .inl (.inl ⟨_, _, rfl, rfl, z, fh⟩)
  · obtain ⟨a, vs, rfl, ea, _, fa⟩ := rv_list rx
    cases rv_int ry
    exact .inr (.inl ⟨_, _, _, rfl, rfl, ea, hw.1.1, hw.1.2.1, by rw [fa.length, line24]; exact hw.1.2.2, fun q n => fin_new ok fin (fa.flat _) hw.2 n⟩)
  · obtain ⟨a, vs, rfl, ea, fa⟩ := rv_tup rx
    cases rv_int ry
    obtain ⟨⟨h1, h2, h3, h4⟩, hq⟩ := hw
    have hne : vs ≠ [] := fun e => h1 (by subst e; cases fa; rfl)
    rename_i xs k
    by_cases k2 : 2 ≤ k
    · exact .inr (.inr (.inl ⟨_, _, _, rfl, rfl, ea.sq, hne, k2, h3, by rw [fa.length]; exact h4, fun q n => fin_tup ok fin (fa.flat _) hq n⟩))
    · by_cases k1 : k = 1
      · subst k1
        refine .inr (.inr (.inr ⟨_, _, _, rfl, rfl, ea.sq, .inl ⟨rfl, ?_⟩⟩))
        have e1 : rep 1 xs = xs := by unfold rep; simp
        rw [e1] at hq
        exact fin_here ok fin hq (.tup ea fa)
      · refine .inr (.inr (.inr ⟨_, _, _, rfl, rfl, ea.sq, .inr ⟨hne, h2, by omega, fun q n => ?_⟩⟩))
        have e0 : rep k xs = [] := by unfold rep; rw [show k.toNat = 0 by omega]; rfl
        rw [e0] at hq
        exact fin_tup ok fin .nil hq n
  · exact hw.elim
def rBinM (K : PySem.W.Frag) : MOp → R2
  | .add => rAddM K
  | .mul => rMulM K
  | .sub => rI0 fun i j => .int (i - j)
  | .fdiv => rI CDivW fun i j => .int (i / j)
  | .mod => rI (fun _ j => 0 < j) fun i j => .int (i % j)
  | .pow => rI CPow fun i j => .int (i ^ j.toNat)
def opE : MOp → Operator
  | .add => .Add
  | .mul => .Mult
  | .sub => .Sub
  | .fdiv => .FloorDiv
  | .mod => .Mod
  | .pow => .Pow
theorem op_binM {X : Cx} (op : MOp) : OpR X (binaryOp (opE op)) (rBinM X.K op) := by
  cases op
  · exact op_addM
  · exact op_sub
  · exact op_mulM
  · exact op_fdivW
  · exact op_mod
  · exact op_pow
theorem bin_snd {op : MOp} (ok : WOk K ⟨p, h, H⟩) (rx : RV K ⟨p, h, H⟩ x v) (ry : RV K ⟨p, h, H⟩ y u) (hw : wBin op x y h Qm) (fin : Fin K ⟨p, h, H⟩ Qm Q) : rBinM K op v u H Q := by
  cases op
  · exact add_snd ok rx ry hw fin
  · unfold wBin at hw
    dsimp only at hw
    split at hw
    · cases rv_int rx
      cases rv_int ry
      exact ⟨_, _, rfl, rfl, fin_here ok fin hw (.int _)⟩
    · exact hw.elim
  · exact mul_snd ok rx ry hw fin
  all_goals
    unfold wBin at hw
    dsimp only at hw
    split at hw
    · cases rv_int rx
      cases rv_int ry
      exact ⟨_, _, rfl, rfl, hw.1, fin_here ok fin hw.2 (.int _)⟩
    · exact hw.elim
/-- in place, of ints -/
def rAugM : MOp → R2
  | .add => rI0 fun i j => .int (i + j)
  | .mul => rI CMul fun i j => .int (i * j)
  | .sub => rI0 fun i j => .int (i - j)
  | _ => fun _ _ _ _ => False

theorem tru_snd {C : Bool → Prop} (ok : WOk K ⟨p, h, H⟩) (rx : RV K ⟨p, h, H⟩ x v) (hw : wTru x h C) : ∃ k, TruV K v H k ∧ C k := by
  have em : ∀ {vs : List V} {xs : List PyData}, FzAll K (live ⟨p, h, H⟩) H vs xs → (!vs.isEmpty) = !xs.isEmpty := fun f => by cases f <;> rfl
  unfold wTru at hw
  split at hw
  · cases rv_none rx; exact ⟨_, rfl, hw⟩
  · cases rv_bool rx; exact ⟨_, rfl, hw⟩
  · cases rv_int rx; exact ⟨_, rfl, hw⟩
  · cases rv_str rx; exact ⟨_, ⟨by rw [line24]; exact hw.1, rfl⟩, hw.2⟩
  · obtain ⟨a, vs, rfl, ea, _, fa⟩ := rv_list rx
    exact ⟨_, .inl ⟨vs, SqL.of ea, (em fa).symm⟩, hw⟩
  · obtain ⟨a, vs, rfl, ea, fa⟩ := rv_tup rx
    exact ⟨_, .inr (.inl ⟨vs, ea.sq, (em fa).symm⟩), hw⟩
  · obtain ⟨vs, xs, rfl, _, ea, fa, hq⟩ := rv_cell ok rx hw
    exact ⟨_, .inl ⟨vs, SqL.of ea, (em fa).symm⟩, hq⟩
  · exact hw.elim

theorem flat_V {d : PyData} {w : V} {B : Addr → Prop} (f : Fz K B H w d) (fl : flatD d = true) : flatV w = true := by
  cases f <;> first | rfl | exact absurd fl Bool.false_ne_true
theorem flat_all {B : Addr → Prop} : ∀ {ds : List PyData} {ws : List V}, FzAll K B H ws ds → ds.all flatD = true → ws.all flatV = true
  | _, _, .nil, _ => rfl
  | d :: ds, w :: ws, .cons f t, fl => by
    rw [List.all_cons, Bool.and_eq_true] at fl ⊢
    exact ⟨flat_V f fl.1, flat_all t fl.2⟩
theorem eqv_V {B : Addr → Prop} {d e : PyData} {w t : V} (f : Fz K B H w d) (g : Fz K B H t e) (fd : flatD d = true) (fe : flatD e = true) : eqV w t = PyData.eqv d e := by
  cases f <;> first | (cases g <;> first | rfl | (unfold PyData.eqv; rfl) | exact absurd fe Bool.false_ne_true) | exact absurd fd Bool.false_ne_true
theorem inn_V {B : Addr → Prop} {d : PyData} {w : V} (f : Fz K B H w d) (fd : flatD d = true) : ∀ {ds : List PyData} {ws : List V}, FzAll K B H ws ds → ds.all flatD = true → inV w ws = inD d ds
  | _, _, .nil, _ => rfl
  | e :: ds, t :: ws, .cons g r, fl => by
    rw [List.all_cons, Bool.and_eq_true] at fl
    have ih := inn_V f fd r fl.2
    unfold inV inD at ih ⊢
    rw [List.any_cons, List.any_cons, ih, eqv_V g f fl.1 fd]
def rOr (R R' : R2) : R2 := fun x y H Q => R x y H Q ∨ R' x y H Q
theorem op_or {X : Cx} {op} {R R' : R2} (a : OpR X op R) (b : OpR X op R') : OpR X op (rOr R R') := by
  intro pins s σ H x y v u Q I rx ry h
  rcases h with h | h
  · exact a _ _ _ _ _ _ _ _ _ I rx ry h
  · exact b _ _ _ _ _ _ _ _ _ I rx ry h
/-- in, of a dict -/
def rInD (neg : Bool) : R2 := fun x y H Q => ∃ a o, y = .ref a ∧ DGet H a x o ∧ Q (.bl (if neg then !o.isSome else o.isSome)) H
theorem op_inD {X : Cx} (hu : X.A.units + 1 < cLine) : OpR X (compareOp .In) (rInD false) := by
  intro pins s σ H x y v u Q I rx ry h
  obtain ⟨a, o, rfl, g, q⟩ := h
  obtain rfl : u = Value.ref a := ry
  exact d_in hu I g rx fun s' I' => ⟨.bl o.isSome, H, I', rfl, q⟩
theorem op_ninD {X : Cx} (hu : X.A.units + 1 < cLine) : OpR X (compareOp .NotIn) (rInD true) := by
  intro pins s σ H x y v u Q I rx ry h
  obtain ⟨a, o, rfl, g, q⟩ := h
  obtain rfl : u = Value.ref a := ry
  exact d_notIn hu I g rx fun s' I' => ⟨.bl (!o.isSome), H, I', rfl, q⟩
def rCmpM (K : PySem.W.Frag) : MCmp → R2
  | .eq => rOr rEq (rEqD K)
  | .ne => rOr rNe (rNeD K)
  | .lt => rI0 fun i j => .bl (decide (i < j))
  | .le => rI0 fun i j => .bl (decide (i ≤ j))
  | .gt => rI0 fun i j => .bl (decide (j < i))
  | .ge => rI0 fun i j => .bl (decide (j ≤ i))
  | .inn => rOr (rIn K false) (rInD false)
  | .nin => rOr (rIn K true) (rInD true)
def cmpE : MCmp → CmpOp
  | .eq => .Eq
  | .ne => .NotEq
  | .lt => .Lt
  | .le => .LtE
  | .gt => .Gt
  | .ge => .GtE
  | .inn => .In
  | .nin => .NotIn
theorem op_cmpM {X : Cx} (hu : X.A.units + 64 < cLine) (op : MCmp) : OpR X (compareOp (cmpE op)) (rCmpM X.K op) := by
  cases op
  · exact op_or op_eq (op_eqD hu)
  · exact op_or op_ne (op_neD hu)
  · exact op_lt
  · exact op_le
  · exact op_gt
  · exact op_ge
  · exact op_or op_in_seq (op_inD (by omega))
  · exact op_or op_notIn_seq (op_ninD (by omega))
theorem cmp_snd {op : MCmp} {C : Bool → Prop} (ok : WOk K ⟨p, h, H⟩) (rx : RV K ⟨p, h, H⟩ x v) (ry : RV K ⟨p, h, H⟩ y u) (hw : wCmp op x y h C) (fin : ∀ t, C t → Q (.bl t) H) : rCmpM K op v u H Q := by
  have flatz : ∀ {C : PyData → Prop}, datW x h C → ∃ d, C d ∧ ((∀ xs, d ≠ .list xs) → Fz K (live ⟨p, h, H⟩) H v d) := fun {C} q => by
    unfold datW at q
    split at q
    · exact ⟨_, q, fun _ => rx⟩
    · obtain ⟨vs, xs, rfl, _, _, _, hq⟩ := rv_cell ok rx q
      exact ⟨_, hq, fun z => absurd rfl (z _)⟩
    · exact ⟨_, q, fun z => absurd rfl (z _)⟩
    · exact q.elim
  have nlk : ∀ {t : Bool} {d : PyData}, keyOk t d = true → ∀ xs, d ≠ .list xs := fun {t d} k xs e => by subst e; cases t <;> cases k
  have nlf : ∀ {d : PyData}, flatD d = true → ∀ xs, d ≠ .list xs := fun {d} k xs e => by subst e; cases k
  cases op
  · unfold wCmp at hw
    dsimp only at hw
    split at hw
    · cases rv_int rx
      cases rv_int ry
      exact Or.inl ⟨rfl, by have := fin _ hw; simpa using this⟩
    · cases rv_str rx
      cases rv_str ry
      exact Or.inl ⟨rfl, by have := fin _ hw; simpa using this⟩
    · obtain ⟨d, dd, hw⟩ := dat_snd ok rx hw
      obtain ⟨e, de, hw⟩ := dat_snd ok ry hw
      exact Or.inr ⟨d, e, dd, de, hw.1.1, hw.1.2, fin _ hw.2⟩
  · unfold wCmp at hw
    dsimp only at hw
    split at hw
    · cases rv_int rx
      cases rv_int ry
      exact Or.inl ⟨rfl, by have := fin _ hw; simpa using this⟩
    · cases rv_str rx
      cases rv_str ry
      exact Or.inl ⟨rfl, by have := fin _ hw; simpa using this⟩
    · obtain ⟨d, dd, hw⟩ := dat_snd ok rx hw
      obtain ⟨e, de, hw⟩ := dat_snd ok ry hw
      exact Or.inr ⟨d, e, dd, de, hw.1.1, hw.1.2, fin _ hw.2⟩
  case inn =>
    unfold wCmp at hw
    dsimp only at hw
    obtain ⟨d, hw, fz⟩ := flatz hw
    unfold inW at hw
    split at hw
    · obtain ⟨t, ps, rfl, e, dd, hk, hw⟩ := rv_dct ok ry hw
      rcases dget_snd dd (fz (nlk hk)) hk with ⟨e1, g⟩ | ⟨w, z, e1, g, _⟩
      · rw [e1] at hw
        exact .inr ⟨_, _, rfl, g, fin _ hw⟩
      · rw [e1] at hw
        exact .inr ⟨_, _, rfl, g, fin _ hw⟩
    · obtain ⟨a, vs, xs, rfl, ea, fa, hw⟩ := seq_snd ok ry hw
      have f := fz (nlf hw.1.1)
      refine .inl ⟨a, vs, rfl, sq_or ea, flat_V f hw.1.1, flat_all fa hw.1.2, ?_⟩
      rw [if_neg Bool.false_ne_true, inn_V f hw.1.1 fa hw.1.2]
      exact fin _ hw.2
  case nin =>
    unfold wCmp at hw
    dsimp only at hw
    obtain ⟨d, hw, fz⟩ := flatz hw
    unfold inW at hw
    split at hw
    · obtain ⟨t, ps, rfl, e, dd, hk, hw⟩ := rv_dct ok ry hw
      rcases dget_snd dd (fz (nlk hk)) hk with ⟨e1, g⟩ | ⟨w, z, e1, g, _⟩
      · rw [e1] at hw
        exact .inr ⟨_, _, rfl, g, fin _ hw⟩
      · rw [e1] at hw
        exact .inr ⟨_, _, rfl, g, fin _ hw⟩
    · obtain ⟨a, vs, xs, rfl, ea, fa, hw⟩ := seq_snd ok ry hw
      have f := fz (nlf hw.1.1)
      refine .inl ⟨a, vs, rfl, sq_or ea, flat_V f hw.1.1, flat_all fa hw.1.2, ?_⟩
      rw [if_pos rfl, inn_V f hw.1.1 fa hw.1.2]
      exact fin _ hw.2
  all_goals
    unfold wCmp at hw
    dsimp only at hw
    split at hw
    · cases rv_int rx
      cases rv_int ry
      exact ⟨_, _, rfl, rfl, fin _ hw⟩
    · exact hw.elim

/-- a boundary as a place -/
theorem at_snd {C : PyData → Prop} {B : Addr → Prop} {xs : List PyData} {vs : List V} {i : Int} (f : FzAll K B H vs xs) (q : atW xs i C) : ∃ w d, atI vs i = some w ∧ Fz K B H w d ∧ C d := by
  unfold atW at q
  split at q
  · rename_i d e
    unfold atI at e
    cases hj : ixN xs.length i with
    | none => rw [hj] at e; cases e
    | some j =>
      rw [hj] at e
      have e : xs[j]? = some d := e
      obtain ⟨w, e1, e2⟩ := f.get e
      refine ⟨w, d, ?_, e2, q⟩
      unfold atI
      rw [f.length, hj]
      exact e1
  · exact q.elim
theorem atI_map {α β : Type} (g : α → β) (xs : List α) (i : Int) : atI (xs.map g) i = (atI xs i).map g := by
  unfold atI
  rw [List.length_map]
  cases ixN xs.length i with
  | none => rfl
  | some j => show (xs.map g)[j]? = (xs[j]?).map g; exact List.getElem?_map
/-- an item of a list, a tuple, a text; what a dict holds at a key -/
def rIxD : R2 := fun x y H Q => ∃ a w, x = .ref a ∧ DGet H a y (some w) ∧ Q w H
def rIxM (K : PySem.W.Frag) : R2 := fun x y H Q => rIx K x y H Q ∨ rIxD x y H Q
theorem ix_dct {X : Cx} (hu : X.A.units + 1 < cLine) : IxR X rIxD := by
  intro value slice pins s σ H x y v u Q I rx ry h hs
  obtain ⟨a, w, rfl, g, q⟩ := h
  obtain rfl : v = Value.ref a := rx
  exact tail_any (dict_typeIs I g) PySem.F.slot_dict_getitem.lookup (d_getItem hu I g ry fun w' s' I' rw' => ⟨w, H, I', rw', q⟩) hs
theorem ix_M {X : Cx} (hu : X.A.units + 1 < cLine) : IxR X (rIxM X.K) := ix_seq.or (ix_dct hu)
theorem ix_snd (ok : WOk K ⟨p, h, H⟩) (rx : RV K ⟨p, h, H⟩ x v) (ry : RV K ⟨p, h, H⟩ y u) (hw : wIx x y h Qm) (fin : Fin K ⟨p, h, H⟩ Qm Q) : rIxM K v u H Q := by
  unfold wIx at hw
  split at hw
  · right
    obtain ⟨t, ps, rfl, e, dd, hk, hw⟩ := rv_dct ok rx hw
    rcases dget_snd dd ry hk with ⟨e1, g⟩ | ⟨w, z, e1, g, f⟩
    · rw [e1] at hw; exact hw.elim
    · rw [e1] at hw
      exact ⟨_, w, rfl, g, fin_here ok fin hw f⟩
  all_goals left
  · obtain ⟨a, rfl, sc⟩ := rx
    cases rv_int ry
    split at hw
    · rename_i w e
      refine .inl ⟨a, _, _, .int w, rfl, rfl, sc.sq, ?_, fin_here ok fin hw (.int _)⟩
      rw [atI_map, e]
      rfl
    · exact hw.elim
  · cases rv_str rx
    cases rv_int ry
    obtain ⟨hz, hw⟩ := hw
    split at hw
    · rename_i c e
      exact .inr (.inr ⟨_, _, c, rfl, rfl, by rw [line24]; exact hz, e, fin_here ok fin hw (.str _)⟩)
    · exact hw.elim
  · cases rv_int ry
    obtain ⟨a, vs, xs, rfl, ea, fa, hw⟩ := seq_snd ok rx hw
    obtain ⟨w, d, e, f, hw⟩ := at_snd fa hw
    rcases ea with ea | ea
    · exact .inl ⟨a, vs, _, w, rfl, rfl, SqL.of ea, e, fin_here ok fin hw f⟩
    · exact .inr (.inl ⟨a, vs, _, w, rfl, rfl, ea.sq, e, fin_here ok fin hw f⟩)
  · exact hw.elim
theorem ints_fz {B : Addr → Prop} {H : Hp} : ∀ ns : List Int, FzAll K B H (ns.map V.int) (ns.map PyData.int)
  | [] => .nil
  | n :: ns => .cons (.int n) (ints_fz ns)
theorem cut_fz {B : Addr → Prop} {xs : List PyData} {vs : List V} {lo hi : Option Int} (f : FzAll K B H vs xs) : FzAll K B H (cutV vs lo hi) (cutD xs lo hi) := by
  unfold cutV cutD
  rw [f.length]
  exact (f.drop _).take _
def rSlM (K : PySem.W.Frag) : V → Option Int → Option Int → Hp → VK → Prop := fun x lo hi H Q => rSlL K x lo hi H Q ∨ rSlA K x lo hi H Q
theorem sl_M {X : Cx} : SlR X (rSlM X.K) := sl_list.or sl_tupA
theorem sl_snd {lo hi : Option Int} (ok : WOk K ⟨p, h, H⟩) (rx : RV K ⟨p, h, H⟩ x v) (hw : wSl x lo hi h Qm) (fin : Fin K ⟨p, h, H⟩ Qm Q) : rSlM K v lo hi H Q := by
  unfold wSl at hw
  split at hw
  · rename_i xs
    obtain ⟨a, vs, rfl, ea, fa⟩ := rv_tup rx
    refine .inr ⟨a, vs, rfl, ea.sq, fun e => ?_, fun _ q n => fin_tup ok fin (cut_fz fa) hw n⟩
    have same : cutD xs lo hi = xs := by
      unfold cutD
      rw [← fa.length, e.1, e.2, List.drop_zero, Nat.sub_zero, fa.length]
      exact List.take_length
    rw [same] at hw
    exact fin_here ok fin hw (.tup ea fa)
  · obtain ⟨a, vs, rfl, ea, _, fa⟩ := rv_list rx
    exact .inl ⟨a, vs, rfl, SqL.of ea, fun q n => fin_new ok fin (cut_fz fa) hw n⟩
  · obtain ⟨vs, xs, rfl, _, ea, fa, hq⟩ := rv_cell ok rx hw
    exact .inl ⟨_, vs, rfl, SqL.of ea, fun q n => fin_new ok fin (cut_fz fa) hq n⟩
  · obtain ⟨a, rfl, sc⟩ := rx
    exact .inl ⟨a, _, rfl, sc.sq, fun q n => fin_new ok fin (cut_fz (ints_fz _)) hw n⟩
  · exact hw.elim
end
end Mini
end
section
set_option Elab.async false
set_option linter.all false
set_option maxRecDepth 100000
/-! Mini: built-in functions, methods, isinstance, stores. -/
namespace Mini
open PySem PySem.Spec PyProof.Rows L2

mutual
theorem dp_nodict {K : PySem.W.Frag} {H : Hp} : ∀ (d : PyData) (v : V), Dp K H v d → d.hasDict = false
  | .none, _, _ => by simp only [PyData.hasDict]
  | .bool _, _, _ => by simp only [PyData.hasDict]
  | .int _, _, _ => by simp only [PyData.hasDict]
  | .str _, _, _ => by simp only [PyData.hasDict]
  | .list xs, _, h => by
    cases h with
    | lst _ a =>
      simp only [PyData.hasDict]
      exact dp_nodicts xs _ a
  | .tuple xs, _, h => by
    cases h with
    | tup _ a =>
      simp only [PyData.hasDict]
      exact dp_nodicts xs _ a
  | .dict _, _, h => by cases h
theorem dp_nodicts {K : PySem.W.Frag} {H : Hp} : ∀ (ds : List PyData) (vs : List V), DpAll K H vs ds → PyData.hasDictAll ds = false
  | [], _, _ => by simp only [PyData.hasDictAll]
  | d :: ds, _, h => by
    cases h with
    | cons h1 h2 => simp only [PyData.hasDictAll, dp_nodict d _ h1, dp_nodicts ds _ h2, Bool.or_self]
end
def rReprM (K : PySem.W.Frag) : List V → Hp → VK → Prop := fun xs H Q => ∃ v d, xs = [v] ∧ Dp K H v d ∧ d.showable = true ∧ d.depth ≤ 64 ∧ d.shown.length ≤ sizeLine ∧ Q (.str d.shown) H
theorem call_reprM {X : Cx} (hg : X.A.guards = some []) (hu : X.A.units + 100 < cLine) : CallR X (.builtin "repr") (rReprM X.K) := by
  intro pins s σ H xs us Q I r h
  obtain ⟨v, d, rfl, hd, sh, dp, sz, q⟩ := h
  obtain ⟨u, rfl, ru⟩ := Vals.one r
  obtain ⟨as, rd⟩ := Dp.reads I d v u hd ru
  cases hd with
  | lst a b =>
    cases ru
    exact repr_of_reads' rd sh (fun z => by rw [dp_nodict _ _ (.lst a b)] at z; cases z) hg (by omega) (fun _ _ e => e) (fun h' w tk k => ⟨.str _, H, I.kept k, ⟨w, rfl⟩, q⟩) sz
  | tup a b =>
    cases ru
    exact repr_of_reads' rd sh (fun z => by rw [dp_nodict _ _ (.tup a b)] at z; cases z) hg (by omega) (fun _ _ e => e) (fun h' w tk k => ⟨.str _, H, I.kept k, ⟨w, rfl⟩, q⟩) sz
  | non =>
    cases ru
    exact PySem.P.repr_of_none ⟨.str _, H, I.tok _, ⟨_, rfl⟩, by simpa [PyData.shown] using q⟩
  | bl b =>
    cases ru
    exact PySem.P.repr_of_bool ⟨.str _, H, I.tok _, ⟨_, rfl⟩, by simpa [PyData.shown] using q⟩
  | int i =>
    obtain ⟨t, rfl⟩ := ru
    exact PySem.P.repr_of_int (of_decide_eq_true (by simpa [PyData.showable] using sh)) ⟨.str _, H, I.tok _, ⟨_, rfl⟩, by simpa [PyData.shown] using q⟩
  | str x =>
    obtain ⟨t, rfl⟩ := ru
    exact PySem.P.repr_of_str ⟨.str _, H, I.tok _, ⟨_, rfl⟩, by simpa [PyData.shown] using q⟩ (by simpa [PyData.shown] using sz)

section
variable {K : PySem.W.Frag} {p : Nat → Addr} {h : MH} {H : Hp} {x y z : MV} {v u t : V} {Qm : MQ} {Q : VK}
abbrev RCl := List V → Hp → VK → Prop
def rSumT (K : PySem.W.Frag) : List V → Hp → VK → Prop := fun vs H Q => ∃ (a : Addr) (ns : List Int), vs = [V.ref a] ∧ SqT K H a (ns.map V.int) ∧ Q (.int ns.sum) H
theorem cr_sumT {X : Cx} (hc : X.calm = true) : CallR X (.builtin "sum") (rSumT X.K) := by
  intro pins s σ H vs us Q I r h
  obtain ⟨a, ns, rfl, hs, q⟩ := h
  obtain ⟨its, rv, ⟨o, e1, e2, n, e3⟩, _⟩ := I.tuple hs
  rw [Vals.ref1 r]
  have hi := rv.ints
  obtain ⟨xs, e⟩ := hi.allInts.items
  have hn : numsOf (intItems xs).toList = ns := by rw [← e]; exact hi.numsOf
  rw [nums_intItems] at hn
  rw [e] at e3
  refine PySem.W.ktm_sumG (I.ok.hd hc) ⟨o, e1, e2, n, e3⟩ fun h' tk t' hk => ?_
  rw [preSum_eq, List.take_of_length_le (by simp), hn]
  exact ⟨.int _, H, I.kept hk, ⟨_, rfl⟩, q⟩
def rLenM (K : PySem.W.Frag) : RCl := fun xs H Q => (∃ p ys, xs = [.ref p] ∧ (SqL K H p ys ∨ SqT K H p ys) ∧ Q (.int ys.length) H) ∨ (∃ z, xs = [.str z] ∧ z.length ≤ sizeLine ∧ Q (.int z.length) H)
def rBltM (K : PySem.W.Frag) : MB → RCl
  | .len => rLenM K
  | .abs => fun xs H Q => ∃ i, xs = [.int i] ∧ Q (.int (if i < 0 then -i else i)) H
  | .int => fun xs H Q => (∃ i, xs = [.int i] ∧ Q (.int i) H) ∨ ∃ k, xs = [.bl k] ∧ Q (.int (if k then 1 else 0)) H
  | .max2 => fun xs H Q => ∃ i j, xs = [.int i, .int j] ∧ Q (.int (if j > i then j else i)) H
  | .min2 => fun xs H Q => ∃ i j, xs = [.int i, .int j] ∧ Q (.int (if j < i then j else i)) H
  | .tuple => fun xs H Q => ∃ p ys, xs = [.ref p] ∧ ((SqL K H p ys ∧ ∀ l, H l = none → Q (.ref l) (upd H l (.tup ys))) ∨ (SqT K H p ys ∧ Q (.ref p) H))
  | .list => fun xs H Q => ∃ p ys, xs = [.ref p] ∧ (SqL K H p ys ∨ SqT K H p ys) ∧ ∀ l, H l = none → Q (.ref l) (upd H l (.lst ys))
  | .repr => rReprM K
  | .str => fun xs H Q => (∃ i, xs = [.int i] ∧ i.natAbs.log2 < 1920 ∧ Q (.str (toString i)) H) ∨ ∃ a, xs = [.str a] ∧ Q (.str a) H
  | .all => rAll K
  | .any => rAny K
  | .sum => fun vs H Q => rSum K vs H Q ∨ rSumT K vs H Q
  | .sorted => rSortedI K
  | .max1 => rMax K
def bltN : MB → String
  | .len => "len"
  | .abs => "abs"
  | .int => "int"
  | .max2 => "max"
  | .min2 => "min"
  | .tuple => "tuple"
  | .list => "list"
  | .repr => "repr"
  | .str => "str"
  | .all => "all"
  | .any => "any"
  | .sum => "sum"
  | .sorted => "sorted"
  | .max1 => "max"
def bltV : MB → Value
  | .len => .builtin "len"
  | .abs => .builtin "abs"
  | .int => .type "int"
  | .max2 => .builtin "max"
  | .min2 => .builtin "min"
  | .tuple => .type "tuple"
  | .list => .type "list"
  | .repr => .builtin "repr"
  | .str => .type "str"
  | .all => .builtin "all"
  | .any => .builtin "any"
  | .sum => .builtin "sum"
  | .sorted => .builtin "sorted"
  | .max1 => .builtin "max"
theorem op_bltM {X : Cx} (hc : X.calm = true) (hg : X.A.guards = some []) (hu : X.A.units + 100 < cLine) (b : MB) : CallR X (bltV b) (rBltM X.K b) := by
  cases b
  · exact call_len_seq.or call_len_str
  · exact call_abs
  · exact call_int1
  · exact call_max2 hc
  · exact call_min2 hc
  · exact call_tuple_of
  · exact call_list_of
  · exact call_reprM hg hu
  · exact call_str_int.or SkE.call_str_str
  · exact cr_all hc
  · exact cr_any hc
  · exact (cr_sum hc).or (cr_sumT hc)
  · exact cr_sortedI
  · exact cr_max hc
theorem rvs1 (r : RVs K ⟨p, h, H⟩ [x] vs) : ∃ v, vs = [v] ∧ RV K ⟨p, h, H⟩ x v := by
  cases r with
  | cons a b =>
    cases b
    exact ⟨_, rfl, a⟩
theorem rvs2 {vs : List V} (r : RVs K ⟨p, h, H⟩ [x, y] vs) : ∃ v u, vs = [v, u] ∧ RV K ⟨p, h, H⟩ x v ∧ RV K ⟨p, h, H⟩ y u := by
  cases r with
  | cons a b =>
    obtain ⟨u, rfl, c⟩ := rvs1 b
    exact ⟨_, u, rfl, a, c⟩
theorem rvs3 {vs : List V} (r : RVs K ⟨p, h, H⟩ [x, y, z] vs) : ∃ v u t, vs = [v, u, t] ∧ RV K ⟨p, h, H⟩ x v ∧ RV K ⟨p, h, H⟩ y u ∧ RV K ⟨p, h, H⟩ z t := by
  cases r with
  | cons a b =>
    obtain ⟨u, t, rfl, c, d⟩ := rvs2 b
    exact ⟨_, u, t, rfl, a, c, d⟩
theorem bools_fz {B : Addr → Prop} : ∀ {xs : List PyData} {vs : List V} {bs : List Bool}, FzAll K B H vs xs → bools xs = some bs → vs = bs.map V.bl
  | [], _, _, f, e => by cases f; cases e; rfl
  | d :: xs, _, bs, f, e => by
    cases f with
    | cons f1 f2 =>
      unfold bools at e
      split at e
      · rename_i h1; cases h1
      · rename_i b r h1
        cases h1
        split at e
        · rename_i cs e2
          cases e
          cases f1
          rw [bools_fz f2 e2]
          rfl
        · cases e
      · cases e
theorem intsL_fz {B : Addr → Prop} : ∀ {xs : List PyData} {vs : List V} {bs : List Int}, FzAll K B H vs xs → intsL xs = some bs → vs = bs.map V.int
  | [], _, _, f, e => by cases f; cases e; rfl
  | d :: xs, _, bs, f, e => by
    cases f with
    | cons f1 f2 =>
      unfold intsL at e
      split at e
      · rename_i h1; cases h1
      · rename_i b r h1
        cases h1
        split at e
        · rename_i cs e2
          cases e
          cases f1
          rw [intsL_fz f2 e2]
          rfl
        · cases e
      · cases e
/-- there is just one rising order -/
theorem srt_uniq {a ns : List Int} (p : a.Perm ns) (s : a.Pairwise (· ≤ ·)) : a = ns.mergeSort (· ≤ ·) := by
  refine List.Perm.eq_of_pairwise (le := fun x y : Int => x ≤ y) (fun a b _ _ h1 h2 => Int.le_antisymm h1 h2) s ?_ (p.trans (List.mergeSort_perm _ _).symm)
  have := List.pairwise_mergeSort (le := fun x y : Int => decide (x ≤ y)) (fun a b c h1 h2 => by simp at *; omega) (fun a b => by simp; omega) ns
  exact this.imp fun h => by simpa using h
theorem blt_snd {b : MB} {ds : List MV} {vs : List V} (ok : WOk K ⟨p, h, H⟩) (r : RVs K ⟨p, h, H⟩ ds vs) (hw : wBlt b ds h Qm) (fin : Fin K ⟨p, h, H⟩ Qm Q) : rBltM K b vs H Q := by
  cases b <;> (unfold wBlt at hw; dsimp only at hw; split at hw)
  · obtain ⟨v, rfl, r1⟩ := rvs1 r
    unfold lenW at hw
    split at hw
    · obtain ⟨a, rfl, sc⟩ := r1
      refine .inl ⟨a, _, rfl, .inl sc.sq, ?_⟩
      rw [List.length_map]
      exact fin_here ok fin hw (.int _)
    · cases rv_str r1
      exact .inr ⟨_, rfl, by rw [line24]; exact hw.1, fin_here ok fin hw.2 (.int _)⟩
    · obtain ⟨a, vs, xs, rfl, ea, fa, hw⟩ := seq_snd ok r1 hw
      refine .inl ⟨a, vs, rfl, sq_or ea, ?_⟩
      rw [fa.length]
      exact fin_here ok fin hw (.int _)
  · exact hw.elim
  · obtain ⟨v, rfl, r1⟩ := rvs1 r
    cases rv_int r1
    exact ⟨_, rfl, fin_here ok fin hw (.int _)⟩
  · exact hw.elim
  · obtain ⟨v, rfl, r1⟩ := rvs1 r
    cases rv_int r1
    exact .inl ⟨_, rfl, fin_here ok fin hw (.int _)⟩
  · obtain ⟨v, rfl, r1⟩ := rvs1 r
    cases rv_bool r1
    exact .inr ⟨_, rfl, fin_here ok fin hw (.int _)⟩
  · exact hw.elim
  · obtain ⟨v, u, rfl, r1, r2⟩ := rvs2 r
    cases rv_int r1
    cases rv_int r2
    exact ⟨_, _, rfl, fin_here ok fin hw (.int _)⟩
  · exact hw.elim
  · obtain ⟨v, u, rfl, r1, r2⟩ := rvs2 r
    cases rv_int r1
    cases rv_int r2
    exact ⟨_, _, rfl, fin_here ok fin hw (.int _)⟩
  · exact hw.elim
  · obtain ⟨v, rfl, r1⟩ := rvs1 r
    obtain ⟨a, vs, xs, rfl, ea, fa, hw⟩ := seq_snd ok r1 hw
    refine ⟨a, vs, rfl, ?_⟩
    rcases ea with ea | ea
    · exact .inl ⟨SqL.of ea, fun q n => fin_tup ok fin fa hw n⟩
    · exact .inr ⟨ea.sq, fin_here ok fin hw (.tup ea fa)⟩
  · exact hw.elim
  · obtain ⟨v, rfl, r1⟩ := rvs1 r
    obtain ⟨a, vs, xs, rfl, ea, fa, hw⟩ := seq_snd ok r1 hw
    exact ⟨a, vs, rfl, sq_or ea, fun q n => fin_new ok fin fa hw n⟩
  · exact hw.elim
  · obtain ⟨v, rfl, r1⟩ := rvs1 r
    obtain ⟨d, dd, hw⟩ := dat_snd ok r1 hw
    exact ⟨v, d, rfl, dd, hw.1.1, hw.1.2.1, by rw [line24]; exact hw.1.2.2, fin_here ok fin hw.2 (.str _)⟩
  · exact hw.elim
  · obtain ⟨v, rfl, r1⟩ := rvs1 r
    cases rv_int r1
    exact .inl ⟨_, rfl, hw.1, fin_here ok fin hw.2 (.str _)⟩
  · obtain ⟨v, rfl, r1⟩ := rvs1 r
    cases rv_str r1
    exact .inr ⟨_, rfl, fin_here ok fin hw (.str _)⟩
  · exact hw.elim
  · obtain ⟨v, rfl, r1⟩ := rvs1 r
    obtain ⟨a, vs, xs, rfl, ea, fa, hw⟩ := lst_snd ok r1 hw
    split at hw
    · rename_i bs e
      refine ⟨a, bs, rfl, ?_, fin_here ok fin hw (.bl _)⟩
      rw [← bools_fz fa e]
      exact SqL.of ea
    · exact hw.elim
  · exact hw.elim
  · obtain ⟨v, rfl, r1⟩ := rvs1 r
    obtain ⟨a, vs, xs, rfl, ea, fa, hw⟩ := lst_snd ok r1 hw
    split at hw
    · rename_i bs e
      refine ⟨a, bs, rfl, ?_, fin_here ok fin hw (.bl _)⟩
      rw [← bools_fz fa e]
      exact SqL.of ea
    · exact hw.elim
  · exact hw.elim
  · obtain ⟨v, rfl, r1⟩ := rvs1 r
    obtain ⟨a, vs, xs, rfl, ea, fa, hw⟩ := seq_snd ok r1 hw
    split at hw
    · rename_i bs e
      have q2 := fin_here ok fin hw (.int _)
      rcases ea with ea | ea
      · exact .inl ⟨a, bs, rfl, by rw [← intsL_fz fa e]; exact SqL.of ea, q2⟩
      · exact .inr ⟨a, bs, rfl, by rw [← intsL_fz fa e]; exact ea.sq, q2⟩
    · exact hw.elim
  · exact hw.elim
  · obtain ⟨v, rfl, r1⟩ := rvs1 r
    obtain ⟨a, vs, xs, rfl, ea, fa, hw⟩ := lst_snd ok r1 hw
    split at hw
    · rename_i ns e
      refine ⟨a, ns, rfl, by rw [← intsL_fz fa e]; exact SqL.of ea, fun ns' q pm sm n => ?_⟩
      rw [srt_uniq pm sm]
      exact fin_new ok fin (ints_fz _) hw n
    · exact hw.elim
  · exact hw.elim
  · obtain ⟨v, rfl, r1⟩ := rvs1 r
    obtain ⟨a, vs, xs, rfl, ea, fa, hw⟩ := lst_snd ok r1 hw
    split at hw
    · rename_i ns e
      refine ⟨a, ns, rfl, by rw [← intsL_fz fa e]; exact SqL.of ea, hw.1, fun m h1 h2 => ?_⟩
      rw [maxD_of (d := 0) h1 h2]
      exact fin_here ok fin hw.2 (.int _)
    · exact hw.elim
  · exact hw.elim

/-! isinstance -/
def tyN : MTy → String
  | .int => "int"
  | .bool => "bool"
  | .tuple => "tuple"
  | .list => "list"
  | .str => "str"
theorem kt_non (ty : MTy) : kitB "NoneType" (tyN ty) = some (isTy ty .none) := by cases ty <;> decide +kernel
theorem kt_bool (ty : MTy) (b : Bool) : kitB "bool" (tyN ty) = some (isTy ty (.bool b)) := (show kitB "bool" (tyN ty) = some (isTy ty (.bool true)) by cases ty <;> decide +kernel).trans (by cases ty <;> rfl)
theorem kt_int (ty : MTy) (b : Int) : kitB "int" (tyN ty) = some (isTy ty (.int b)) := (show kitB "int" (tyN ty) = some (isTy ty (.int 0)) by cases ty <;> decide +kernel).trans (by cases ty <;> rfl)
theorem kt_str (ty : MTy) (b : Str) : kitB "str" (tyN ty) = some (isTy ty (.str b)) := (show kitB "str" (tyN ty) = some (isTy ty (.str "")) by cases ty <;> decide +kernel).trans (by cases ty <;> rfl)
theorem kt_list (ty : MTy) (b : List PyData) : kitB "list" (tyN ty) = some (isTy ty (.list b)) := (show kitB "list" (tyN ty) = some (isTy ty (.list [])) by cases ty <;> decide +kernel).trans (by cases ty <;> rfl)
theorem kt_tuple (ty : MTy) (b : List PyData) : kitB "tuple" (tyN ty) = some (isTy ty (.tuple b)) := (show kitB "tuple" (tyN ty) = some (isTy ty (.tuple [])) by cases ty <;> decide +kernel).trans (by cases ty <;> rfl)
theorem isi_snd {ty : MTy} (ok : WOk K ⟨p, h, H⟩) (r : RV K ⟨p, h, H⟩ x v) (hw : wIsi x ty h Qm) (fin : Fin K ⟨p, h, H⟩ Qm Q) : rIsi K [v, .ty (tyN ty)] H Q := by
  have key : ∀ {w : V} {t0 : String} {b : Bool}, TyOf K H w (.type t0) → kitB t0 (tyN ty) = some b → Q (.bl b) H → rIsi K [w, .ty (tyN ty)] H Q :=
    fun t e q => ⟨_, _, _, _, _, rfl, .ty _, .base t, kit_ty e, q⟩
  unfold wIsi at hw
  split at hw
  · exact hw.elim
  · exact hw.elim
  rename_i ns nm
  unfold datW at hw
  split at hw
  · rename_i d
    split at hw
    · exact hw.elim
    · have q : Q (.bl (isTy ty d)) H := fin_here ok fin hw (.bl _)
      cases r with
      | non => exact key .non (kt_non _) q
      | bl b => exact key (.bl _) (kt_bool _ _) q
      | int b => exact key (.int _) (kt_int _ _) q
      | str b => exact key (.str _) (kt_str _ _) q
      | lst e n f => exact key (.lst e) (kt_list _ _) q
      | tup e f =>
        rcases e with ⟨_, o, its, n, e, c, _⟩ | e
        · exact ⟨_, _, _, _, _, rfl, .ty _, .kTuple e c, kit_ty (kt_tuple _ _), q⟩
        · exact key (.tup e) (kt_tuple _ _) q
  · obtain ⟨vs, xs, rfl, _, ea, fa, hq⟩ := rv_cell ok r hw
    have q : Q (.bl (isTy ty (.list xs))) H := fin_here ok fin hq (.bl _)
    exact key (.lst ea) (kt_list _ _) q
  · exact absurd rfl (ns _)
  · exact absurd rfl (nm _)

/-! methods of lists -/
def mthI : MM → String
  | .append => "list.append"
  | .pop => "list.pop"
  | .extend => "list.extend"
  | .popAt => "list.pop"
  | .clear => "list.clear"
  | .reverse => "list.reverse"
def mthN : MM → String
  | .append => "append"
  | .pop => "pop"
  | .extend => "extend"
  | .popAt => "pop"
  | .clear => "clear"
  | .reverse => "reverse"
abbrev RMt := V → List V → Hp → VK → Prop
def rMthM : MM → RMt
  | .append => rAppend
  | .pop => rPop
  | .extend => rExtend
  | .popAt => rPopAt
  | .clear => rClear
  | .reverse => rReverse
theorem op_mthM {X : Cx} (m : MM) : MtM X (mthI m) (rMthM m) := by
  cases m
  · exact mt_append
  · exact mt_pop
  · exact mt_extend
  · exact mt_popAt
  · exact mt_clear
  · exact mt_reverse
theorem fz_erase {B : Addr → Prop} {vs : List V} {ds : List PyData} (h : FzAll K B H vs ds) (n : Nat) : FzAll K B H (vs.eraseIdx n) (ds.eraseIdx n) := by
  rw [List.eraseIdx_eq_take_drop_succ, List.eraseIdx_eq_take_drop_succ]
  exact (h.take _).append (h.drop _)
theorem mth_snd {m : MM} {ds : List MV} {vs : List V} (ok : WOk K ⟨p, h, H⟩) (rx : RV K ⟨p, h, H⟩ x v) (r : RVs K ⟨p, h, H⟩ ds vs) (hw : wMth m x ds h Qm) (fin : Fin K ⟨p, h, H⟩ Qm Q) : rMthM m v vs H Q := by
  unfold wMth at hw
  split at hw
  · obtain ⟨v, rfl, r1⟩ := rvs1 r
    obtain ⟨ws, xs, rfl, e, ea, fa, hq⟩ := rv_cell ok rx hw
    obtain ⟨a, b⟩ := wd_set (K := K) ok e (fz_nd fa) (fa.append (.cons r1 .nil))
    exact ⟨_, ws, v, rfl, rfl, ea, by rw [fa.length, line24]; exact hq.1, fin _ _ _ _ _ hq.2 a b .non⟩
  · cases r
    obtain ⟨ws, xs, rfl, e, ea, fa, hq⟩ := rv_cell ok rx hw
    split at hq
    · rename_i d ed
      obtain ⟨w, e1, e2⟩ := fa.get ed
      obtain ⟨a, b⟩ := wd_set (K := K) ok e (fz_nd fa) fa.dropLast
      exact ⟨_, ws, w, rfl, rfl, ea, by rw [fa.length]; exact e1, fin _ _ _ _ _ hq a b (b _ _ (show RV K ⟨p, h, H⟩ (.d d) w from e2))⟩
    · exact hq.elim
  · obtain ⟨v, rfl, r1⟩ := rvs1 r
    obtain ⟨ws, xs, rfl, e, ea, fa, hq⟩ := rv_cell ok rx hw
    obtain ⟨c, us, ys, rfl, eb, fb, hq⟩ := lst_snd ok r1 hq
    obtain ⟨a, b⟩ := wd_set (K := K) ok e (fz_nd fa) (fa.append fb)
    exact ⟨_, _, ws, us, rfl, rfl, ea, eb, by rw [fa.length, fb.length, line24]; exact hq.1, fin _ _ _ _ _ hq.2 a b .non⟩
  · rename_i k
    obtain ⟨v, rfl, r1⟩ := rvs1 r
    cases rv_int r1
    obtain ⟨ws, xs, rfl, e, ea, fa, hq⟩ := rv_cell ok rx hw
    obtain ⟨⟨k0, k1⟩, hq⟩ := hq
    split at hq
    · rename_i d ed
      obtain ⟨w, e1, e2⟩ := fa.get ed
      obtain ⟨a, b⟩ := wd_set (K := K) ok e (fz_nd fa) (fz_erase fa k.toNat)
      have hl : k.toNat < ws.length := (List.getElem?_eq_some_iff.mp e1).1
      have hs : seqIndex? k ws.length = some k.toNat := by
        have h1 : (if k < 0 then k + (ws.length : Int) else k) = k := if_neg (by omega)
        unfold seqIndex?
        simp only [h1]
        exact if_pos (by simp; omega)
      exact ⟨_, ws, k, k.toNat, w, rfl, rfl, ea, by omega, by omega, hs, e1, fin _ _ _ _ _ hq a b (b _ _ (show RV K ⟨p, h, H⟩ (.d d) w from e2))⟩
    · exact hq.elim
  · cases r
    obtain ⟨ws, xs, rfl, e, ea, fa, hq⟩ := rv_cell ok rx hw
    obtain ⟨a, b⟩ := wd_set (K := K) ok e (fz_nd fa) .nil
    exact ⟨_, ws, rfl, rfl, ea, fin _ _ _ _ _ hq a b .non⟩
  · cases r
    obtain ⟨ws, xs, rfl, e, ea, fa, hq⟩ := rv_cell ok rx hw
    obtain ⟨a, b⟩ := wd_set (K := K) ok e (fz_nd fa) fa.reverse
    exact ⟨_, ws, rfl, rfl, ea, fin _ _ _ _ _ hq a b .non⟩
  · exact hw.elim
def rSetD : V → V → V → Hp → (Hp → Prop) → Prop := fun o i v H Q => ∃ a H4, o = .ref a ∧ DPut H a i v H4 ∧ Q H4
def rSetM : V → V → V → Hp → (Hp → Prop) → Prop := fun o i v H Q => rSetL o i v H Q ∨ rSetD o i v H Q
theorem set_M {X : Cx} (hu : X.A.units + 1 < cLine) : PSet X rSetM := by
  intro pins s σ H o i v ov iv u Q I ro ri rv h
  rcases h with h | ⟨a, H4, rfl, g, q⟩
  · exact set_list pins s σ H o i v ov iv u Q I ro ri rv h
  · obtain rfl : ov = Value.ref a := ro
    exact d_setItem hu I g ri rv fun s' I' => ⟨H4, I', q⟩
/-- a store by place -/
theorem setI_snd {C : MH → Prop} {Qh : Hp → Prop} (ok : WOk K ⟨p, h, H⟩) (ro : RV K ⟨p, h, H⟩ x v) (ri : RV K ⟨p, h, H⟩ y u) (rv : RV K ⟨p, h, H⟩ z t) (hw : wSetI x y z h C)
    (fin : ∀ h' H', C h' → WOk K ⟨p, h', H'⟩ → Ext K ⟨p, h, H⟩ ⟨p, h', H'⟩ → Qh H') : rSetM v u t H Qh := by
  unfold wSetI at hw
  split at hw
  · left
    cases rv_int ri
    obtain ⟨ws, xs, rfl, e, ea, fa, hq⟩ := rv_cell ok ro hw
    split at hq
    · rename_i j ej
      obtain ⟨a, b⟩ := wd_set (K := K) ok e (fz_nd fa) (FzAll.set rv j fa)
      exact ⟨_, ws, _, j, rfl, rfl, ea, by rw [fa.length]; exact ej, fin _ _ hq a b⟩
    · exact hq.elim
  · right
    obtain ⟨t, ps, rfl, e, dd, ⟨hk, hl⟩, hq⟩ := rv_dct ok ro hw
    obtain ⟨o, g, a, b⟩ := dput_snd (K := K) ok e dd ri rv hk hl
    exact ⟨_, _, rfl, g, fin _ _ hq a b⟩
  · exact hw.elim
end
end Mini
end
section
set_option Elab.async false
set_option linter.all false
set_option maxRecDepth 100000
/-! Mini: lists and tuples read backwards. -/
namespace Mini
open PySem PySem.Spec PyProof.Rows L2 HT
section
variable {prog : Program} {w : World} {A : Around} {E : Value → Shared → Prop} {s : Shared}
theorem adjust_rev (n : Nat) : Builtin.Slice.sliceAdjust none none (-1) (n : Int) = ((n : Int) - 1, -1) := by
  unfold Builtin.Slice.sliceAdjust
  simp
theorem places_rev (n : Nat) : Builtin.Slice.slicePlaces ((n : Int) - 1) (-1) (-1) = n := by
  unfold Builtin.Slice.slicePlaces
  have h1 : ¬ ((-1 : Int) > 0) := by omega
  rw [if_neg h1]
  by_cases h : (n : Int) - 1 > -1
  · rw [if_pos h, show -(-1 : Int) = 1 by omega, Int.ediv_one]; omega
  · rw [if_neg h]; omega
theorem sliceApplied_rev {sl : Addr} {vl vu vs : Value} {n : Nat} {Q : Int × Int × Nat → Shared → Prop} (hs : s.heap.IsSliceOf sl vl vu vs) (pl : IsPart vl none) (pu : IsPart vu none) (ps : IsPart vs (some (-1)))
    (h : Q ((n : Int) - 1, -1, n) s) : wpAny (model prog w) A (Builtin.Slice.sliceApplied (.ref sl) (pure (n : Int))) Q E s := by
  obtain ⟨os, hos, hcs, hds⟩ := id hs
  unfold Builtin.Slice.sliceApplied Builtin.Slice.sliceFields
  refine wpAny_bind (wpAny_bind (wpAny_field hos hds (x := vl) rfl (wpAny_bind (wpAny_field hos hds (x := vu) rfl (wpAny_bind (wpAny_field hos hds (x := vs) rfl (wpAny_pure ?_)))))))
  refine wpAny_bind (slicePart_ ps ?_)
  show wpAny _ _ (if ((-1 : Int) == 0) = true then _ else _) _ _ s
  rw [if_neg (by decide)]
  refine wpAny_bind (slicePart_ pl (wpAny_bind (slicePart_ pu (wpAny_bind (wpAny_pure ?_)))))
  show wpAny _ _ (match Builtin.Slice.sliceAdjust none none (-1) (n : Int) with | (lo, hi) => pure (lo, (-1 : Int), Builtin.Slice.slicePlaces lo hi (-1))) _ _ s
  rw [adjust_rev n]
  show wpAny _ _ (pure ((n : Int) - 1, (-1 : Int), Builtin.Slice.slicePlaces ((n : Int) - 1) (-1) (-1))) _ _ s
  rw [places_rev]
  exact wpAny_pure h
theorem fm_of {α β : Type} {f : α → Option β} {g : α → β} : ∀ {l : List α}, (∀ x ∈ l, f x = some (g x)) → l.filterMap f = l.map g
  | [], _ => rfl
  | x :: l, h => by
    rw [List.filterMap_cons, h x (List.mem_cons_self ..), List.map_cons]
    show g x :: _ = _
    rw [fm_of fun y hy => h y (List.mem_cons_of_mem _ hy)]
theorem pick_rev (xs : Array Value) : ((List.range xs.size).filterMap fun (m : Nat) => xs[(((xs.size : Int) - 1) + (m : Int) * (-1)).toNat]?).toArray = xs.toList.reverse.toArray := by
  congr 1
  have e : (List.range xs.size).filterMap (fun (m : Nat) => xs[(((xs.size : Int) - 1) + (m : Int) * (-1)).toNat]?) = (List.range xs.size).map fun m => xs.toList[xs.size - 1 - m]?.getD .none := by
    refine fm_of fun m hm => ?_
    have hm := List.mem_range.mp hm
    rw [show (((xs.size : Int) - 1) + (m : Int) * (-1)).toNat = xs.size - 1 - m by omega]
    have hl : xs.size - 1 - m < xs.toList.length := by rw [Array.length_toList]; omega
    rw [← Array.getElem?_toList, List.getElem?_eq_getElem hl]; rfl
  rw [e]
  refine List.ext_getElem? fun i => ?_
  by_cases hi : i < xs.size
  · rw [List.getElem?_map, List.getElem?_range hi, List.getElem?_reverse (by rw [Array.length_toList]; exact hi), Array.length_toList]
    have hl : xs.size - 1 - i < xs.toList.length := by rw [Array.length_toList]; omega
    rw [List.getElem?_eq_getElem hl]
    show some (xs.toList[xs.size - 1 - i]?.getD Value.none) = _
    rw [List.getElem?_eq_getElem hl]
    rfl
  · rw [List.getElem?_eq_none (by rw [List.length_map, List.length_range]; omega), List.getElem?_eq_none (by rw [List.length_reverse, Array.length_toList]; omega)]
theorem getItem_tuple_rev {t sl : Addr} {items : Array Value} {vl vu vs : Value} {Q : Value → Shared → Prop} (ht : IsTup s.heap t items) (hs : s.heap.IsSliceOf sl vl vu vs) (pl : IsPart vl none) (pu : IsPart vu none) (ps : IsPart vs (some (-1)))
    (h : Q (.ref s.heap.objs.size) { s with heap := s.heap.push { cls := .type "tuple", data := .seq items.toList.reverse.toArray } })
    (hsz : items.size ≤ sizeLine) : wpAny (model prog w) A (getItem (.ref t) (.ref sl)) Q E s := by
  have htake : sizeOk (.seq items.toList.reverse.toArray) := by
    show items.toList.reverse.toArray.size ≤ sizeLine
    rw [List.size_toArray, List.length_reverse, Array.length_toList]
    omega
  obtain ⟨os, hos, hcs, hds⟩ := id hs
  have hTs : s.TypeIs (.ref sl) "slice" := ⟨os, hos, hcs⟩
  unfold getItem
  try with_reducible refine wpAny_holding ?_
  first | refine wpAny_bind (wpAny_pure ?_) | skip
  refine wpAny_bind (wpAny_sequenceKey ht.typeIs (by decide) ?_)
  refine wpAny_bind (wpAny_callSpecial?_slot (name := Str.ofString "__getitem__") ht.typeIs PyProof.Rows.slot_tuple_getitem
    (wpAny_call_entry PyProof.Rows.slot_tuple_getitem ht.typeIs PyProof.Rows.entry_tuple_getitem ?_ (PyProof.Rows.args_tuple_getitem _ _)))
  show wpAny _ _ (Builtin.Tuple.tupleItemsOf (.ref t) >>= _) _ _ s
  refine wpAny_bind (tupleItemsOf_ ht ?_)
  refine wpAny_bind (wpAny_typeOf hTs ?_)
  rw [if_pos (by decide)]
  refine wpAny_bind (sliceApplied_rev hs pl pu ps ?_)
  have hno : ¬ ((((items.size : Int) - 1) == 0 && (-1 : Int) == 1 && items.size == items.size) = true) := by
    intro q
    rw [Bool.and_eq_true, Bool.and_eq_true] at q
    exact absurd q.1.2 (by decide)
  show wpAny _ _ (if (((items.size : Int) - 1) == 0 && (-1 : Int) == 1 && items.size == items.size) = true then _ else _) _ _ s
  rw [if_neg hno, pick_rev]
  first
    | exact wpAny_bind (m := Builtin.Tuple.tupleExact _) (wpAny_newObj_type (wpAny_pure ⟨_, rfl, wpAny_pure h⟩) htake)
    | exact wpAny_bind (m := Builtin.Tuple.tupleExact _) (wpAny_newObj_type (wpAny_bind (wpAny_pure (wpAny_pure ⟨_, rfl, wpAny_pure h⟩))) htake)
    | exact wpAny_bind (wpAny_bind (m := Builtin.Tuple.tupleExact _) (wpAny_newObj_type (wpAny_pure (wpAny_pure ⟨_, rfl, wpAny_pure h⟩)) htake))
    | exact wpAny_bind (wpAny_bind (m := Builtin.Tuple.tupleExact _) (wpAny_newObj_type (wpAny_pure ⟨_, rfl, wpAny_pure h⟩) htake))
end
section
variable {X : Cx}
def tRevA (K : PySem.W.Frag) (te : TE) : TE := fun σ H Q => te σ H fun x H1 => ∃ a xs, x = .ref a ∧ ((SqL K H1 a xs ∧ ∀ p, H1 p = none → Q (.ref p) (upd H1 p (.lst xs.reverse))) ∨ (SqT K H1 a xs ∧ ∀ p, H1 p = none → Q (.ref p) (upd H1 p (.tup xs.reverse))))
theorem pe_revA {e : Expr} {te : TE} {k : Nat} {p1 p2 p3 pos : Pos} (he : PE X e te) : PE X (.Subscript e (.Slice none none (some (.UnaryOp .USub (.Constant (.int 1) k p1) p2)) p3) pos) (tRevA X.K te) := by
  refine ⟨fun pins s σ H Q I h => ?_⟩
  refine Subscript_ (thn (he.run pins s σ H _ I h) fun v s1 ⟨x, H1, I1, r1, q1⟩ => ?_)
  obtain ⟨a, xs, ex, q⟩ := q1
  subst ex
  cases r1
  have hst : PO X (some (.UnaryOp .USub (.Constant (.int 1) k p1) p2)) (tPart (tUn (rU fun i => .int (-i)) (tC (.int 1)))) := po_some (pe_un un_neg pe_int)
  refine wpAny_Slice (thn (po_none.run pins s1 σ H1 (fun o H2 => o = none ∧ H2 = H1) I1 ⟨rfl, rfl⟩) fun vl s2 ⟨l, H2, I2, pl, el, e2⟩ => ?_)
  subst el e2
  refine thn (po_none.run pins s2 σ H2 (fun o H3 => o = none ∧ H3 = H2) I2 ⟨rfl, rfl⟩) fun vu s3 ⟨u, H3, I3, pu, eu, e3⟩ => ?_
  subst eu e3
  refine thn (hst.run pins s3 σ H3 (fun o H4 => o = some (-1) ∧ H4 = H3) I3 ⟨1, rfl, -1, rfl, rfl, rfl⟩) fun vs s4 ⟨o, H4, I4, ps, eo, e4⟩ => ?_
  subst eo e4
  have I5 : Inv X pins σ H4 { s4 with heap := s4.heap.push { cls := .type "slice", data := .fields #[vl, vu, vs] } } := I4.kept (t' := s4.toks) fun b ob q => Heap.get?_push_of_some _ q
  show wpAny (model X.prog X.w) X.A (subscriptTail e (.Slice none none (some (.UnaryOp .USub (.Constant (.int 1) k p1) p2)) p3) (.ref a) (.ref s4.heap.objs.size)) (EP X pins σ Q) X.xe { s4 with heap := s4.heap.push { cls := .type "slice", data := .fields #[vl, vu, vs] } }
  rcases q with ⟨hx, q⟩ | ⟨hx, q⟩
  · obtain ⟨its, r, ht, hz⟩ := I5.list hx
    have hlen := r.length
    refine tail_any (ops := [.ref a, .ref s4.heap.objs.size]) ht.isList.typeIs (PySem.slot_list_getitem.lookup) ?_ (by with_unfolding_all rfl)
    refine wpAny_getItem_list_slice ht.isList (Heap.IsSliceOf.new _ vl vu vs) pl pu ps (by decide) ?_ (by rw [List.size_toArray]; omega)
    rw [PySem.W.krv_pick]
    refine ⟨.ref _, _, I5.laid (t' := s4.toks) (o := .lst xs.reverse) (fun b ob q => Heap.get?_push_of_some _ q) (Nat.le_refl _) ?_, rfl, q _ (I5.hok.fresh (Nat.le_refl _))⟩
    exact ⟨by rw [List.length_reverse]; exact hz, _, 0, r.reverse, Heap.get?_push_size _ rfl⟩
  · obtain ⟨its, r, ht, hz⟩ := I5.tuple hx
    have hlen := r.length
    refine tail_any (ops := [.ref a, .ref s4.heap.objs.size]) ht.typeIs PyProof.Rows.slot_tuple_getitem.lookup ?_ (by with_unfolding_all rfl)
    refine getItem_tuple_rev ht (Heap.IsSliceOf.new _ vl vu vs) pl pu ps ?_ (by rw [List.size_toArray]; omega)
    refine ⟨.ref _, _, I5.laid (t' := s4.toks) (o := .tup xs.reverse) (fun b ob q => Heap.get?_push_of_some _ q) (Nat.le_refl _) ?_, rfl, q _ (I5.hok.fresh (Nat.le_refl _))⟩
    exact ⟨by rw [List.length_reverse]; exact hz, _, r.reverse, IsTup.new _ _⟩
end
end Mini
end
section
set_option Elab.async false
set_option linter.all false
set_option maxRecDepth 100000
set_option maxHeartbeats 1000000
/-! Mini: every second item of a list or tuple, from a place on. -/
namespace Mini
open PySem PySem.Spec PyProof.Rows L2 HT
theorem alt_get {α : Type} : ∀ (l : List α) (j : Nat), (alt l)[j]? = l[j * 2]?
  | [], j => by simp [alt]
  | [x], 0 => rfl
  | [x], j + 1 => by
    show ([x] : List α)[j + 1]? = _
    rw [List.getElem?_eq_none (by simp), List.getElem?_eq_none (by simp <;> omega)]
  | x :: y :: l, 0 => rfl
  | x :: y :: l, j + 1 => by
    show (x :: alt l)[j + 1]? = _
    rw [List.getElem?_cons_succ, alt_get l j, show (j + 1) * 2 = j * 2 + 1 + 1 by omega, List.getElem?_cons_succ, List.getElem?_cons_succ]
theorem alt_len {α : Type} : ∀ (l : List α), (alt l).length = (l.length + 1) / 2
  | [] => by simp [alt]
  | [x] => by simp [alt]
  | x :: y :: l => by
    show (alt l).length + 1 = (l.length + 2 + 1) / 2
    rw [alt_len l]; omega
theorem alt_le {α : Type} (l : List α) (k : Nat) : (alt (l.drop k)).length ≤ l.length := by
  rw [alt_len, List.length_drop]; omega
theorem alt_map {α β : Type} (f : α → β) : ∀ l : List α, alt (l.map f) = (alt l).map f
  | [] => rfl
  | [x] => rfl
  | x :: y :: l => by
    show f x :: alt (l.map f) = f x :: (alt l).map f
    rw [alt_map f l]
theorem vals_alt : ∀ {xs : List V} {us : List Value}, Vals xs us → Vals (alt xs) (alt us)
  | _, _, .nil => .nil
  | _, _, .cons r .nil => .cons r .nil
  | _, _, .cons r (.cons _ h) => .cons r (vals_alt h)
theorem vals_drop {xs : List V} {us : List Value} (h : Vals xs us) : ∀ k : Nat, Vals (xs.drop k) (us.drop k) := fun k => by
  induction k generalizing xs us with
  | zero => exact h
  | succ k ih =>
    cases h with
    | nil => exact .nil
    | cons r h => exact ih h
theorem fm_list {α : Type} (l : List α) (i : Nat) : ∀ n : Nat, (∀ j : Nat, j < n → i + j * 2 < l.length) → n = (l.length - i + 1) / 2 → (List.range n).filterMap (fun j => l[i + j * 2]?) = alt (l.drop i) := fun n hb hn => by
  have e : (List.range n).filterMap (fun j => l[i + j * 2]?) = (List.range n).filterMap (fun j => (alt (l.drop i))[j]?) := by
    congr 1
    funext j
    rw [alt_get, List.getElem?_drop]
  rw [e]
  have hl : (alt (l.drop i)).length = n := by rw [alt_len, List.length_drop]; exact hn.symm
  rw [← hl]
  generalize alt (l.drop i) = t
  clear e hl hb hn
  refine List.ext_getElem? fun k => ?_
  induction t generalizing k with
  | nil => rfl
  | cons x t ih =>
    rw [List.length_cons, List.range_succ_eq_map, List.filterMap_cons]
    show (x :: List.filterMap (fun j => (x :: t)[j]?) ((List.range t.length).map Nat.succ))[k]? = _
    rw [List.filterMap_map]
    cases k with
    | zero => rfl
    | succ k => exact ih k
section
variable {prog : Program} {w : World} {A : Around} {E : Value → Shared → Prop} {s : Shared}
theorem adjust_two (k n : Nat) : Builtin.Slice.sliceAdjust (some (k : Int)) none 2 (n : Int) = (((min k n : Nat) : Int), (n : Int)) := by
  unfold Builtin.Slice.sliceAdjust
  have h : ¬ ((2 : Int) < 0) := by omega
  have h2 : ¬ ((k : Int) < 0) := by omega
  simp only [h, h2, if_false]
  refine Prod.ext ?_ rfl
  show min (k : Int) (n : Int) = _
  omega
theorem places_two (i n : Nat) (h : i ≤ n) : Builtin.Slice.slicePlaces (i : Int) (n : Int) 2 = (n - i + 1) / 2 := by
  unfold Builtin.Slice.slicePlaces
  have h1 : (2 : Int) > 0 := by omega
  rw [if_pos h1]
  split <;> omega
theorem sliceApplied_two {sl : Addr} {vl vu vs : Value} {k n : Nat} {Q : Int × Int × Nat → Shared → Prop} (hs : s.heap.IsSliceOf sl vl vu vs) (pl : IsPart vl (some (k : Int))) (pu : IsPart vu none) (ps : IsPart vs (some 2))
    (h : Q (((min k n : Nat) : Int), 2, (n - min k n + 1) / 2) s) : wpAny (model prog w) A (Builtin.Slice.sliceApplied (.ref sl) (pure (n : Int))) Q E s := by
  obtain ⟨os, hos, hcs, hds⟩ := id hs
  unfold Builtin.Slice.sliceApplied Builtin.Slice.sliceFields
  refine wpAny_bind (wpAny_bind (wpAny_field hos hds (x := vl) rfl (wpAny_bind (wpAny_field hos hds (x := vu) rfl (wpAny_bind (wpAny_field hos hds (x := vs) rfl (wpAny_pure ?_)))))))
  refine wpAny_bind (slicePart_ ps ?_)
  show wpAny _ _ (if ((2 : Int) == 0) = true then _ else _) _ _ s
  rw [if_neg (by decide)]
  refine wpAny_bind (slicePart_ pl (wpAny_bind (slicePart_ pu (wpAny_bind (wpAny_pure ?_)))))
  show wpAny _ _ (match Builtin.Slice.sliceAdjust (some (k : Int)) none 2 (n : Int) with | (lo, hi) => pure (lo, (2 : Int), Builtin.Slice.slicePlaces lo hi 2)) _ _ s
  rw [adjust_two k n]
  show wpAny _ _ (pure (((min k n : Nat) : Int), (2 : Int), Builtin.Slice.slicePlaces ((min k n : Nat) : Int) (n : Int) 2)) _ _ s
  rw [places_two _ _ (Nat.min_le_right _ _)]
  exact wpAny_pure h
theorem drop_min {α : Type} (l : List α) (k : Nat) : l.drop (min k l.length) = l.drop k := by
  rcases Nat.le_total k l.length with h | h
  · rw [Nat.min_eq_left h]
  · rw [Nat.min_eq_right h, List.drop_length, List.drop_of_length_le h]
theorem pick_two (xs : Array Value) (k : Nat) : ((List.range ((xs.size - min k xs.size + 1) / 2)).filterMap fun (m : Nat) => xs[(((min k xs.size : Nat) : Int) + (m : Int) * 2).toNat]?).toArray = (alt (xs.toList.drop k)).toArray := by
  congr 1
  have e : (fun (m : Nat) => xs[(((min k xs.size : Nat) : Int) + (m : Int) * 2).toNat]?) = fun m => xs.toList[min k xs.toList.length + m * 2]? := by
    funext m
    rw [show (((min k xs.size : Nat) : Int) + (m : Int) * 2).toNat = min k xs.size + m * 2 by omega, Array.length_toList, Array.getElem?_toList]
  rw [e, ← drop_min]
  refine fm_list _ _ _ (fun j hj => ?_) (by rw [Array.length_toList])
  have h := Nat.min_le_right k xs.size
  rw [Array.length_toList]; omega
theorem getItem_tuple_two {t sl : Addr} {items : Array Value} {vl vu vs : Value} {k : Nat} {Q : Value → Shared → Prop} (ht : IsTup s.heap t items) (hs : s.heap.IsSliceOf sl vl vu vs) (pl : IsPart vl (some (k : Int))) (pu : IsPart vu none) (ps : IsPart vs (some 2))
    (h : Q (.ref s.heap.objs.size) { s with heap := s.heap.push { cls := .type "tuple", data := .seq (alt (items.toList.drop k)).toArray } })
    (hsz : items.size ≤ sizeLine) : wpAny (model prog w) A (getItem (.ref t) (.ref sl)) Q E s := by
  have htake : sizeOk (.seq (alt (items.toList.drop k)).toArray) := by
    show (alt (items.toList.drop k)).toArray.size ≤ sizeLine
    rw [List.size_toArray]
    exact Nat.le_trans (alt_le _ _) (by rw [Array.length_toList]; exact hsz)
  obtain ⟨os, hos, hcs, hds⟩ := id hs
  have hTs : s.TypeIs (.ref sl) "slice" := ⟨os, hos, hcs⟩
  unfold getItem
  try with_reducible refine wpAny_holding ?_
  first | refine wpAny_bind (wpAny_pure ?_) | skip
  refine wpAny_bind (wpAny_sequenceKey ht.typeIs (by decide) ?_)
  refine wpAny_bind (wpAny_callSpecial?_slot (name := Str.ofString "__getitem__") ht.typeIs PyProof.Rows.slot_tuple_getitem
    (wpAny_call_entry PyProof.Rows.slot_tuple_getitem ht.typeIs PyProof.Rows.entry_tuple_getitem ?_ (PyProof.Rows.args_tuple_getitem _ _)))
  show wpAny _ _ (Builtin.Tuple.tupleItemsOf (.ref t) >>= _) _ _ s
  refine wpAny_bind (tupleItemsOf_ ht ?_)
  refine wpAny_bind (wpAny_typeOf hTs ?_)
  rw [if_pos (by decide)]
  refine wpAny_bind (sliceApplied_two hs pl pu ps ?_)
  have hno : ¬ ((((min k items.size : Nat) : Int) == 0 && (2 : Int) == 1 && (items.size - min k items.size + 1) / 2 == items.size) = true) := by
    intro q
    rw [Bool.and_eq_true, Bool.and_eq_true] at q
    exact absurd q.1.2 (by decide)
  show wpAny _ _ (if (((min k items.size : Nat) : Int) == 0 && (2 : Int) == 1 && (items.size - min k items.size + 1) / 2 == items.size) = true then _ else _) _ _ s
  rw [if_neg hno, pick_two]
  first
    | exact wpAny_bind (m := Builtin.Tuple.tupleExact _) (wpAny_newObj_type (wpAny_pure ⟨_, rfl, wpAny_pure h⟩) htake)
    | exact wpAny_bind (m := Builtin.Tuple.tupleExact _) (wpAny_newObj_type (wpAny_bind (wpAny_pure (wpAny_pure ⟨_, rfl, wpAny_pure h⟩))) htake)
    | exact wpAny_bind (wpAny_bind (m := Builtin.Tuple.tupleExact _) (wpAny_newObj_type (wpAny_pure (wpAny_pure ⟨_, rfl, wpAny_pure h⟩)) htake))
    | exact wpAny_bind (wpAny_bind (m := Builtin.Tuple.tupleExact _) (wpAny_newObj_type (wpAny_pure ⟨_, rfl, wpAny_pure h⟩) htake))
theorem slicePick_two (xs : List Value) (k : Nat) : slicePick xs.toArray (some (k : Int)) none (some 2) = (alt (xs.drop k)).toArray := by
  unfold slicePick
  congr 1
  have e1 : (sliceBounds (some (k : Int)) none (some 2) xs.toArray.size) = (((min k xs.length : Nat) : Int), (xs.length : Int), 2) := by
    unfold sliceBounds
    have h : ¬ ((k : Int) < 0) := by omega
    simp only [Option.getD_some, List.size_toArray, h, if_false, show (2 : Int) > 0 by decide, if_true]
    refine Prod.ext ?_ rfl
    show max 0 (min (k : Int) (xs.length : Int)) = _
    omega
  rw [e1]
  dsimp only
  have e2 : sliceRange ((min k xs.length : Nat) : Int) (xs.length : Int) 2 = (List.range ((xs.length - min k xs.length + 1) / 2)).map fun j => min k xs.length + j * 2 := by
    unfold sliceRange
    rw [if_pos (show (2 : Int) > 0 by decide)]
    have h := Nat.min_le_right k xs.length
    by_cases c : ((min k xs.length : Nat) : Int) < (xs.length : Int)
    · have e3 : (((xs.length : Int) - ((min k xs.length : Nat) : Int) + 2 - 1) / 2).toNat = (xs.length - min k xs.length + 1) / 2 := by omega
      first
        | (rw [if_pos c, e3]
           refine List.map_congr_left fun j _ => ?_
           omega)
        | (simp only [c, if_true, e3]
           refine List.map_congr_left fun j _ => ?_
           omega)
    · have e4 : (xs.length - min k xs.length + 1) / 2 = 0 := by omega
      rw [e4]
      first
        | (rw [if_neg c]; rfl)
        | (simp only [c, if_false]; rfl)
  rw [e2, List.filterMap_map]
  have e5 : ((fun x => xs.toArray[x]?) ∘ fun j => min k xs.length + j * 2) = fun j => xs[min k xs.length + j * 2]? := by
    funext j
    show xs.toArray[min k xs.length + j * 2]? = _
    rw [List.getElem?_toArray]
  rw [e5, ← drop_min]
  refine fm_list _ _ _ (fun j hj => ?_) rfl
  have h := Nat.min_le_right k xs.length
  omega
end
section
variable {X : Cx}
def tAlt (K : PySem.W.Frag) (n : Nat) (te : TE) : TE := fun σ H Q => te σ H fun x H1 => ∃ a xs, x = .ref a ∧ ((SqL K H1 a xs ∧ ∀ p, H1 p = none → Q (.ref p) (upd H1 p (.lst (alt (xs.drop n))))) ∨ (SqT K H1 a xs ∧ ∀ p, H1 p = none → Q (.ref p) (upd H1 p (.tup (alt (xs.drop n))))))
theorem pe_alt {e : Expr} {te : TE} {n k k2 : Nat} {p1 p2 p3 pos : Pos} (he : PE X e te) : PE X (.Subscript e (.Slice (some (.Constant (.int (n : Int)) k p1)) none (some (.Constant (.int 2) k2 p2)) p3) pos) (tAlt X.K n te) := by
  refine ⟨fun pins s σ H Q I h => ?_⟩
  refine Subscript_ (thn (he.run pins s σ H _ I h) fun v s1 ⟨x, H1, I1, r1, q1⟩ => ?_)
  obtain ⟨a, xs, ex, q⟩ := q1
  subst ex
  cases r1
  have hlo : PO X (some (.Constant (.int (n : Int)) k p1)) (tPart (tC (.int (n : Int)))) := po_some pe_int
  have hst : PO X (some (.Constant (.int 2) k2 p2)) (tPart (tC (.int 2))) := po_some pe_int
  refine wpAny_Slice (thn (hlo.run pins s1 σ H1 (fun o H2 => o = some (n : Int) ∧ H2 = H1) I1 ⟨(n : Int), rfl, rfl, rfl⟩) fun vl s2 ⟨l, H2, I2, pl, el, e2⟩ => ?_)
  subst el e2
  refine thn (po_none.run pins s2 σ H2 (fun o H3 => o = none ∧ H3 = H2) I2 ⟨rfl, rfl⟩) fun vu s3 ⟨u, H3, I3, pu, eu, e3⟩ => ?_
  subst eu e3
  refine thn (hst.run pins s3 σ H3 (fun o H4 => o = some 2 ∧ H4 = H3) I3 ⟨2, rfl, rfl, rfl⟩) fun vs s4 ⟨o, H4, I4, ps, eo, e4⟩ => ?_
  subst eo e4
  have I5 : Inv X pins σ H4 { s4 with heap := s4.heap.push { cls := .type "slice", data := .fields #[vl, vu, vs] } } := I4.kept (t' := s4.toks) fun b ob q => Heap.get?_push_of_some _ q
  show wpAny (model X.prog X.w) X.A (subscriptTail e (.Slice (some (.Constant (.int (n : Int)) k p1)) none (some (.Constant (.int 2) k2 p2)) p3) (.ref a) (.ref s4.heap.objs.size)) (EP X pins σ Q) X.xe { s4 with heap := s4.heap.push { cls := .type "slice", data := .fields #[vl, vu, vs] } }
  rcases q with ⟨hx, q⟩ | ⟨hx, q⟩
  · obtain ⟨its, r, ht, hz⟩ := I5.list hx
    have hlen := r.length
    refine tail_any (ops := [.ref a, .ref s4.heap.objs.size]) ht.isList.typeIs (PySem.slot_list_getitem.lookup) ?_ (by with_unfolding_all rfl)
    refine wpAny_getItem_list_slice ht.isList (Heap.IsSliceOf.new _ vl vu vs) pl pu ps (by decide) ?_ (by rw [List.size_toArray]; omega)
    rw [slicePick_two]
    refine ⟨.ref _, _, I5.laid (t' := s4.toks) (o := .lst (alt (xs.drop n))) (fun b ob q => Heap.get?_push_of_some _ q) (Nat.le_refl _) ?_, rfl, q _ (I5.hok.fresh (Nat.le_refl _))⟩
    exact ⟨Nat.le_trans (alt_le _ _) hz, _, 0, vals_alt (vals_drop r n), Heap.get?_push_size _ rfl⟩
  · obtain ⟨its, r, ht, hz⟩ := I5.tuple hx
    have hlen := r.length
    refine tail_any (ops := [.ref a, .ref s4.heap.objs.size]) ht.typeIs PyProof.Rows.slot_tuple_getitem.lookup ?_ (by with_unfolding_all rfl)
    refine getItem_tuple_two ht (Heap.IsSliceOf.new _ vl vu vs) pl pu ps ?_ (by rw [List.size_toArray]; omega)
    refine ⟨.ref _, _, I5.laid (t' := s4.toks) (o := .tup (alt (xs.drop n))) (fun b ob q => Heap.get?_push_of_some _ q) (Nat.le_refl _) ?_, rfl, q _ (I5.hok.fresh (Nat.le_refl _))⟩
    exact ⟨Nat.le_trans (alt_le _ _) hz, _, vals_alt (vals_drop r n), IsTup.new _ _⟩
end
end Mini
end
section
set_option Elab.async false
set_option linter.all false
set_option maxRecDepth 100000
set_option maxHeartbeats 1000000
/-! MiniZip: zip of two sequences, each a list or a tuple. -/
namespace Mini
open PySem PySem.Spec PyProof.Rows L2
open PySem.Sem (wp)
/-- an iterator: of a list, or of a tuple -/
def IK : Bool → Heap → Addr → Addr → Nat → Prop
  | true, h, i, l, k => h.IsListIter i l k
  | false, h, i, l, k => h.IsTupleIter i l k
def LK : Bool → Heap → Addr → Array Value → Prop
  | true, h, l, xs => h.IsList l xs
  | false, h, l, xs => h.IsTuple l xs
theorem IK.mv {κ : Bool} {h h' : Heap} {i l : Addr} {k : Nat} (x : IK κ h i l k) (e : ∀ o, h.get? i = some o → h'.get? i = some o) : IK κ h' i l k := by
  cases κ
  · exact Heap.IsTupleIter.at x e
  · exact Heap.IsListIter.at x e
theorem LK.mv {κ : Bool} {h h' : Heap} {l : Addr} {xs : Array Value} (x : LK κ h l xs) (e : ∀ o, h.get? l = some o → h'.get? l = some o) : LK κ h' l xs := by
  cases κ
  · exact Heap.IsTuple.at x e
  · exact Heap.IsList.at x e
theorem IK.ob {κ : Bool} {h : Heap} {i l : Addr} {k : Nat} (x : IK κ h i l k) : ∃ o, h.get? i = some o ∧ o.data = .fields #[.ref l, .int k 0] := by
  cases κ
  · obtain ⟨o, e, _, d⟩ := x; exact ⟨o, e, d⟩
  · obtain ⟨o, e, _, d⟩ := x; exact ⟨o, e, d⟩
theorem LK.lt {κ : Bool} {h : Heap} {l : Addr} {xs : Array Value} (x : LK κ h l xs) : l < h.objs.size := by
  cases κ
  · obtain ⟨o, e, _⟩ := x; exact Heap.lt_size e
  · obtain ⟨o, e, _⟩ := x; exact Heap.lt_size e
/-- what a turn leaves: all but the zip's own four things -/
def Kp (z TO i1 i2 : Addr) (h h' : Heap) : Prop := ∀ c o, c ≠ z → c ≠ TO → c ≠ i1 → c ≠ i2 → h.get? c = some o → h'.get? c = some o
section
variable {prog : Program} {w : World} {A : Around} {E : Value → Shared → Prop} {s : Shared}
theorem nx_item {κ : Bool} {i l : Addr} {k : Nat} {xs : Array Value} {x : Value} {Q : Value → Shared → Prop} (a : IK κ s.heap i l k) (b : LK κ s.heap l xs) (e : xs[k]? = some x)
    (q : ∀ h', IK κ h' i l (k + 1) → Heap.SameBut i s.heap h' → Q x { s with heap := h' }) : wpAny (model prog w) A (Builtin.SmallTypes.nextOf (.ref i)) Q E s := by
  cases κ
  · exact RZ.nextOf_tuple_item a b e q
  · exact wpAny_nextOf_list_item a b e q
theorem nx_end {κ : Bool} {i l : Addr} {k : Nat} {xs : Array Value} {Q : Value → Shared → Prop} (hh : A.handled = none) (a : IK κ s.heap i l k) (b : LK κ s.heap l xs) (e : xs[k]? = none)
    (q : ∀ h' e, Heap.ExtBut i s.heap h' → (∃ o, h'.get? e = some o ∧ o.cls = .type "StopIteration") → E (.ref e) { s with heap := h' }) : wpAny (model prog w) A (Builtin.SmallTypes.nextOf (.ref i)) Q E s := by
  cases κ
  · exact RZ.nextOf_tuple_end hh a b e q
  · exact wpAny_nextOf_list_end hh a b e q

variable {κ1 κ2 : Bool} {z TI TO i1 i2 l1 l2 : Addr} {k1 k2 : Nat} {xs ys : Array Value} {x y a b : Value}
theorem zK_item {Q : Value → Shared → Prop} (D : ZipApart z TI TO i1 i2 l1 l2)
    (hz : IsZip s.heap z TI TO .none) (hTI : IsPair s.heap TI (.ref i1) (.ref i2)) (hTO : IsPair s.heap TO a b)
    (h1 : IK κ1 s.heap i1 l1 k1) (h2 : IK κ2 s.heap i2 l2 k2) (hl1 : LK κ1 s.heap l1 xs) (hl2 : LK κ2 s.heap l2 ys) (hx : xs[k1]? = some x) (hy : ys[k2]? = some y)
    (hQ : ∀ h', IsZip h' z TI TO (rawInt s.heap.objs.size) → IsPair h' TO x y → IK κ1 h' i1 l1 (k1 + 1) → IK κ2 h' i2 l2 (k2 + 1) → IsPair h' s.heap.objs.size x y → h'.objs.size = s.heap.objs.size + 1 → Kp z TO i1 i2 s.heap h' → Q (.ref s.heap.objs.size) { s with heap := h' }) :
    wpAny (model prog w) A (Builtin.«zip.__next__» ⟨[.ref z], []⟩) (fun fin s' => ∃ v, fin = .done (.ret v) ∧ Q v s') E s := by
  show wpAny _ _ (field (.ref z) 2 >>= _) _ _ _; refine wpAny_bind (wpAny_field hz rfl (x := .bool false) rfl ?_)
  show wpAny _ _ (field (.ref z) 3 >>= _) _ _ _; refine wpAny_bind (wpAny_field hz rfl (x := .ref TI) rfl ?_)
  refine wpAny_bind (wpAny_seqItems hTI rfl ?_); show wpAny _ _ (Builtin.SmallTypes.ownedTupleIsFree (.ref z) >>= _) _ _ _
  refine wpAny_bind ?_; unfold Builtin.SmallTypes.ownedTupleIsFree
  refine wpAny_bind (wpAny_field hz rfl (x := .none) rfl (wpAny_pure ?_)); simp only [if_true]
  refine wpAny_bind (wpAny_rule ?_); refine wpAny_bind (wpAny_field hz rfl (x := .ref TO) rfl ?_)
  refine wpAny_bind (wpAny_setField_rec hz (by simp) fun ha za sa => ?_); replace za : IsZip ha z TI TO .ellipsis := za
  refine wpAny_bind ?_; simp only [List.zipIdx_cons, List.zipIdx_nil, List.forIn_cons, List.forIn_nil]
  refine wpAny_bind (wpAny_bind (wpAny_onRaise ?_)); show wpAny _ _ (Builtin.SmallTypes.nextOf (.ref i1) >>= _) _ _ _
  refine wpAny_bind (nx_item (h1.mv fun o q => sa.extBut _ _ D.i1z q) (hl1.mv fun o q => sa.extBut _ _ D.l1z q) hx fun hb h1b sb => wpAny_pure ?_)
  have Tb : IsPair hb TO a b := sb.extBut _ _ D.TOi1 (sa.extBut _ _ D.TOz hTO)
  refine wpAny_bind (wpAny_seqItems Tb rfl ?_); refine wpAny_bind (wpAny_updateSeq_pair Tb fun hc Tc sc => ?_)
  replace Tc : IsPair hc TO x b := Tc
  refine wpAny_bind (wpAny_letGo (wpAny_pure ?_)); refine wpAny_bind (wpAny_bind (wpAny_onRaise ?_))
  show wpAny _ _ (Builtin.SmallTypes.nextOf (.ref i2) >>= _) _ _ _
  refine wpAny_bind (nx_item (h2.mv fun o q => sc.extBut _ _ D.TOi2.symm (sb.extBut _ _ D.i12.symm (sa.extBut _ _ D.i2z q))) (hl2.mv fun o q => sc.extBut _ _ D.l2TO (sb.extBut _ _ D.l2i1 (sa.extBut _ _ D.l2z q))) hy fun hd h2d sd => wpAny_pure ?_)
  have Td : IsPair hd TO x b := sd.extBut _ _ D.TOi2 Tc
  refine wpAny_bind (wpAny_seqItems Td rfl ?_); refine wpAny_bind (wpAny_updateSeq_pair Td fun hf Tf sf => ?_)
  replace Tf : IsPair hf TO x y := Tf
  refine wpAny_bind (wpAny_letGo (wpAny_pure (wpAny_pure ?_))); refine wpAny_bind (wpAny_seqItems Tf rfl ?_); refine wpAny_bind (wpAny_newTuple ?_)
  have sz : hf.objs.size = s.heap.objs.size := by rw [sf.1, sd.1, sc.1, sb.1, sa.1]
  have zf : IsZip hf z TI TO .ellipsis := sf.extBut _ _ D.TOz.symm (sd.extBut _ _ D.i2z.symm (sc.extBut _ _ D.TOz.symm (sb.extBut _ _ D.i1z.symm za)))
  have kf : Kp z TO i1 i2 s.heap hf := fun c o n1 n2 n3 n4 e => sf.extBut _ _ n2 (sd.extBut _ _ n4 (sc.extBut _ _ n2 (sb.extBut _ _ n3 (sa.extBut _ _ n1 e))))
  have h1f : IK κ1 hf i1 l1 (k1 + 1) := h1b.mv fun o q => sf.extBut _ _ D.TOi1.symm (sd.extBut _ _ D.i12 (sc.extBut _ _ D.TOi1.symm q))
  have h2f : IK κ2 hf i2 l2 (k2 + 1) := h2d.mv fun o q => sf.extBut _ _ D.TOi2.symm q
  have zlt : z < hf.objs.size := Heap.lt_size zf
  show wpAny _ _ (Builtin.SmallTypes.ownedTupleHandOut (.ref z) (.ref hf.objs.size) >>= _) _ _ _
  refine wpAny_bind ?_; unfold Builtin.SmallTypes.ownedTupleHandOut
  have zg : IsZip (hf.push { cls := .type "tuple", data := .seq #[x, y] }) z TI TO .ellipsis := Heap.get?_push_of_some _ zf
  refine wpAny_bind (wpAny_setField_rec zg (by simp) fun hi zi si => ?_); replace zi : IsZip hi z TI TO (rawInt hf.objs.size) := zi
  refine wpAny_setField_rec zi (by simp) fun hj zj sj => ?_; replace zj : IsZip hj z TI TO (rawInt hf.objs.size) := zj
  have up : ∀ c o, c ≠ z → hf.get? c = some o → hj.get? c = some o := fun c o n e => sj.extBut _ _ n (si.extBut _ _ n (Heap.get?_push_of_some _ e))
  have Tj : IsPair hj hf.objs.size x y := sj.extBut _ _ (Nat.ne_of_gt zlt) (si.extBut _ _ (Nat.ne_of_gt zlt) (Heap.get?_push_size _ rfl))
  have lj : hj.objs.size = hf.objs.size + 1 := by rw [sj.1, si.1, Heap.size_push]
  rw [sz] at zj Tj lj
  refine wpAny_pure ⟨_, rfl, ?_⟩; show Q (.ref hf.objs.size) _; rw [sz]
  exact hQ hj zj (up _ _ D.TOz Tf) (h1f.mv fun o e => up _ o D.i1z e) (h2f.mv fun o e => up _ o D.i2z e) Tj lj fun c o n1 n2 n3 n4 e => up c o n1 (kf c o n1 n2 n3 n4 e)
theorem zK_end {Q : PySem.Fin → Shared → Prop} (hh : A.handled = none) (D : ZipApart z TI TO i1 i2 l1 l2)
    (hz : IsZip s.heap z TI TO .none) (hTI : IsPair s.heap TI (.ref i1) (.ref i2)) (hTO : IsPair s.heap TO a b)
    (h1 : IK κ1 s.heap i1 l1 k1) (h2 : IK κ2 s.heap i2 l2 k2) (hl1 : LK κ1 s.heap l1 xs) (hl2 : LK κ2 s.heap l2 ys) (hend : xs[k1]? = none ∨ ys[k2]? = none)
    (hE : ∀ h' e, Kp z TO i1 i2 s.heap h' → (∃ o, h'.get? e = some o ∧ o.cls = .type "StopIteration") → E (.ref e) { s with heap := h' }) :
    wpAny (model prog w) A (Builtin.«zip.__next__» ⟨[.ref z], []⟩) Q E s := by
  show wpAny _ _ (field (.ref z) 2 >>= _) _ _ _; refine wpAny_bind (wpAny_field hz rfl (x := .bool false) rfl ?_)
  show wpAny _ _ (field (.ref z) 3 >>= _) _ _ _; refine wpAny_bind (wpAny_field hz rfl (x := .ref TI) rfl ?_)
  refine wpAny_bind (wpAny_seqItems hTI rfl ?_); show wpAny _ _ (Builtin.SmallTypes.ownedTupleIsFree (.ref z) >>= _) _ _ _
  refine wpAny_bind ?_; unfold Builtin.SmallTypes.ownedTupleIsFree
  refine wpAny_bind (wpAny_field hz rfl (x := .none) rfl (wpAny_pure ?_)); simp only [if_true]
  refine wpAny_bind (wpAny_rule ?_); refine wpAny_bind (wpAny_field hz rfl (x := .ref TO) rfl ?_)
  refine wpAny_bind (wpAny_setField_rec hz (by simp) fun ha za sa => ?_); replace za : IsZip ha z TI TO .ellipsis := za
  refine wpAny_bind ?_; simp only [List.zipIdx_cons, List.zipIdx_nil, List.forIn_cons, List.forIn_nil]
  refine wpAny_bind (wpAny_bind (wpAny_onRaise ?_)); show wpAny _ _ (Builtin.SmallTypes.nextOf (.ref i1) >>= _) _ _ _
  cases hx : xs[k1]? with
  | none =>
    refine wpAny_bind (nx_end hh (h1.mv fun o q => sa.extBut _ _ D.i1z q) (hl1.mv fun o q => sa.extBut _ _ D.l1z q) hx fun hb e sb he => ?_)
    obtain ⟨oe, g, ce⟩ := he
    have zb : IsZip hb z TI TO .ellipsis := sb _ _ D.i1z.symm za
    have ez : e ≠ z := fun x => by subst x; rw [zb] at g; cases g; simp at ce
    refine wpAny_setField_rec zb (by simp) fun hc _ sc => hE hc e (fun c o n1 _ n3 _ x => sc.extBut _ _ n1 (sb _ _ n3 (sa.extBut _ _ n1 x))) ⟨oe, sc.extBut _ _ ez g, ce⟩
  | some x =>
    have hy : ys[k2]? = none := by rcases hend with h | h; rw [hx] at h; cases h; exact h
    refine wpAny_bind (nx_item (h1.mv fun o q => sa.extBut _ _ D.i1z q) (hl1.mv fun o q => sa.extBut _ _ D.l1z q) hx fun hb h1b sb => wpAny_pure ?_)
    have Tb : IsPair hb TO a b := sb.extBut _ _ D.TOi1 (sa.extBut _ _ D.TOz hTO)
    refine wpAny_bind (wpAny_seqItems Tb rfl ?_); refine wpAny_bind (wpAny_updateSeq_pair Tb fun hc Tc sc => ?_)
    refine wpAny_bind (wpAny_letGo (wpAny_pure ?_)); refine wpAny_bind (wpAny_bind (wpAny_onRaise ?_))
    show wpAny _ _ (Builtin.SmallTypes.nextOf (.ref i2) >>= _) _ _ _
    refine wpAny_bind (nx_end hh (h2.mv fun o q => sc.extBut _ _ D.TOi2.symm (sb.extBut _ _ D.i12.symm (sa.extBut _ _ D.i2z q))) (hl2.mv fun o q => sc.extBut _ _ D.l2TO (sb.extBut _ _ D.l2i1 (sa.extBut _ _ D.l2z q))) hy fun hd e sd he => ?_)
    obtain ⟨oe, g, ce⟩ := he
    have zd : IsZip hd z TI TO .ellipsis := sd _ _ D.i2z.symm (sc.extBut _ _ D.TOz.symm (sb.extBut _ _ D.i1z.symm za))
    have ez : e ≠ z := fun x => by subst x; rw [zd] at g; cases g; simp at ce
    refine wpAny_setField_rec zd (by simp) fun hf _ sf => hE hf e (fun c o n1 n2 n3 n4 x => sf.extBut _ _ n1 (sd _ _ n4 (sc.extBut _ _ n2 (sb.extBut _ _ n3 (sa.extBut _ _ n1 x))))) ⟨oe, sf.extBut _ _ ez g, ce⟩
theorem pyN_item {Q : Option Value → Shared → Prop} (D : ZipApart z TI TO i1 i2 l1 l2)
    (hz : IsZip s.heap z TI TO .none) (hTI : IsPair s.heap TI (.ref i1) (.ref i2)) (hTO : IsPair s.heap TO a b)
    (h1 : IK κ1 s.heap i1 l1 k1) (h2 : IK κ2 s.heap i2 l2 k2) (hl1 : LK κ1 s.heap l1 xs) (hl2 : LK κ2 s.heap l2 ys) (hx : xs[k1]? = some x) (hy : ys[k2]? = some y)
    (hQ : ∀ h', IsZip h' z TI TO (rawInt s.heap.objs.size) → IsPair h' TO x y → IK κ1 h' i1 l1 (k1 + 1) → IK κ2 h' i2 l2 (k2 + 1) → IsPair h' s.heap.objs.size x y → h'.objs.size = s.heap.objs.size + 1 → Kp z TO i1 i2 s.heap h' → Q (some (.ref s.heap.objs.size)) { s with heap := h' }) :
    wpAny (model prog w) A (pyNext (.ref z)) Q E s := by
  have t : s.TypeIs (.ref z) "zip" := ⟨_, hz, rfl⟩
  unfold pyNext
  exact wpAny_bind (wpAny_attempt (wpAny_callSpecial?_slot (name := Str.ofString "__next__") t F.slot_zip_next (wpAny_call_entry F.slot_zip_next t F.entry_zip_next (zK_item D hz hTI hTO h1 h2 hl1 hl2 hx hy fun h' a1 a2 a3 a4 a5 a6 a7 => wpAny_pure (hQ h' a1 a2 a3 a4 a5 a6 a7)) (F.args_zip_next_1 _))))
theorem pyN_end {Q : Option Value → Shared → Prop} (hh : A.handled = none) (D : ZipApart z TI TO i1 i2 l1 l2)
    (hz : IsZip s.heap z TI TO .none) (hTI : IsPair s.heap TI (.ref i1) (.ref i2)) (hTO : IsPair s.heap TO a b)
    (h1 : IK κ1 s.heap i1 l1 k1) (h2 : IK κ2 s.heap i2 l2 k2) (hl1 : LK κ1 s.heap l1 xs) (hl2 : LK κ2 s.heap l2 ys) (hend : xs[k1]? = none ∨ ys[k2]? = none)
    (hQ : ∀ h', Kp z TO i1 i2 s.heap h' → Q none { s with heap := h' }) : wpAny (model prog w) A (pyNext (.ref z)) Q E s := by
  have t : s.TypeIs (.ref z) "zip" := ⟨_, hz, rfl⟩
  unfold pyNext
  refine wpAny_bind (wpAny_attempt (wpAny_callSpecial?_slot (name := Str.ofString "__next__") t F.slot_zip_next (wpAny_call_entry F.slot_zip_next t F.entry_zip_next (zK_end hh D hz hTI hTO h1 h2 hl1 hl2 hend fun h' e k he => ?_) (F.args_zip_next_1 _))))
  obtain ⟨o, g, c⟩ := he
  exact wpAny_bind (wpAny_isInstance (T := "StopIteration") (b := true) ⟨o, g, c⟩ isSubtype_stop (wpAny_pure (hQ _ k)))
end
/-! ### the call -/
def itc : Bool → String
  | true => "list_iterator"
  | false => "tuple_iterator"
def zA (κ : Bool) (h : Heap) (l : Addr) : Heap := h.push { cls := .type (itc κ), data := .fields #[.ref l, .int 0 0] }
def zB (κ1 κ2 : Bool) (h : Heap) (l1 l2 : Addr) : Heap := zA κ2 (zA κ1 h l1) l2
def zC (κ1 κ2 : Bool) (h : Heap) (l1 l2 : Addr) : Heap := (zB κ1 κ2 h l1 l2).push { cls := .type "tuple", data := .seq #[.ref h.objs.size, .ref (zA κ1 h l1).objs.size] }
def zD (κ1 κ2 : Bool) (h : Heap) (l1 l2 : Addr) : Heap := (zC κ1 κ2 h l1 l2).push { cls := .type "tuple", data := .seq #[.none, .none] }
def zE (κ1 κ2 : Bool) (h : Heap) (l1 l2 : Addr) : Heap := (zD κ1 κ2 h l1 l2).push { cls := .type "zip", data := .fields #[.none, .bool false, .bool false, .ref (zB κ1 κ2 h l1 l2).objs.size, .ref (zC κ1 κ2 h l1 l2).objs.size] }
theorem mt_TL (l1 l2 : Addr) (xs ys : Array Value) : Meets (Builtin.«zip.__new__» ⟨[.type "zip", .ref l1, .ref l2], []⟩) (fun _ R s => s.heap.IsTuple l1 xs ∧ s.heap.IsList l2 ys ∧ R (.ok (.ret (.ref (zD false true s.heap l1 l2).objs.size))) { s with heap := zE false true s.heap l1 l2 }) :=
  .of_wp fun prog w A R s h => by
    obtain ⟨hp, g, d, tk, os⟩ := s; obtain ⟨q1, q2, h⟩ := h
    have su := sub_zip
    have p1 : Heap.IsTuple (Shared.heap ⟨hp, g, d, tk, os⟩) l1 xs := q1
    have p2 : Heap.IsList (Shared.heap ⟨hp.push { cls := .type "tuple_iterator", data := .fields #[.ref l1, .int 0 0] }, g, d, tk, os⟩) l2 ys := Heap.IsList.push q2 _
    wp_walk using wpAny_pyIter_tuple p1, wpAny_pyIter_list p2
    exact ⟨_, rfl, h⟩
theorem mt_LT (l1 l2 : Addr) (xs ys : Array Value) : Meets (Builtin.«zip.__new__» ⟨[.type "zip", .ref l1, .ref l2], []⟩) (fun _ R s => s.heap.IsList l1 xs ∧ s.heap.IsTuple l2 ys ∧ R (.ok (.ret (.ref (zD true false s.heap l1 l2).objs.size))) { s with heap := zE true false s.heap l1 l2 }) :=
  .of_wp fun prog w A R s h => by
    obtain ⟨hp, g, d, tk, os⟩ := s; obtain ⟨q1, q2, h⟩ := h
    have su := sub_zip
    have p1 : Heap.IsList (Shared.heap ⟨hp, g, d, tk, os⟩) l1 xs := q1
    have p2 : Heap.IsTuple (Shared.heap ⟨hp.push { cls := .type "list_iterator", data := .fields #[.ref l1, .int 0 0] }, g, d, tk, os⟩) l2 ys := Heap.IsTuple.push q2 _
    wp_walk using wpAny_pyIter_list p1, wpAny_pyIter_tuple p2
    exact ⟨_, rfl, h⟩
theorem mt_K (κ1 κ2 : Bool) (l1 l2 : Addr) (xs ys : Array Value) : Meets (Builtin.«zip.__new__» ⟨[.type "zip", .ref l1, .ref l2], []⟩) (fun _ R s => LK κ1 s.heap l1 xs ∧ LK κ2 s.heap l2 ys ∧ R (.ok (.ret (.ref (zD κ1 κ2 s.heap l1 l2).objs.size))) { s with heap := zE κ1 κ2 s.heap l1 l2 }) := by
  cases κ1 <;> cases κ2
  · exact RZ.meets_zipT_new l1 l2 xs ys
  · exact mt_TL l1 l2 xs ys
  · exact mt_LT l1 l2 xs ys
  · exact meets_zip_new l1 l2 xs ys
section
variable {prog : Program} {w : World} {A : Around} {E : Value → Shared → Prop} {s : Shared}
theorem ik_new {κ : Bool} {h : Heap} {i l : Addr} (e : h.get? i = some { cls := .type (itc κ), data := .fields #[.ref l, .int 0 0] }) : IK κ h i l 0 := by
  cases κ
  · exact ⟨_, e, rfl, rfl⟩
  · exact ⟨_, e, rfl, rfl⟩
theorem zcall {κ1 κ2 : Bool} {l1 l2 : Addr} {xs ys : Array Value} {Q : Value → Shared → Prop} (hl1 : LK κ1 s.heap l1 xs) (hl2 : LK κ2 s.heap l2 ys)
    (h : ∀ h', IsZip h' (s.heap.objs.size + 4) (s.heap.objs.size + 2) (s.heap.objs.size + 3) .none → IsPair h' (s.heap.objs.size + 2) (.ref s.heap.objs.size) (.ref (s.heap.objs.size + 1)) →
      IsPair h' (s.heap.objs.size + 3) .none .none → IK κ1 h' s.heap.objs.size l1 0 → IK κ2 h' (s.heap.objs.size + 1) l2 0 → (∀ c o, s.heap.get? c = some o → h'.get? c = some o) → Q (.ref (s.heap.objs.size + 4)) { s with heap := h' }) :
    wpAny (model prog w) A (call (.type "zip") [.ref l1, .ref l2]) Q E s := by
  refine callType_new F.called_zip (by decide) (F.typeCall_zip_2 _ _) (F.newCall_zip_2 _ _) (fun obj => F.args_object_init_3 obj _ _) F.entry_zip_new (mt_K κ1 κ2 l1 l2 xs ys) ⟨hl1, hl2, ?_⟩
  have n1 : (zA κ1 s.heap l1).objs.size = s.heap.objs.size + 1 := Heap.size_push ..
  have n2 : (zB κ1 κ2 s.heap l1 l2).objs.size = s.heap.objs.size + 2 := by unfold zB; unfold zA at *; rw [Heap.size_push, n1]
  have n3 : (zC κ1 κ2 s.heap l1 l2).objs.size = s.heap.objs.size + 3 := by unfold zC; rw [Heap.size_push, n2]
  have n4 : (zD κ1 κ2 s.heap l1 l2).objs.size = s.heap.objs.size + 4 := by unfold zD; rw [Heap.size_push, n3]
  have g5 : (zE κ1 κ2 s.heap l1 l2).get? (zD κ1 κ2 s.heap l1 l2).objs.size = some _ := Heap.get?_push_size _ rfl
  have g4 : (zE κ1 κ2 s.heap l1 l2).get? (zC κ1 κ2 s.heap l1 l2).objs.size = some _ := Heap.get?_push_of_some _ (Heap.get?_push_size _ rfl)
  have g3 : (zE κ1 κ2 s.heap l1 l2).get? (zB κ1 κ2 s.heap l1 l2).objs.size = some _ := Heap.get?_push_of_some _ (Heap.get?_push_of_some _ (Heap.get?_push_size _ rfl))
  have g2 : (zE κ1 κ2 s.heap l1 l2).get? (zA κ1 s.heap l1).objs.size = some _ := Heap.get?_push_of_some _ (Heap.get?_push_of_some _ (Heap.get?_push_of_some _ (Heap.get?_push_size _ rfl)))
  have g1 : (zE κ1 κ2 s.heap l1 l2).get? s.heap.objs.size = some _ := Heap.get?_push_of_some _ (Heap.get?_push_of_some _ (Heap.get?_push_of_some _ (Heap.get?_push_of_some _ (Heap.get?_push_size _ rfl))))
  show _ ∧ _
  rw [n2, n3, n4] at g5
  rw [n1, n2] at g3
  rw [n3] at g4
  rw [n1] at g2
  rw [n4]
  exact ⟨⟨_, g5, rfl⟩, h _ g5 g3 g4 (ik_new g1) (ik_new g2) fun c o x => Heap.get?_push_of_some _ (Heap.get?_push_of_some _ (Heap.get?_push_of_some _ (Heap.get?_push_of_some _ (Heap.get?_push_of_some _ x))))⟩
end
/-! ### the turns -/
def SqK : Bool → PySem.W.Frag → Hp → Addr → List V → Prop
  | true, K, H, a, xs => SqL K H a xs
  | false, K, H, a, xs => SqT K H a xs
theorem sqk_rd {X : Cx} {pins : List (Addr × Obj)} {σ : L2.St} {H : Hp} {s : Shared} {κ : Bool} {a : Addr} {xs : List V} (I : Inv X pins σ H s) (q : SqK κ X.K H a xs) : ∃ its : List Value, Vals xs its ∧ LK κ s.heap a its.toArray := by
  cases κ
  · obtain ⟨its, r, p, _⟩ := I.tuple q
    exact ⟨its, r, p⟩
  · obtain ⟨its, r, p, _⟩ := I.list q
    exact ⟨its, r, p.isList⟩
theorem sqk_inj {X : Cx} {pins : List (Addr × Obj)} {σ : L2.St} {H : Hp} {s : Shared} {κ : Bool} {a : Addr} {xs ys : List V} (I : Inv X pins σ H s) (q : SqK κ X.K H a xs) (r : SqK κ X.K H a ys) : xs = ys := by
  cases κ
  · exact I.tuple_inj q r
  · exact I.list_inj q r
def ItK (κ1 κ2 : Bool) (K : PySem.W.Frag) (a b : Addr) : It :=
  ⟨fun i H => ∃ (xs ys : List V) (x y : V), SqK κ1 K H a xs ∧ SqK κ2 K H b ys ∧ xs[i]? = some x ∧ ys[i]? = some y,
    fun i H v H' => ∃ T x y, v = .ref T ∧ H T = none ∧ H' = upd H T (.tup [x, y]) ∧ (∀ xs, SqK κ1 K H a xs → xs[i]? = some x) ∧ ∀ ys, SqK κ2 K H b ys → ys[i]? = some y,
    fun i H => ∃ xs ys : List V, SqK κ1 K H a xs ∧ SqK κ2 K H b ys ∧ (xs.length ≤ i ∨ ys.length ≤ i)⟩
theorem turn_K {κ1 κ2 : Bool} {P : Program} {w : World} {K : PySem.W.Frag} {elts : List Expr} {kk : Nat} {tpos : Pos} {a b z TI TO i1 i2 : Addr} (D : ZipApart z TI TO i1 i2 a b) :
    Turn P w K (.Tuple elts kk tpos) (ItK κ1 κ2 K a b) [z, TI, TO, i1, i2] z (fun i h => IsZip h z TI TO .none ∧ IsPair h TI (.ref i1) (.ref i2) ∧ (∃ x y, IsPair h TO x y) ∧ IK κ1 h i1 a i ∧ IK κ2 h i2 b i) where
  mem := by simp
  obj := fun i h st c hc => by
    obtain ⟨hz, hTI, ⟨x, y, hTO⟩, h1, h2⟩ := st
    obtain ⟨o1, e1, d1⟩ := h1.ob
    obtain ⟨o2, e2, d2⟩ := h2.ob
    simp only [List.mem_cons, List.not_mem_nil, or_false] at hc
    rcases hc with rfl | rfl | rfl | rfl | rfl
    · exact ⟨_, hz, fun v q => nomatch q⟩
    · exact ⟨_, hTI, fun v q => nomatch q⟩
    · exact ⟨_, hTO, fun v q => nomatch q⟩
    · exact ⟨o1, e1, fun v q => by rw [d1] at q; cases q⟩
    · exact ⟨o2, e2, fun v q => by rw [d2] at q; cases q⟩
  keep := fun i h h' st k => by
    obtain ⟨hz, hTI, ⟨x, y, hTO⟩, h1, h2⟩ := st
    exact ⟨k z (by simp) _ hz, k TI (by simp) _ hTI, ⟨x, y, k TO (by simp) _ hTO⟩, h1.mv fun o q => k i1 (by simp) o q, h2.mv fun o q => k i2 (by simp) o q⟩
  item := by
    intro X hP hw hK hc i pins s σ H E I hf st hg
    subst hP hw hK
    obtain ⟨hz, hTI, ⟨x0, y0, hTO⟩, h1, h2⟩ := st
    obtain ⟨xs, ys, x, y, qx, qy, hx, hy⟩ := hg
    obtain ⟨its, rv, p⟩ := sqk_rd I qx
    obtain ⟨its2, rv2, p2⟩ := sqk_rd I qy
    obtain ⟨u, hu, ru⟩ := rv.get hx
    obtain ⟨u2, hu2, ru2⟩ := rv2.get hy
    have zl : z < s.heap.objs.size := Heap.lt_size hz
    refine pyN_item D hz hTI hTO h1 h2 p p2 (x := u) (y := u2) (by simpa using hu) (by simpa using hu2) fun h' z' TO' h1' h2' hT hsz hk => ?_
    refine ⟨_, rfl, wpAny_letOwnedTupleGo_zip (s := { s with heap := h' }) z' fun h'' z'' sb => ?_⟩
    have T2 : h''.get? s.heap.objs.size = some { cls := .type "tuple", data := .seq #[u, u2] } := (sb.2 _ (Nat.ne_of_gt zl)).trans hT
    have new : ObjOk X.prog X.w (upd H s.heap.objs.size (.tup [x, y])) h'' s.heap.objs.size (.tup [x, y]) := ⟨by show 2 ≤ sizeLine; decide, [u, u2], .cons ru (.cons ru2 .nil), ⟨_, T2, rfl, _, rfl⟩⟩
    have I1 : Inv X pins σ (upd H s.heap.objs.size (.tup [x, y])) { s with heap := h'' } :=
      I.turnedNew (t' := s.toks) (ch := [z, TI, TO, i1, i2]) (fun c o hb q => (sb.2 c fun e => hb (by simp [e])).trans (hk c o (fun e => hb (by simp [e])) (fun e => hb (by simp [e])) (fun e => hb (by simp [e])) (fun e => hb (by simp [e])) q)) hf (Nat.le_refl _) new
    refine ⟨.ref s.heap.objs.size, _, I1, rfl, ⟨_, x, y, rfl, I.hok.fresh (Nat.le_refl _), rfl, fun l hl => by rw [sqk_inj I hl qx]; exact hx, fun l hl => by rw [sqk_inj I hl qy]; exact hy⟩, ⟨z'', ?_, ⟨u, u2, ?_⟩, ?_, ?_⟩, fun c hcm => ?_⟩
    · exact (sb.2 _ D.TIz).trans (hk _ _ D.TIz D.TITO D.TIi1 D.TIi2 hTI)
    · exact (sb.2 _ D.TOz).trans TO'
    · exact h1'.mv fun o q => (sb.2 _ D.i1z).trans q
    · exact h2'.mv fun o q => (sb.2 _ D.i2z).trans q
    · have lt : c < s.heap.objs.size := by
        simp only [List.mem_cons, List.not_mem_nil, or_false] at hcm
        obtain ⟨o1, e1, _⟩ := h1.ob
        obtain ⟨o2, e2, _⟩ := h2.ob
        rcases hcm with q | q | q | q | q <;> rw [q]
        · exact zl
        · exact Heap.lt_size hTI
        · exact Heap.lt_size hTO
        · exact Heap.lt_size e1
        · exact Heap.lt_size e2
      rw [upd_ne (Nat.ne_of_lt lt)]
      exact (hf c hcm).1
  done := by
    intro X hP hw hK hc i pins s σ H E I hf st hg
    subst hP hw hK
    obtain ⟨hz, hTI, ⟨x0, y0, hTO⟩, h1, h2⟩ := st
    obtain ⟨xs, ys, qx, qy, hend⟩ := hg
    obtain ⟨its, rv, p⟩ := sqk_rd I qx
    obtain ⟨its2, rv2, p2⟩ := sqk_rd I qy
    have n1 := rv.length
    have n2 := rv2.length
    have he : its.toArray[i]? = none ∨ its2.toArray[i]? = none := hend.imp (fun q => by simp; omega) fun q => by simp; omega
    exact pyN_end (I.ok.hd hc) D hz hTI hTO h1 h2 p p2 he fun h' hk => ⟨rfl, I.turnedL (t' := s.toks) (ch := [z, TI, TO, i1, i2]) (fun c o hb q => hk c o (fun e => hb (by simp [e])) (fun e => hb (by simp [e])) (fun e => hb (by simp [e])) (fun e => hb (by simp [e])) q) hf⟩
  self := fun A i s Q E st h => wpAny_pyIter_zip st.1 h
def iZipK (K : PySem.W.Frag) (ta : TA) : TI := fun σ H R => ta σ H fun vs H1 => ∃ a b κ1 κ2 xs ys, vs = [.ref a, .ref b] ∧ SqK κ1 K H1 a xs ∧ SqK κ2 K H1 b ys ∧ R (ItK κ1 κ2 K a b) H1
theorem pi_zipK {X : Cx} {e e2 : Expr} {ta : TA} {p pos tpos : Pos} {elts : List Expr} {kk : Nat} (hg : Gl X "zip") (hm : X.mg "zip" = none) (ha : PA X [e, e2] ta)
    (hs : starEach [e, e2] X.env = (false, eval e X.env) :: starEach [e2] X.env) (hpl : (backTo pos (starEach [e2] X.env)).any (·.1) = false) :
    PI X (.Tuple elts kk tpos) (.Call (.Name "zip" p) [e, e2] [] pos) (iZipK X.K ta) := by
  refine ⟨fun pins s σ H R I h => ?_⟩
  refine Call_ (ld_blt I hg hm PyProof.Rows.boot_zip (PyProof.Rows.callWith_type1 (thn (ha.run pos pins s σ H _ I h) fun us s1 ⟨vs, H1, I1, r1, q1⟩ => ?_) hs hpl))
  obtain ⟨a, b, κ1, κ2, xs, ys, ex, qx, qy, q⟩ := q1
  subst ex
  cases r1 with
  | cons r rr =>
    cases rr with
    | cons r' rr =>
      cases rr
      cases r
      cases r'
      obtain ⟨its, rv, p1⟩ := sqk_rd I1 qx
      obtain ⟨its2, rv2, p2⟩ := sqk_rd I1 qy
      refine zcall p1 p2 fun h' hz hTI hTO h1 h2 hk => wpAny_pyIter_zip hz ?_
      have I2 : Inv X pins σ H1 { s1 with heap := h' } := I1.kept (t' := s1.toks) hk
      refine ⟨s1.heap.objs.size + 4, [s1.heap.objs.size + 4, s1.heap.objs.size + 2, s1.heap.objs.size + 3, s1.heap.objs.size, s1.heap.objs.size + 1], _, _, H1, rfl, I2, turn_K (PySem.W.ktu_apart s1.heap.objs.size a b p1.lt p2.lt), ⟨hz, hTI, ⟨_, _, hTO⟩, h1, h2⟩, fun c hcm => ?_, q⟩
      have le : s1.heap.objs.size ≤ c := by
        simp only [List.mem_cons, List.not_mem_nil, or_false] at hcm
        rcases hcm with q | q | q | q | q <;> rw [q]
        · exact Nat.le_add_right _ _
        · exact Nat.le_add_right _ _
        · exact Nat.le_add_right _ _
        · exact Nat.le_refl _
        · exact Nat.le_add_right _ _
      exact I1.fpOk le (I1.hok.fresh le)
end Mini
end
section
set_option Elab.async false
set_option linter.all false
set_option maxRecDepth 100000
set_option maxHeartbeats 1000000
/-! MiniEnm: enumerate of a sequence that is a list or a tuple. -/
namespace Mini
open PySem PySem.Spec PyProof.Rows L2
open PySem.Sem (wp)
open PySem.AutoSeq1 (wpAny_loadPart')
theorem drawsT {prog : Program} {w : World} {A : Around} (hh : A.handled = none) (it t : Addr) (hne : t ≠ it) (items : Array Value) :
    Draws prog w A it [it, t] items.size (fun i v => items[i]? = some v) (fun i h => h.IsTupleIter it t i ∧ h.IsTuple t items) where
  live := fun _ _ st => let ⟨o, ho, _⟩ := st.1; ⟨o, ho⟩
  frame := fun _ _ _ st hk => ⟨st.1.at fun o e => hk it (by simp) o e, st.2.at fun o e => hk t (by simp) o e⟩
  item := fun i s Q E hi st hQ => RZ.nextOf_tuple_item st.1 st.2 (x := items[i]) (by simp [hi]) fun h' a b => hQ _ h' s.toks (by simp [hi]) ⟨a, st.2.extBut b.extBut hne⟩ b
  done := fun s Q E st hE => RZ.nextOf_tuple_end hh st.1 st.2 (by simp) hE
theorem mk_tuple (l : Addr) (items : Array Value) (n : Nat) (dct : Option Addr) (sl : Array (Option Value)) :
    Meets (Builtin.«enumerate.__new__» ⟨[.type "enumerate", .ref l], []⟩) (fun _ R s => s.heap.get? l = some { cls := .type "tuple", dict := dct, data := .seq items n, slots := sl } ∧
      R (.ok (.ret (.ref (s.heap.push { cls := .type "tuple_iterator", data := .fields #[.ref l, .int 0 0] }).objs.size)))
        { s with heap := (s.heap.push { cls := .type "tuple_iterator", data := .fields #[.ref l, .int 0 0] }).push { cls := .type "enumerate", data := .fields #[.none, .bool false, .ref s.heap.objs.size, rawInt 0, .none, .none] } }) :=
  .of_wp fun prog w A R s h => by
    obtain ⟨hp, g, d, tk, os⟩ := s; obtain ⟨hl, h⟩ := h
    have hsub := sub_enumerate
    have hT : Heap.IsTuple (Shared.heap ⟨hp, g, d, tk, os⟩) l items := ⟨_, hl, rfl, n, rfl⟩
    wp_walk using wpAny_loadPart' hl
    refine wpAny_stack_any fun st => wpAny_pure ?_
    split
    · rename_i c _ _ _ _ _
      cases (c == Value.type "enumerate")
      · wp_walk using wpAny_loadPart' hl, wpAny_pyIter_tuple hT
        exact ⟨_, rfl, h⟩
      · wp_walk using wpAny_loadPart' hl, wpAny_pyIter_tuple hT
        exact ⟨_, rfl, h⟩
    · wp_walk using wpAny_loadPart' hl, wpAny_pyIter_tuple hT
      exact ⟨_, rfl, h⟩
section
variable {prog : Program} {w : World} {A : Around} {E : Value → Shared → Prop} {s : Shared}
theorem call_enumT {l : Addr} {items : Array Value} {Q : Value → Shared → Prop} (hT : s.heap.IsTuple l items)
    (q : ∀ h', IsEnum h' (s.heap.objs.size + 1) s.heap.objs.size 0 .none → h'.IsTupleIter s.heap.objs.size l 0 →
      (∀ b o, s.heap.get? b = some o → h'.get? b = some o) → Q (.ref (s.heap.objs.size + 1)) { s with heap := h' }) :
    wpAny (model prog w) A (call (.type "enumerate") [.ref l]) Q E s := by
  obtain ⟨⟨c, dct, dt, sl⟩, hl, hc, n, hd⟩ := hT
  simp only at hc hd
  subst hc hd
  refine callType_new F.called_enumerate (by decide) (F.typeCall_enumerate_1 _) (F.newCall_enumerate_1 _) (fun obj => F.args_object_init_2 obj _) F.entry_enumerate_new (mk_tuple l items n dct sl) ⟨hl, ?_⟩
  have z : (s.heap.push { cls := .type "tuple_iterator", data := .fields #[.ref l, .int 0 0] }).objs.size = s.heap.objs.size + 1 := Heap.size_push ..
  show _ ∧ _
  rw [z]
  have he : IsEnum ((s.heap.push { cls := .type "tuple_iterator", data := .fields #[.ref l, .int 0 0] }).push { cls := .type "enumerate", data := .fields #[.none, .bool false, .ref s.heap.objs.size, rawInt 0, .none, .none] }) (s.heap.objs.size + 1) s.heap.objs.size 0 .none := by
    have a := Heap.get?_push_size (s.heap.push { cls := .type "tuple_iterator", data := .fields #[.ref l, .int 0 0] }) (o := { cls := .type "enumerate", data := .fields #[.none, .bool false, .ref s.heap.objs.size, rawInt 0, .none, .none] }) rfl
    rw [z] at a; exact a
  exact ⟨⟨_, he, rfl⟩, q _ he ⟨_, Heap.get?_push_of_some _ (Heap.get?_push_size _ rfl), rfl, rfl⟩ fun b o x => Heap.get?_push_of_some _ (Heap.get?_push_of_some _ x)⟩
theorem call_enumK {κ : Bool} {l : Addr} {items : Array Value} {Q : Value → Shared → Prop} (hl : LK κ s.heap l items)
    (q : ∀ h', IsEnum h' (s.heap.objs.size + 1) s.heap.objs.size 0 .none → IK κ h' s.heap.objs.size l 0 →
      (∀ b o, s.heap.get? b = some o → h'.get? b = some o) → Q (.ref (s.heap.objs.size + 1)) { s with heap := h' }) :
    wpAny (model prog w) A (call (.type "enumerate") [.ref l]) Q E s := by
  cases κ
  · exact call_enumT hl q
  · exact call_enumerate_list hl fun h' a b _ c => q h' a b c
theorem enum_itemK {κ : Bool} {e it l : Addr} {i : Nat} {items : Array Value} {x old : Value} {Q : Option Value → Shared → Prop} (hh : A.handled = none)
    (he : IsEnum s.heap e it i old) (hit : IK κ s.heap it l i) (hl : LK κ s.heap l items) (hx : items[i]? = some x) (hne : e ≠ it) (hil : l ≠ it)
    (hQ : ∀ h' tk, IsEnumOut h' e it ((i : Int) + 1) x s.heap.objs.size → IK κ h' it l (i + 1) →
      h'.get? s.heap.objs.size = some { cls := .type "tuple", data := .seq #[.int i tk, x] } →
      (∀ b o, b ≠ e → b ≠ it → s.heap.get? b = some o → h'.get? b = some o) → Q (some (.ref s.heap.objs.size)) { s with heap := h', toks := tk + 1 }) :
    wpAny (model prog w) A (pyNext (.ref e)) Q E s := by
  cases κ
  · have hel : e ≠ l := fun z => by
      subst z
      obtain ⟨o, ho, hc, _⟩ := hl
      have : some _ = some o := he.symm.trans ho
      cases this
      exact absurd (Value.type.inj hc) (by decide)
    refine wpAny_pyNext_enum_itemD (drawsT (A := A.in1) hh it l hil items) he ⟨hit, hl⟩ (by have := Array.getElem?_eq_some_iff.mp hx; exact this.1) hne (by simp [hne, hel]) fun y h' tk hy a b c _ k => ?_
    have : x = y := Option.some.inj (hx.symm.trans hy)
    subst this
    exact hQ h' tk a b.1 c k
  · exact wpAny_pyNext_enum_item he hit hl hx hne fun h' a b c _ k => hQ h' s.toks a b c k
theorem enum_endK {κ : Bool} {e it l : Addr} {i : Nat} {items : Array Value} {old : Value} {Q : Option Value → Shared → Prop} (hh : A.handled = none)
    (he : IsEnum s.heap e it i old) (hit : IK κ s.heap it l i) (hl : LK κ s.heap l items) (hx : items[i]? = none)
    (hQ : ∀ h', Heap.ExtBut it s.heap h' → Q none { s with heap := h' }) : wpAny (model prog w) A (pyNext (.ref e)) Q E s := by
  have hT : s.TypeIs (.ref e) "enumerate" := ⟨_, he, rfl⟩
  unfold pyNext
  refine wpAny_bind (wpAny_attempt (wpAny_callSpecial?_slot (name := Str.ofString "__next__") hT F.slot_enumerate_next (wpAny_call_entry F.slot_enumerate_next hT F.entry_enumerate_next ?_ (F.args_enumerate_next_1 _))))
  show wpAny _ _ (field (.ref e) 2 >>= _) _ _ _
  refine wpAny_bind (wpAny_field he rfl (x := .ref it) rfl ?_)
  refine wpAny_bind (nx_end hh hit hl hx fun h' x a b => ?_)
  obtain ⟨o, ho, hc⟩ := b
  refine wpAny_bind (wpAny_isInstance (T := "StopIteration") (b := true) ⟨o, ho, hc⟩ isSubtype_stop ?_)
  exact wpAny_pure (hQ _ a)
end
/-- the sequence at a as it stands at each turn, each item in a new pair -/
def IteK (κ : Bool) (K : PySem.W.Frag) (a : Addr) : It :=
  ⟨fun i H => ∃ (xs : List V) (x : V), SqK κ K H a xs ∧ xs[i]? = some x, fun i H v H' => ∃ T x, v = .ref T ∧ H T = none ∧ H' = upd H T (.tup [.int (i : Nat), x]) ∧ ∀ xs, SqK κ K H a xs → xs[i]? = some x, fun i H => ∃ xs : List V, SqK κ K H a xs ∧ xs.length ≤ i⟩
theorem turn_enumK {P : Program} {w : World} {K : PySem.W.Frag} {elts : List Expr} {kk : Nat} {tpos : Pos} {κ : Bool} (a e it : Addr) :
    Turn P w K (.Tuple elts kk tpos) (IteK κ K a) [e, it] e (fun i h => (∃ old, IsEnum h e it ((i : Nat) : Int) old) ∧ IK κ h it a i ∧ e ≠ it ∧ a ≠ it) where
  mem := by simp
  obj := fun i h st b hb => by
    obtain ⟨⟨old, he⟩, hi, _⟩ := st
    obtain ⟨o, ho, hd⟩ := hi.ob
    simp only [List.mem_cons, List.not_mem_nil, or_false] at hb
    rcases hb with rfl | rfl
    · exact ⟨_, he, fun v q => nomatch q⟩
    · exact ⟨o, ho, fun v q => by rw [hd] at q; cases q⟩
  keep := fun i h h' st k => let ⟨⟨old, he⟩, hi, hne⟩ := st; ⟨⟨old, k e (by simp) _ he⟩, hi.mv fun o q => k it (by simp) o q, hne⟩
  item := by
    intro X hP hw hK hc i pins s σ H E I hf st hg
    subst hP hw hK
    obtain ⟨⟨old, he⟩, hit, hne, hai⟩ := st
    obtain ⟨xs, x, hq, hx⟩ := hg
    obtain ⟨its, rv, p⟩ := sqk_rd I hq
    obtain ⟨u, hu, ru⟩ := rv.get hx
    have el : e < s.heap.objs.size := Heap.lt_size he
    have il : it < s.heap.objs.size := by obtain ⟨_, q, _⟩ := hit.ob; exact Heap.lt_size q
    refine enum_itemK (I.ok.hd hc) he hit p (x := u) (by simpa using hu) hne hai fun h' tk ho hit' hT hk => ?_
    refine ⟨_, rfl, wpAny_letOwnedTupleGo_enum (s := { s with heap := h', toks := tk + 1 }) ho fun h'' he' sb => ?_⟩
    have T2 : h''.get? s.heap.objs.size = some { cls := .type "tuple", data := .seq #[.int i tk, u] } := (sb.2 _ (Nat.ne_of_gt el)).trans hT
    have new : ObjOk X.prog X.w (upd H s.heap.objs.size (.tup [.int (i : Nat), x])) h'' s.heap.objs.size (.tup [.int (i : Nat), x]) :=
      ⟨by show 2 ≤ sizeLine; decide, [.int i tk, u], .cons ⟨_, rfl⟩ (.cons ru .nil), ⟨_, T2, rfl, _, rfl⟩⟩
    have I1 : Inv X pins σ (upd H s.heap.objs.size (.tup [.int (i : Nat), x])) { s with heap := h'', toks := tk + 1 } :=
      I.turnedNew (ch := [e, it]) (fun b ob hb q => (sb.2 b fun z => hb (by simp [z])).trans (hk b ob (fun z => hb (by simp [z])) (fun z => hb (by simp [z])) q)) hf (Nat.le_refl _) new
    refine ⟨.ref s.heap.objs.size, _, I1, rfl, ⟨_, x, rfl, I.hok.fresh (Nat.le_refl _), rfl, fun ys hy => by rw [sqk_inj I hy hq]; exact hx⟩, ⟨⟨u, ?_⟩, hit'.mv fun o q => (sb.2 it (Ne.symm hne)).trans q, hne, hai⟩, fun b hb => ?_⟩
    · have e1 : ((i + 1 : Nat) : Int) = (i : Int) + 1 := by omega
      rw [e1]; exact he'
    · have lt : b < s.heap.objs.size := by
        simp only [List.mem_cons, List.not_mem_nil, or_false] at hb
        rcases hb with q | q <;> rw [q]
        · exact el
        · exact il
      rw [upd_ne (Nat.ne_of_lt lt)]
      exact (hf b hb).1
  done := by
    intro X hP hw hK hc i pins s σ H E I hf st hg
    subst hP hw hK
    obtain ⟨⟨old, he⟩, hit, hne, hai⟩ := st
    obtain ⟨xs, hq, hx⟩ := hg
    obtain ⟨its, rv, p⟩ := sqk_rd I hq
    obtain ⟨f0, f1, f2, f3, f4, f5⟩ := hf it (by simp)
    have hl := rv.length
    exact enum_endK (I.ok.hd hc) he hit p (by simp; omega) fun h' eb => ⟨rfl, I.turned (t' := s.toks) (fun b o hb q => eb b o hb q) f0 f1 f3 f4 f5⟩
  self := fun A i s Q E st h => let ⟨⟨_, he⟩, _⟩ := st; wpAny_pyIter_enum he h
def iEnumK (K : PySem.W.Frag) (ta : TA) : TI := fun σ H R => ta σ H fun vs H1 => ∃ a κ xs, vs = [.ref a] ∧ SqK κ K H1 a xs ∧ R (IteK κ K a) H1
theorem pi_enumK {X : Cx} {e : Expr} {ta : TA} {p pos tpos : Pos} {elts : List Expr} {kk : Nat} (hg : Gl X "enumerate") (hm : X.mg "enumerate" = none) (ha : PA X [e] ta) (hs : starEach [e] X.env = [(false, eval e X.env)]) :
    PI X (.Tuple elts kk tpos) (.Call (.Name "enumerate" p) [e] [] pos) (iEnumK X.K ta) := by
  refine ⟨fun pins s σ H R I h => ?_⟩
  refine Call_ (ld_blt I hg hm PyProof.Rows.boot_enumerate (PyProof.Rows.callWith_type1 (thn (ha.run pos pins s σ H _ I h) fun us s1 ⟨vs, H1, I1, r1, q1⟩ => ?_) hs rfl))
  obtain ⟨a, κ, xs, ex, hq, q⟩ := q1
  subst ex
  cases r1 with
  | cons r rr =>
    cases rr
    cases r
    obtain ⟨its, rv, p'⟩ := sqk_rd I1 hq
    refine call_enumK p' fun h' he hit hk => wpAny_pyIter_enum he ?_
    have I2 : Inv X pins σ H1 { s1 with heap := h' } := I1.kept (t' := s1.toks) hk
    refine ⟨s1.heap.objs.size + 1, [s1.heap.objs.size + 1, s1.heap.objs.size], _, _, H1, rfl, I2, turn_enumK a (s1.heap.objs.size + 1) s1.heap.objs.size, ⟨⟨.none, he⟩, hit, Nat.succ_ne_self _, Nat.ne_of_lt p'.lt⟩, fun b hb => ?_, q⟩
    have le : s1.heap.objs.size ≤ b := by
      simp only [List.mem_cons, List.not_mem_nil, or_false] at hb
      rcases hb with q | q <;> rw [q]
      · exact Nat.le_add_right _ _
      · exact Nat.le_refl _
    exact I1.fpOk le (I1.hok.fresh le)
end Mini
end
section
set_option Elab.async false
set_option linter.all false
set_option maxRecDepth 100000
/-! Mini: which text a term is of. -/
namespace Mini
open PySem PySem.Spec PyProof.Rows L2

structure Sc where
  N : List Str
  sc : Scope
  fn : Bool
  blt : List String
  cons : List (String × PyData)
  fns : List String
  exc : List (String × List String) := []
  exm : List (String × String × Bool) := []
  iso : List (String × String × Bool) := []
  exf : List (String × List String) := []
def nm (x : String) : Str := Str.ofString x
def plainE : Expr → Bool
  | .Starred .. => false
  | _ => true
def plainT : Expr → Bool
  | .UnaryOp .Not _ _ => false
  | .BoolOp .. => false
  | .IfExp .. => false
  | .Compare .. => false
  | _ => true
def plainI : Expr → Bool
  | .Slice .. => false
  | _ => true
def compE : Expr → Bool
  | .ListComp .. => true
  | .SetComp .. => true
  | .DictComp .. => true
  | _ => false
def setE : Expr → Bool
  | .Set .. => true
  | _ => false
def dbgB (x : Str) : Bool := (x == ("__debug__" : Str)) || (x == ("__classdict__" : Str)) || (x == ("__name__" : Str))
def visB (S : Sc) (i : Nat) (x : Str) : Bool := decide (S.N[i]? = some x) && (match S.sc.names.lookup x with
  | some .local => true
  | some .cell => true
  | some .free => true
  | _ => false) && !dbgB x
def stB (S : Sc) (i : Nat) (x : Str) : Bool := decide (S.N[i]? = some x) && (match S.sc.names.lookup x with
  | some .local => true
  | some .cell => S.fn
  | _ => false)
def glB (S : Sc) (x : Str) : Bool := (match S.sc.names.lookup x with
  | some .globalImplicit => true
  | _ => false) && !dbgB x
def bltB (S : Sc) (b : String) (x : Str) : Bool := decide (x = nm b) && glB S x && S.blt.contains b
def cstB (c : PyData) (k : Const) : Bool := match c, k with
  | .none, .none => true
  | .bool a, .bool b => decide (a = b)
  | .int a, .int b => decide (a = b)
  | .str a, .str b => decide (a = b)
  | _, _ => false
mutual
def scalB : PyData → Bool
  | .none => true
  | .bool _ => true
  | .int _ => true
  | .str _ => true
  | .tuple xs => scalA xs
  | _ => false
def scalA : List PyData → Bool
  | [] => true
  | x :: xs => scalB x && scalA xs
end
mutual
def sameC : PyData → PyData → Bool
  | .none, .none => true
  | .bool a, .bool b => decide (a = b)
  | .int a, .int b => decide (a = b)
  | .str a, .str b => decide (a = b)
  | .tuple a, .tuple b => sameA a b
  | _, _ => false
def sameA : List PyData → List PyData → Bool
  | [], [] => true
  | x :: xs, y :: ys => sameC x y && sameA xs ys
  | _, _ => false
end
def conB (S : Sc) (g : String) (c : PyData) : Bool := S.cons.any fun q => decide (q.1 = g) && sameC q.2 c
/-- what a test may be -/
def okT : MX → Bool
  | .ite .. => false
  | .nott a => okT a
  | .andd a b => okT a && okT b
  | .orr a b => okT a && okT b
  | _ => true
def tgN (S : Sc) : List Nat → List Expr → Bool
  | [], [] => true
  | i :: is, .Name x _ :: es => stB S i x && tgN S is es
  | _, _ => false
def kTg (tg : MTg) (S : Sc) (e : Expr) : Bool := match tg, e with
  | .one i, .Name x _ => stB S i x
  | .tup is, .Tuple es _ _ => tgN S is es
  | _, _ => false
def tgIn (own : List (String × Nat)) : MTg → Bool
  | .one i => (own.map (·.2)).contains i
  | .tup is => is.all fun i => (own.map (·.2)).contains i
def ownS (own : List (String × Nat)) : List (Str × Nat) := own.map fun q => (nm q.1, q.2)
def foldT : Expr → Bool
  | .Tuple vs _ _ => vs.all (foldedForSure 8)
  | _ => true
/-- a target that lies in a cell: no stores change places -/
def cellT (S : Sc) : List Expr → Bool
  | [] => false
  | .Name x _ :: es => (match S.sc.names.lookup x with | some .local => false | _ => true) || cellT S es
  | _ :: es => cellT S es
def tupT : Expr → Bool
  | .Tuple .. => true
  | _ => false

/-- a display's keys: texts and numbers as written -/
def kKeys : List PyData → List (Option Expr) → Bool
  | [], [] => true
  | k :: ks, some (.Constant c _ _) :: es => flatK k && cstB k c && kKeys ks es
  | _, _ => false
mutual
def kX : MX → Sc → Expr → Bool
  | .var i, S, e => (match e with | .Name x _ => visB S i x | _ => false)
  | .cst c, _, e => (match e with | .Constant k _ _ => cstB c k | _ => false)
  | .glo g c, S, e => (match e with | .Name x _ => decide (x = nm g) && glB S x && conB S g c && scalB c | _ => false)
  | .bin op a b, S, e => (match e with | .BinOp l o r _ => decide (o = opE op) && kX a S l && kX b S r | _ => false)
  | .neg a, S, e => (match e with | .UnaryOp .USub x _ => kX a S x | _ => false)
  | .nott a, S, e => (match e with | .UnaryOp .Not x _ => kX a S x && okT a | _ => false)
  | .andd a b, S, e => (match e with
      | .BoolOp .And (e1 :: e2 :: es) pos => kX a S e1 && okT a && okT b && (match es with | [] => kX b S e2 | _ :: _ => kX b S (.BoolOp .And (e2 :: es) pos))
      | _ => false)
  | .orr a b, S, e => (match e with
      | .BoolOp .Or (e1 :: e2 :: es) pos => kX a S e1 && okT a && okT b && (match es with | [] => kX b S e2 | _ :: _ => kX b S (.BoolOp .Or (e2 :: es) pos))
      | _ => false)
  | .cmp op a b, S, e => (match e with | .Compare l [o] [r] _ => decide (o = cmpE op) && kX a S l && kX b S r && !behindInMarks o r | _ => false)
  | .chn op op' a b c, S, e => (match e with | .Compare l [o, o'] [r, r'] _ => decide (o = cmpE op) && decide (o' = cmpE op') && kX a S l && kX b S r && kX c S r' && !lastMarks [o, o'] [r, r'] | _ => false)
  | .isC neg a c, S, e => (match e with
      | .Compare l [o] [.Constant k _ _] _ => decide (o = if neg then CmpOp.IsNot else CmpOp.Is) && kX a S l && cstB c k && (match c with | .none => true | .bool _ => true | _ => false)
      | _ => false)
  | .ite c a b, S, e => (match e with | .IfExp t x y _ => kX c S t && okT c && kX a S x && kX b S y | _ => false)
  | .tup xs, S, e => (match e with | .Tuple es _ _ => kXs xs S es && decide (es.length ≤ 10000) | _ => false)
  | .lst xs, S, e => (match e with | .List es _ => kXs xs S es && decide (es.length ≤ 10000) | _ => false)
  | .frz a, S, e => plainT e && kX a S e
  | .ix a i, S, e => (match e with | .Subscript l r _ => plainI r && kX a S l && kX i S r | _ => false)
  | .maxD a d, S, e => (match e with | .Call (.Name x _) [e1] [⟨some k, .Constant (.int j) _ _, _⟩] _ => bltB S "max" x && plainE e1 && kX a S e1 && decide (k = nm "default") && decide (j = d) | _ => false)
  | .pick xs i, S, e => (match e with | .Subscript (.List es _) r _ => plainI r && kXs xs S es && kX i S r && decide (es.length ≤ 10000) | _ => false)
  | .sl a lo hi, S, e => (match e with | .Subscript l (.Slice l' h' none _) _ => kX a S l && kO lo S l' && kO hi S h' | _ => false)
  | .alt k a, S, e => (match e with | .Subscript l (.Slice (some (.Constant (.int i) _ _)) none (some (.Constant (.int j) _ _)) _) _ => decide (i = (k : Int)) && decide (j = 2) && kX a S l | _ => false)
  | .revL a, S, e => (match e with | .Subscript l (.Slice none none (some (.UnaryOp .USub (.Constant (.int i) _ _) _)) _) _ => decide (i = 1) && kX a S l | _ => false)
  | .rgv t xs, S, e => (match e with
      | .Call (.Name x _) [.Call (.Name y _) es [] _] [] _ => bltB S (if t then "tuple" else "list") x && bltB S "range" y && kXs xs S es && (decide (1 ≤ es.length) && decide (es.length ≤ 2))
      | _ => false)
  | .call f xs, S, e => (match e with | .Call (.Name x _) es [] _ => decide (x = nm f) && glB S x && kXs xs S es && S.fns.contains f | _ => false)
  | .blt b xs, S, e => (match e with | .Call (.Name x _) (e1 :: es) [] _ => bltB S (bltN b) x && kXs xs S (e1 :: es) | _ => false)
  | .isi a t, S, e => (match e with | .Call (.Name x _) [e1, .Name y _] [] _ => bltB S "isinstance" x && bltB S (tyN t) y && plainE e1 && kX a S e1 | _ => false)
  | .mth m o xs, S, e => (match e with
      | .Call (.Attribute (.Name y yp) n apos) es [] cpos => decide (n = nm (mthN m)) && kX o S (.Name y yp) && kXs xs S es && (apos.endLine == cpos.line) && decide (es.length ≤ 1)
      | _ => false)
  | .lenSet a, S, e => (match e with | .Call (.Name x _) [.Call (.Name y _) [e1] [] _] [] _ => bltB S "len" x && bltB S "set" y && plainE e1 && kX a S e1 | _ => false)
  | .srtSet a, S, e => (match e with | .Call (.Name x _) [.Call (.Name y _) [e1] [] _] [] _ => bltB S "sorted" x && bltB S "set" y && plainE e1 && kX a S e1 | _ => false)
  | .dnew _, _, e => (match e with | .Dict [] [] _ => true | _ => false)
  | .dlit ks xs, S, e => (match e with | .Dict keys values _ => kKeys ks keys && kXs xs S values && decide (values.length ≤ 15) && !keys.isEmpty && decide (keys.length = values.length) | _ => false)
  | .dgetD o k x, S, e => (match e with
      | .Call (.Attribute (.Name y yp) n apos) [e1, e2] [] cpos => decide (n = nm "get") && kX o S (.Name y yp) && plainE e1 && plainE e2 && kX k S e1 && kX x S e2 && (apos.endLine == cpos.line)
      | _ => false)
  | .idxOf o x, S, e => (match e with
      | .Call (.Attribute (.Name y yp) n apos) [e1] [] cpos => decide (n = nm "index") && kX o S (.Name y yp) && plainE e1 && kX x S e1 && (apos.endLine == cpos.line)
      | _ => false)
  | .lc elt tg it cond own, S, e => (match e with
      | .ListComp e1 [⟨t, i, ifs, a⟩] scope _ => decide (a = 0) && kI it S t i && !setE i && blkC S.N S.sc scope (ownS own) && kTg tg { S with sc := relS scope S.sc, fn := false } t && tgIn own tg &&
          kT cond { S with sc := relS scope S.sc, fn := false } ifs && kX elt { S with sc := relS scope S.sc, fn := false } e1
      | _ => false)
def kXs : MXs → Sc → List Expr → Bool
  | .nil, _, es => es.isEmpty
  | .cons x xs, S, es => (match es with | e :: es => plainE e && kX x S e && kXs xs S es | [] => false)
def kO : MXs → Sc → Option Expr → Bool
  | .nil, _, e => e.isNone
  | .cons x xs, S, e => (match e with | some e => kX x S e && (match xs with | .nil => true | _ => false) | none => false)
def kT : MXs → Sc → List Expr → Bool
  | .nil, _, es => es.isEmpty
  | .cons x xs, S, es => (match es with | [e] => kX x S e && okT x && (match xs with | .nil => true | _ => false) | _ => false)
def kI : MI → Sc → Expr → Expr → Bool
  | .seq a, S, _, e => kX a S e
  | .rng xs, S, _, e => (match e with | .Call (.Name x _) es [] _ => bltB S "range" x && kXs xs S es && decide (1 ≤ es.length) && decide (es.length ≤ 3) | _ => false)
  | .rev a, S, _, e => (match e with | .Call (.Name x _) [e1] [] _ => bltB S "reversed" x && plainE e1 && kX a S e1 | _ => false)
  | .rrg xs, S, _, e => (match e with | .Call (.Name x _) [.Call (.Name y _) es [] _] [] _ => bltB S "reversed" x && bltB S "range" y && kXs xs S es && decide (1 ≤ es.length) && decide (es.length ≤ 2) | _ => false)
  | .enm a, S, t, e => (match e with | .Call (.Name x _) [e1] [] _ => bltB S "enumerate" x && plainE e1 && kX a S e1 && tupT t | _ => false)
  | .zip a b, S, t, e => (match e with | .Call (.Name x _) [e1, e2] [] _ => bltB S "zip" x && plainE e1 && plainE e2 && kX a S e1 && kX b S e2 && tupT t | _ => false)
end
/-- whether a comprehension's variables and the target change places -/
def swB (S : Sc) (x : Str) (p : Pos) (e : Expr) : Option Bool := match e with
  | .ListComp _ _ scope pos => if (match S.sc.names.lookup x with | some .local => true | _ => false) && (p.line == pos.line) && !(scope.names.any fun q => q.1 == x && (q.2 == .local || q.2 == .cell)) then some true else some false
  | _ => some false
/-! clauses with a name: the slot j holds the refusal, cs the classes that may come -/
def kCl (S : Sc) (cs : List String) (q : String × Bool) (e : Expr) : Bool := match e with
  | .Name x _ => decide (x = nm q.1) && (if q.1 = "ValueError" then bltB S "ValueError" x else glB S x) && cs.all fun z => S.iso.any fun w => decide (w = (z, q.1, hqV z q))
  | _ => false
def kCls (S : Sc) (cs : List String) : List (String × Bool) → List Expr → Bool
  | [], es => es.isEmpty
  | q :: qs, es => (match es with | e :: es => kCl S cs q e && kCls S cs qs es | [] => false)
def kHc (S : Sc) (cs : List String) (j : Nat) : MHc → Expr → Bool
  | .one q, e => (match e with | .Call (.Name x _) [.Name y _, e2] [] _ => bltB S "isinstance" x && visB S j y && kCl S cs q e2 | _ => false)
  | .any qs, e => (match e with | .Call (.Name x _) [.Name y _, .Tuple es _ _] [] _ => bltB S "isinstance" x && visB S j y && kCls S cs qs es && decide (es.length ≤ 100) | _ => false)
  | .nt c, e => (match e with | .UnaryOp .Not t _ => kHc S cs j c t | _ => false)
  | .and a b, e => (match e with | .BoolOp .And [s, t] _ => kHc S cs j a s && kHc S cs j b t | _ => false)
def kHa (S : Sc) (cs : List String) (j : Nat) : MHa → Expr → Bool
  | .cst c, e => (match e with | .Constant k _ _ => cstB c k | _ => false)
  | .fld f, e => (match e with | .Attribute (.Name y _) z _ => visB S j y && decide (z = nm f) && cs.all fun q => S.exf.any fun w => decide (w.1 = q) && w.2.contains f | _ => false)
def kHas (S : Sc) (cs : List String) (j : Nat) : List MHa → List Expr → Bool
  | [], es => es.isEmpty
  | a :: as, es => (match es with | e :: es => kHa S cs j a e && kHas S cs j as es | [] => false)
def kHv (S : Sc) (cs : List String) (j : Nat) : MHv → Expr → Bool
  | .one a, e => kHa S cs j a e
  | .tup as, e => (match e with | .Tuple es _ _ => kHas S cs j as es && decide (es.length ≤ 100) | _ => false)
def kHs (S : Sc) (cs : List String) (j : Nat) : MHs → List Stmt → Bool
  | .nil, ss => ss.isEmpty
  | .set i v r, ss => (match ss with
      | s :: ss => (match s with | .Assign [.Name y _] e _ => stB S i y && decide (i ≠ j) && kHv S cs j v e && !compE e | _ => false) && kHs S cs j r ss
      | [] => false)
  | .iff c b r, ss => (match ss with
      | s :: ss => (match s with | .If t x [] _ => kHc S cs j c t && kHs S cs j b x | _ => false) && kHs S cs j r ss
      | [] => false)
mutual
def kS : MS → Sc → Stmt → Bool
  | .ex a, S, s => (match s with | .Expr e _ => kX a S e && !compE e | _ => false)
  | .set i a, S, s => (match s with | .Assign [.Name x p] e pos => stB S i x && kX a S e && S.fn | _ => false)
  | .setT is a, S, s => (match s with | .Assign [.Tuple es _ _] e _ => tgN S is es && kX a S e && !compE e && (foldT e || cellT S es) | _ => false)
  | .par i j a b, S, s => (match s with
      | .Assign [.Tuple [.Name x px, .Name y py] _ _] (.Tuple [e1, e2] _ _) _ => stB S i x && stB S j y && (match S.sc.names.lookup x, S.sc.names.lookup y with | some .local, some .local => true | _, _ => false) && decide (i ≠ j) &&
          plainE e1 && plainE e2 && kX a S e1 && kX b S e2 && (px.line == py.line) && !(foldedForSure 8 e1 && foldedForSure 8 e2) && !(constantsAlone 8 e1 && constantsAlone 8 e2)
      | _ => false)
  | .setI o i a, S, s => (match s with | .Assign [.Subscript o' i' _] e _ => kX o S o' && kX i S i' && plainI i' && kX a S e && !compE e | _ => false)
  | .aug i op a, S, s => (match s with | .AugAssign (.Name x _) o e _ => stB S i x && decide (o = opE op) && kX a S e && (match op with | .add => true | .mul => false | .sub => true | _ => false) | _ => false)
  | .augI o i op a, S, s => (match s with | .AugAssign (.Subscript o' i' _) p e _ => kX o S o' && kX i S i' && plainI i' && decide (p = opE op) && kX a S e && (match op with | .add => true | .mul => false | .sub => true | _ => false) | _ => false)
  | .ret a, S, s => (match s with | .Return (some e) _ => kX a S e | _ => false)
  | .retN, _, s => (match s with | .Return none _ => true | _ => false)
  | .iff c a b, S, s => (match s with | .If t x y _ => kX c S t && okT c && kSs a S x && kSs b S y | _ => false)
  | .whl _ c b, S, s => (match s with | .While t x [] _ => kX c S t && okT c && kSs b S x | _ => false)
  | .forr _ tg it b, S, s => (match s with | .For t i x [] _ => kI it S t i && !setE i && kTg tg S t && kSs b S x | _ => false)
  | .pass, _, s => (match s with | .Pass _ => true | _ => false)
  | .brk, _, s => (match s with | .Break _ => true | _ => false)
  | .cont, _, s => (match s with | .Continue _ => true | _ => false)
  | .stuck, _, _ => true
  | .raise C fs xs, S, s => (match s with
      | .Raise (some (.Call (.Name x _) (e :: es) [] _)) none _ => decide (x = nm C) && glB S x && S.exc.any (fun q => decide (q = (C, fs))) && plainE e && es.all plainE && kXs xs S (e :: es)
      | _ => false)
  | .tryy b all C cs hd, S, s => (match s, hd with
      | .Try body [.ExceptHandler (some (.Name x _)) none [.Assign [.Name y _] (.Constant k _ _) _] _] [] [] _, .set i c => decide (x = nm C) && glB S x && S.fn && stB S i y && cstB c k && kSs b S body && !cs.isEmpty && cs.all fun d => S.exm.any fun q => decide (q = (d, C, (all || d == C)))
      | .Try body [.ExceptHandler (some (.Name x _)) (some n) (s0 :: suite) _] [] [] _, .named j hb => decide (x = nm C) && glB S x && S.fn && decide (S.N[j]? = some n) && (match S.sc.names.lookup n with | some .local => true | _ => false) && cs.all (fun q => S.exf.any fun w => decide (w.1 = q)) && kHs S cs j hb (s0 :: suite) && kSs b S body && !cs.isEmpty && cs.all fun d => S.exm.any fun q => decide (q = (d, C, (all || d == C)))
      | _, _ => false)
def kSs : MSs → Sc → List Stmt → Bool
  | .nil, _, ss => ss.isEmpty
  | .cons x xs, S, ss => (match ss with | s :: ss => kS x S s && kSs xs S ss | [] => false)
end
end Mini
end
section
set_option Elab.async false
set_option linter.all false
set_option maxRecDepth 100000
set_option maxHeartbeats 4000000
/-! Mini: refusals of the text's own: how one is made. -/
namespace Mini
open PySem PySem.Spec PyProof.Rows L2
section
variable {X : Cx} {e : Expr} {es : List Expr} {ta : TA} {p1 p2 pos : Pos}
/-- the base's own making, called by the base's name -/
theorem pe_oinit {x : Str} {B : Addr} {pl : Sem Bool} (hg : Gl X x) (hm : X.mg x = some (.ref B)) (hdb : (x == ("__debug__" : Str)) = false)
    (ga : PySem.W.specialIn X.K (.ref B) "__getattribute__" = some (some (.builtin "type.__getattribute__"))) (rd : PySem.W.readsIn X.K B (.type "type") = true)
    (vV : PySem.W.findCls X.K (.ref B) (.type "type") "__init__" = some (.val (.builtin "ValueError.__init__"))) (ha : PA X (e :: es) ta)
    (hc : eval (.Call (.Attribute (.Name x p1) "__init__" p2) (e :: es) [] pos) X.env = (do let ov ← eval (.Name x p1) X.env; standAt p2.atName; let (f, first) ← holding [ov] (getMethod ov "__init__" pl); callWith pos f first (backTo pos (starEach (e :: es) X.env)) (backToKw pos (keywordEach [] X.env))))
    (he : starEach (e :: es) X.env = (false, eval e X.env) :: starEach es X.env) (hpl : (backTo pos (starEach es X.env)).any (·.1) = false) :
    PE X (.Call (.Attribute (.Name x p1) "__init__" p2) (e :: es) [] pos) (tVeI X.K ta) := by
  refine ⟨fun pins s σ H Q I h => ?_⟩
  refine PySem.W.methodCall_KW (ld_glob I hg hm ?_ hdb) hc
  refine PySem.W.method_cls I.kIn ga (PySem.W.cls_value I.kIn rd vV (by decide +kernel) ?_)
  show wpAny _ _ (callWith pos (Value.builtin "ValueError.__init__") [] (backTo pos (starEach (e :: es) X.env)) []) _ _ _
  refine PyProof.Rows.callWith_method1 (thn (ha.run pos pins _ σ H _ (I.tok _) h) fun us s1 ⟨vs, H1, I1, r1, a, C, ws, ev, hl, T, ea, q⟩ => ?_) he hpl
  subst ev
  cases r1 with
  | @cons _ u0 _ ur ra rw' =>
    obtain rfl : u0 = Value.ref a := ra
    have hlen : ur.length ≤ sizeLine := by rw [← Paired.length rw', sizeLine_eq]; omega
    exact oinit_ok T I1 ea hlen fun s' J => ⟨.non, H1, J, rfl, q⟩
end
/-! ### the fields, one by one -/
def tIni (K : PySem.W.Frag) : Nat → List Str → TS
  | _, [] => tNext
  | i, f :: fs => tSeq (tOst K f (tVar 0) (tVar i)) (tIni K (i + 1) fs)
theorem ini_old {K : PySem.W.Frag} {a C dx : Addr} (T : OexC K C) : ∀ (fs : List Str) (ws : List V) (i : Nat) (σ : L2.St) (H : Hp) (D : Ends) (acc : List (Str × V)),
    (∀ f ∈ fs, PySem.W.findIn K (.ref C) f = some none) → σ[0]? = some (some (.ref a)) → (∀ j w, ws[j]? = some w → σ[i + j]? = some (some w)) → ws.length = fs.length →
    H a = some (exo a C (some dx)) → H dx = some (exd dx acc) → dx ≠ a → acc.length + fs.length ≤ 900 →
    (∀ H2, H2 a = some (exo a C (some dx)) → H2 dx = some (exd dx ((fs.zip ws).reverse ++ acc)) → (∀ b, b ≠ dx → H2 b = H b) → D.nx σ H2) → tIni K i fs D σ H
  | [], ws, i, σ, H, D, acc, _, _, _, _, ea, ed, _, _, q => q H ea (by simpa using ed) fun _ _ => rfl
  | f :: fs, [], i, σ, H, D, acc, _, _, _, hl, _, _, _, _, _ => absurd hl (by simp)
  | f :: fs, w :: ws, i, σ, H, D, acc, hf, h0, hw, hl, ea, ed, ne, hn, q => by
    have e1 : σ[i]? = some (some w) := hw 0 w rfl
    simp only [List.length_cons] at hl hn
    refine ⟨w, e1, .ref a, h0, a, C, rfl, T, hf f (List.mem_cons_self ..), .inr ⟨dx, acc, ea, ed, by omega, ?_⟩⟩
    refine ini_old T fs ws (i + 1) σ _ D ((f, w) :: acc) (fun g hg => hf g (List.mem_cons_of_mem _ hg)) h0 (fun j u hu => ?_) (by omega) ?_ upd_same ne (by simp only [List.length_cons]; omega) fun H2 a1 a2 a3 => ?_
    · have := hw (j + 1) u hu
      rwa [show i + (j + 1) = i + 1 + j by omega] at this
    · rw [upd_ne ne.symm]; exact ea
    · refine q H2 a1 ?_ fun b hb => (a3 b hb).trans (upd_ne hb)
      rw [a2, List.zip_cons_cons, List.reverse_cons, List.append_assoc]; rfl
theorem ini_new {K : PySem.W.Frag} {a C : Addr} (T : OexC K C) (f : Str) (fs : List Str) (w : V) (ws : List V) (i : Nat) (σ : L2.St) (H : Hp) (D : Ends)
    (hf : ∀ g ∈ f :: fs, PySem.W.findIn K (.ref C) g = some none) (h0 : σ[0]? = some (some (.ref a))) (hw : ∀ j u, (w :: ws)[j]? = some u → σ[i + j]? = some (some u)) (hl : ws.length = fs.length)
    (ea : H a = some (exo a C none)) (hn : fs.length ≤ 800)
    (q : ∀ H2 dx, H2 a = some (exo a C (some dx)) → H2 dx = some (exd dx (((f :: fs).zip (w :: ws)).reverse)) → H dx = none → dx ≠ a → (∀ b, b ≠ a → b ≠ dx → H2 b = H b) → D.nx σ H2) : tIni K i (f :: fs) D σ H := by
  refine ⟨w, hw 0 w rfl, .ref a, h0, a, C, rfl, T, hf f (List.mem_cons_self ..), .inl ⟨ea, fun dx nd ne => ?_⟩⟩
  refine ini_old T fs ws (i + 1) σ _ D [(f, w)] (fun g hg => hf g (List.mem_cons_of_mem _ hg)) h0 (fun j u hu => ?_) hl upd_same (by rw [upd_ne ne]; exact upd_same) ne (by simp only [List.length_singleton]; omega) fun H2 a1 a2 a3 => ?_
  · have := hw (j + 1) u hu
    rwa [show i + (j + 1) = i + 1 + j by omega] at this
  · refine q H2 dx a1 (by rw [a2, List.zip_cons_cons, List.reverse_cons]) nd ne fun b b1 b2 => ?_
    rw [a3 b b2, upd_ne b1, upd_ne b2]
/-! ### what a class's making promises -/
def spInit (K : PySem.W.Frag) (fs : List Str) : Sp := fun vs H Q E => ∃ a C ws, vs = .ref a :: ws ∧ ws.length = fs.length ∧ OexC K C ∧ (∀ f ∈ fs, PySem.W.findIn K (.ref C) f = some none) ∧ H a = some (exo a C none) ∧
  ∀ H2 dx, H2 a = some (exo a C (some dx)) → H2 dx = some (exd dx ((fs.zip ws).reverse)) → H dx = none → dx ≠ a → (∀ b, b ≠ a → b ≠ dx → H2 b = H b) → Q .non H2
/-- a class of refusals, as the text has it -/
def ExAt (P : Program) (w : World) (K : PySem.W.Frag) (mg : Str → Option Value) (base : Heap) (x : String) (fs : List String) : Prop :=
  ∃ C fI fd, mg (nm x) = some (.ref C) ∧ OexC K C ∧ (∀ f ∈ fs.map nm, PySem.W.findIn K (.ref C) f = some none) ∧ PySem.W.findIn K (.ref C) "__init__" = some (some (.ref fI)) ∧ PySem.W.typeIn K (.ref fI) = some (.type "function") ∧
    FnOk P w K mg base CX0 1 fI fd (nm "self" :: fs.map nm) (spInit K (fs.map nm)) ∧ Binds K fd (nm "self" :: fs.map nm) []
/-- the heap behind a making: the refusal's fields are new, all else is as it was -/
theorem made_hp {H1 H2 : Hp} {a d C : Addr} {fs : List (Str × V)} (na : H1 a = none) (ne : d ≠ a) (k : ∀ b, b ≠ a → b ≠ d → H2 b = upd H1 a (exo a C none) b) : upd (del H2 a) d (.xd fs) = upd H1 d (.xd fs) := by
  funext b
  by_cases hd : b = d
  · subst hd; rw [upd_same, upd_same]
  · rw [upd_ne hd, upd_ne hd]
    by_cases ha : b = a
    · subst ha; rw [del_same, na]
    · rw [del_ne ha, k b ha hd, upd_ne ha]
/-- what raise C(e, ..) wishes of its arguments -/
def RaiseK (K : PySem.W.Frag) (W : WX) (C : Addr) (fs : List String) (σ : L2.St) (vs : List V) (H1 : Hp) : Prop := vs.length ≤ 1000 ∧ ∀ a, H1 a = none → spInit K (fs.map nm) (.ref a :: (vs ++ [])) (upd H1 a (exo a C none))
  (fun v H2 => v = .non ∧ ∃ (d : Addr) (gs : List (Str × V)), H2 a = some (exo a C (some d)) ∧ H2 d = some (exd d gs) ∧ H1 d = none ∧ W (.ref C) (some d) σ (upd (del H2 a) d (.xd gs))) (fun _ _ _ => False)
theorem raise_k {K : PySem.W.Frag} {W : WX} {C : Addr} {fs : List String} {σ : L2.St} {vs : List V} {H1 : Hp} (T : OexC K C) (hf : ∀ f ∈ fs.map nm, PySem.W.findIn K (.ref C) f = some none) (hl : vs.length = fs.length) (hn : fs.length ≤ 1000)
    (q : ∀ d, H1 d = none → W (.ref C) (some d) σ (upd H1 d (.xd ((fs.map nm).zip vs).reverse))) : RaiseK K W C fs σ vs H1 := by
  refine ⟨by omega, fun a na => ⟨a, C, vs, by rw [List.append_nil], by rw [hl, List.length_map], T, hf, upd_same, fun H2 d a1 a2 nd ne k => ⟨rfl, d, _, a1, a2, ?_, ?_⟩⟩⟩
  · rwa [upd_ne ne] at nd
  · rw [made_hp na ne k]
    rw [upd_ne ne] at nd
    exact q d nd
/-- raise C(e, ..) -/
theorem ps_raiseM {X : Cx} {W : WX} {x : String} {fs : List String} {e : Expr} {es : List Expr} {ta : TA} {p pos rpos : Pos} (hc : X.calm = true) (tk : Takes X W) (A : ExAt X.prog X.w X.K X.mg X.base x fs) (hr : Room 2 X.A) (hg : Gl X (nm x)) (hdb : (nm x == ("__debug__" : Str)) = false)
    (ha : PA X (e :: es) ta) (he : starEach (e :: es) X.env = (false, eval e X.env) :: starEach es X.env) (hpl : (backTo pos (starEach es X.env)).any (·.1) = false) :
    ∃ C, X.mg (nm x) = some (.ref C) ∧ OexC X.K C ∧ (∀ f ∈ fs.map nm, PySem.W.findIn X.K (.ref C) f = some none) ∧ PS X (.Raise (some (.Call (.Name (nm x) p) (e :: es) [] pos)) none rpos) (fun _ σ H => ta σ H (RaiseK X.K W C fs σ)) := by
  obtain ⟨C, fI, fd, m, T, hf, iC, tI, F, hb⟩ := A
  exact ⟨C, m, T, hf, ps_raise (pos := rpos) hc tk (pmk_oex (dvs := []) (ds := []) T iC tI F hr hb .nil (fun _ _ _ _ _ _ _ z => z.elim) hg m ha hdb he hpl)⟩
end Mini
end
section
set_option Elab.async false
set_option linter.all false
set_option maxRecDepth 100000
/-! Mini: soundness. -/
namespace Mini
open PySem PySem.Spec PyProof.Rows L2

/-- an exception as the small language has it -/
def XR (K : PySem.W.Frag) (mg : Str → Option Value) (W : Wd) (x : MExc) (cls : Value) (d : Option Addr) : Prop :=
  ∃ C dd fs, mg (nm x.cls) = some (.ref C) ∧ cls = .ref C ∧ d = some dd ∧ W.H dd = some (.xd fs) ∧ fs.map (·.1) = x.flds.map (fun q => nm q.1) ∧ FzAll K (live W) W.H (fs.map (·.2)) (x.flds.map (·.2))
abbrev MEx := MExc → MEnv → MH → Prop
structure Wel (K : PySem.W.Frag) (W0 : Wd) (p : Nat → Addr) (h : MH) (H : Hp) (e : MEnv) (σ : L2.St) : Prop where
  ok : WOk K ⟨p, h, H⟩
  re : RE K ⟨p, h, H⟩ e σ
  ext : Ext K W0 ⟨p, h, H⟩
def wExc (K : PySem.W.Frag) (mg : Str → Option Value) (W0 : Wd) (E : MEx) : WX := fun cls d σ H => ∃ x p h e, Wel K W0 p h H e σ ∧ XR K mg ⟨p, h, H⟩ x cls d ∧ E x e h
/-- a def's promise, by its term -/
def spM (K : PySem.W.Frag) (mg : Str → Option Value) (T : List MF) (k : Nat) (f : String) : Sp := fun vs H Q E => ∃ p h ms, WOk K ⟨p, h, H⟩ ∧ RVs K ⟨p, h, H⟩ ms vs ∧
  wF T k f ms h (fun d h' => ∀ p' H' v, WOk K ⟨p', h', H'⟩ → Ext K ⟨p, h, H⟩ ⟨p', h', H'⟩ → RV K ⟨p', h', H'⟩ d v → Q v H')
    (fun x h' => ∀ p' H' cls d, WOk K ⟨p', h', H'⟩ → Ext K ⟨p, h, H⟩ ⟨p', h', H'⟩ → XR K mg ⟨p', h', H'⟩ x cls d → E cls d H')
def psF (F : MF) : List Str := (F.names.take F.np).map nm
mutual
inductive RelC (K : PySem.W.Frag) : PyData → Value → Prop
  | non : RelC K .none .none
  | bl (b : Bool) : RelC K (.bool b) (.bool b)
  | int (i : Int) (t : Tok) : RelC K (.int i) (.int i t)
  | str (x : Str) (t : Tok) : RelC K (.str x) (.str x t)
  | tup {a : Addr} {dd : Option Addr} {its : Array Value} {n : Nat} {sl : Array (Option Value)} {ds : List PyData} : gnd = true → K.lookup a = some ⟨.type "tuple", dd, .seq its n, sl⟩ → its.size ≤ sizeLine → RelCs K ds its.toList → RelC K (.tuple ds) (.ref a)
inductive RelCs (K : PySem.W.Frag) : List PyData → List Value → Prop
  | nil : RelCs K [] []
  | cons {d : PyData} {ds : List PyData} {u : Value} {us : List Value} : RelC K d u → RelCs K ds us → RelCs K (d :: ds) (u :: us)
end
mutual
theorem RelC.fz {K : PySem.W.Frag} : ∀ (c : PyData) (u : Value), RelC K c u → ∃ v : V, RelV v u ∧ ∀ B H, Fz K B H v c
  | .none, _, r => by cases r; exact ⟨.non, rfl, fun _ _ => .non⟩
  | .bool _, _, r => by cases r; exact ⟨.bl _, rfl, fun _ _ => .bl _⟩
  | .int _, _, r => by cases r with | int i t => exact ⟨.int _, ⟨t, rfl⟩, fun _ _ => .int _⟩
  | .str _, _, r => by cases r with | str i t => exact ⟨.str _, ⟨t, rfl⟩, fun _ _ => .str _⟩
  | .tuple ds, _, r => by
    cases r with
    | tup g l z q =>
      obtain ⟨vs, h1, h2⟩ := RelCs.fz ds _ q
      exact ⟨.ref _, rfl, fun B H => .tup (.inl ⟨g, _, _, _, l, rfl, rfl, z, h1⟩) (h2 B H)⟩
  | .list _, _, r => by cases r
  | .dict _, _, r => by cases r
theorem RelCs.fz {K : PySem.W.Frag} : ∀ (ds : List PyData) (us : List Value), RelCs K ds us → ∃ vs : List V, Vals vs us ∧ ∀ B H, FzAll K B H vs ds
  | [], _, r => by cases r; exact ⟨[], .nil, fun _ _ => .nil⟩
  | d :: ds, _, r => by
    cases r with
    | cons r1 r2 =>
      obtain ⟨v, h1, h2⟩ := RelC.fz d _ r1
      obtain ⟨vs, h3, h4⟩ := RelCs.fz ds _ r2
      exact ⟨v :: vs, .cons h1 h3, fun B H => .cons (h2 B H) (h4 B H)⟩
end
/-- isinstance of a class that may be refused with, its answer -/
def IsoOk (K : PySem.W.Frag) (mg : Str → Option Value) (q : String × String × Bool) : Prop := ∃ A1, mg (nm q.1) = some (.ref A1) ∧
  ((q.2.1 = "ValueError" ∧ PySem.W.kitOne K (.ref A1) (.type "ValueError") = some q.2.2) ∨ ∃ A2, mg (nm q.2.1) = some (.ref A2) ∧ PySem.W.kitOne K (.ref A1) (.ref A2) = some q.2.2)
/-- a class whose instances are asked, its fields read -/
def ExfOk (K : PySem.W.Frag) (mg : Str → Option Value) (q : String × List String) : Prop := ∃ A, mg (nm q.1) = some (.ref A) ∧ ExcC K A ∧ ∀ f ∈ q.2, PySem.W.findIn K (.ref A) (nm f) = some none
structure CtxOk (T : List MF) (X : Cx) (S : Sc) (k : Nat) : Prop where
  N : X.N = S.N
  nd : X.N.Nodup
  sc : X.env.scope = S.sc
  kd : S.sc.kind = .function
  fn : S.fn = true → ∀ x, X.fn x = true
  room : RoomG k X.A
  calm : X.calm = true
  blt : ∀ b, S.blt.contains b = true → X.mg (nm b) = none
  cons : ∀ q ∈ S.cons, ∃ u, X.mg (nm q.1) = some u ∧ RelC X.K q.2 u
  inT : ∀ f, S.fns.contains f = true → ∃ F, findF T f = some F
  fns : ∀ f F, findF T f = some F → ∃ fa fd, X.mg (nm f) = some (.ref fa) ∧ PySem.W.keepIn X.K (.ref fa) = true ∧ Binds X.K fd (psF F) [] ∧
    FnG X.prog X.w X.K X.mg X.base k fa fd (psF F) (spM X.K X.mg T k f)
  exc : ∀ q ∈ S.exc, ExAt X.prog X.w X.K X.mg X.base q.1 q.2
  exm : ∀ q ∈ S.exm, ∃ A1 A2, X.mg (nm q.1) = some (.ref A1) ∧ X.mg (nm q.2.1) = some (.ref A2) ∧ PySem.W.exmOne X.K (.ref A1) (.ref A2) = some q.2.2
  iso : ∀ q ∈ S.iso, IsoOk X.K X.mg q
  exf : ∀ q ∈ S.exf, ExfOk X.K X.mg q
  stk : S.fn = true → X.stack = X.env :: X.outer
  frm : S.fn = true → X.env.frame = some X.env.locals

section
variable (K : PySem.W.Frag) (W0 : Wd) (G : MG) (E : MEx)
def tX (a : MX) : TE := fun σ H Q => ∃ p h e, Wel K W0 p h H e σ ∧ wX G (fun x h' => E x e h') a e h (fun d h' => ∀ p' H' v, WOk K ⟨p', h', H'⟩ → Ext K ⟨p, h, H⟩ ⟨p', h', H'⟩ → RV K ⟨p', h', H'⟩ d v → Q v H')
def tXs (a : MXs) : TA := fun σ H Q => ∃ p h e, Wel K W0 p h H e σ ∧ wXs G (fun x h' => E x e h') a e h (fun d h' => ∀ p' H' v, WOk K ⟨p', h', H'⟩ → Ext K ⟨p, h, H⟩ ⟨p', h', H'⟩ → RVs K ⟨p', h', H'⟩ d v → Q v H')
def tT (a : MX) : TT := fun σ H Q => ∃ p h e, Wel K W0 p h H e σ ∧ wX G (fun x h' => E x e h') a e h (fun d h' => wTru d h' fun t => ∀ p' H', WOk K ⟨p', h', H'⟩ → Ext K ⟨p, h, H⟩ ⟨p', h', H'⟩ → Q t H')
end
theorem PE.imp {X : Cx} {e : Expr} {t t' : TE} (h : PE X e t) (i : ∀ σ H Q, t' σ H Q → t σ H Q) : PE X e t' := ⟨fun pins s σ H Q I q => h.run pins s σ H Q I (i _ _ _ q)⟩
theorem PT.imp {X : Cx} {e : Expr} {t t' : TT} (h : PT X e t) (i : ∀ σ H Q, t' σ H Q → t σ H Q) : PT X e t' := ⟨fun pins s σ H Q I q => h.run pins s σ H Q I (i _ _ _ q)⟩
theorem PW.imp {X : Cx} {e : Expr} {t t' : TT} (h : PW X e t) (i : ∀ σ H Q, t' σ H Q → t σ H Q) : PW X e t' := ⟨fun wh pins s σ H Q I q => h.run wh pins s σ H Q I (i _ _ _ q)⟩
theorem PA.imp {X : Cx} {e : List Expr} {t t' : TA} (h : PA X e t) (i : ∀ σ H Q, t' σ H Q → t σ H Q) : PA X e t' := ⟨fun pos pins s σ H Q I q => h.run pos pins s σ H Q I (i _ _ _ q)⟩
theorem PS.imp {X : Cx} {e : Stmt} {t t' : TS} (h : PS X e t) (i : ∀ D σ H, t' D σ H → t D σ H) : PS X e t' := ⟨fun pins s σ H D I q => h.run pins s σ H D I (i _ _ _ q)⟩
theorem PSs.imp {X : Cx} {e : List Stmt} {t t' : TS} (h : PSs X e t) (i : ∀ D σ H, t' D σ H → t D σ H) : PSs X e t' := ⟨fun pins s σ H D I q => h.run pins s σ H D I (i _ _ _ q)⟩

section
variable {K : PySem.W.Frag} {W0 : Wd} {G : MG} {E : MEx} {p : Nat → Addr} {h : MH} {H : Hp} {e : MEnv} {σ : L2.St}
theorem Wel.to (w : Wel K W0 p h H e σ) {p1 : Nat → Addr} {h1 : MH} {H1 : Hp} (ok : WOk K ⟨p1, h1, H1⟩) (x : Ext K ⟨p, h, H⟩ ⟨p1, h1, H1⟩) : Wel K W0 p1 h1 H1 e σ := ⟨ok, w.re.ext x, w.ext.trans x⟩
theorem tX_then (mg : MonoG G G) {a : MX} {R : MQ} {Q : VK} (w : Wel K W0 p h H e σ) (hw : wX G (fun x h' => E x e h') a e h R)
    (k : ∀ d h1 p1 H1 v, R d h1 → Wel K W0 p1 h1 H1 e σ → Ext K ⟨p, h, H⟩ ⟨p1, h1, H1⟩ → RV K ⟨p1, h1, H1⟩ d v → Q v H1) : tX K W0 G E a σ H Q :=
  ⟨p, h, e, w, wX_mono mg (fun _ _ z => z) a e h (fun d h1 r p1 H1 v ok x rv => k d h1 p1 H1 v r (w.to ok x) x rv) hw⟩
theorem tXs_then (mg : MonoG G G) {a : MXs} {R : List MV → MH → Prop} {Q : List V → Hp → Prop} (w : Wel K W0 p h H e σ) (hw : wXs G (fun x h' => E x e h') a e h R)
    (k : ∀ d h1 p1 H1 v, R d h1 → Wel K W0 p1 h1 H1 e σ → Ext K ⟨p, h, H⟩ ⟨p1, h1, H1⟩ → RVs K ⟨p1, h1, H1⟩ d v → Q v H1) : tXs K W0 G E a σ H Q :=
  ⟨p, h, e, w, wXs_mono mg (fun _ _ z => z) a e h (fun d h1 r p1 H1 v ok x rv => k d h1 p1 H1 v r (w.to ok x) x rv) hw⟩
/-- a test, by its value -/
theorem tT_then (mg : MonoG G G) {a : MX} {R : Bool → MH → Prop} {Q : Bool → Hp → Prop} (w : Wel K W0 p h H e σ) (hw : wX G (fun x h' => E x e h') a e h fun d h1 => wTru d h1 fun t => R t h1)
    (k : ∀ t h1 p1 H1, R t h1 → Wel K W0 p1 h1 H1 e σ → Ext K ⟨p, h, H⟩ ⟨p1, h1, H1⟩ → Q t H1) : tT K W0 G E a σ H Q :=
  ⟨p, h, e, w, wX_mono mg (fun _ _ z => z) a e h (fun d h1 => wTru_mono fun t r p1 H1 ok x => k t h1 p1 H1 r (w.to ok x) x) hw⟩
/-- a rule's end, from the start of the whole -/
theorem fin_to {p1 : Nat → Addr} {h1 : MH} {H1 : Hp} {Q : VK} (x : Ext K ⟨p, h, H⟩ ⟨p1, h1, H1⟩) :
    Fin K ⟨p1, h1, H1⟩ (fun d h' => ∀ p' H' v, WOk K ⟨p', h', H'⟩ → Ext K ⟨p, h, H⟩ ⟨p', h', H'⟩ → RV K ⟨p', h', H'⟩ d v → Q v H') Q := fun d h' p' H' v q ok y rv => q p' H' v ok (x.trans y) rv

theorem imp_bin (mg : MonoG G G) {op : MOp} {a b : MX} {Q : VK} (q : tX K W0 G E (.bin op a b) σ H Q) : tOp (rBinM K op) (tX K W0 G E a) (tX K W0 G E b) σ H Q := by
  obtain ⟨p, h, e, w, hw⟩ := q
  unfold wX at hw
  refine tX_then mg w hw fun d h1 p1 H1 v r w1 x1 rv => tX_then mg w1 r fun d2 h2 p2 H2 v2 r2 w2 x2 rv2 => ?_
  exact bin_snd w2.ok (x2 _ _ rv) rv2 r2 (fin_to (x1.trans x2))
theorem imp_frz (mg : MonoG G G) {a : MX} {Q : VK} (q : tX K W0 G E (.frz a) σ H Q) : tX K W0 G E a σ H Q := by
  obtain ⟨p, h, e, w, hw⟩ := q
  unfold wX at hw
  refine tX_then mg w hw fun d h1 p1 H1 v r w1 x1 rv => ?_
  unfold wFrz at r
  split at r
  · exact r _ _ _ w1.ok x1 rv
  · obtain ⟨hi, r⟩ := r
    obtain ⟨vs, xs, rfl, ei, ea, fa, r⟩ := rv_cell w1.ok rv r
    obtain ⟨ok2, x2⟩ := wd_cut w1.ok x1 (Nat.le_refl _)
    exact r _ _ _ ok2 x2 (wd_frz w1.ok x1 (Nat.le_refl _) hi ei (fz_nd fa))
  · exact r _ _ _ w1.ok x1 rv
  · exact r.elim
theorem tT_plain (mg : MonoG G G) {a : MX} {Q : Bool → Hp → Prop} (q : tT K W0 G E a σ H Q) : tX K W0 G E a σ H fun x H' => ∃ k, TruV K x H' k ∧ Q k H' := by
  obtain ⟨p, h, e, w, hw⟩ := q
  refine tX_then mg w hw fun d h1 p1 H1 v r w1 x1 rv => ?_
  obtain ⟨k, t, r⟩ := tru_snd w1.ok rv r
  exact ⟨k, t, r _ _ w1.ok x1⟩
theorem imp_neg (mg : MonoG G G) {a : MX} {Q : VK} (q : tX K W0 G E (.neg a) σ H Q) : tUn (rU fun i => .int (-i)) (tX K W0 G E a) σ H Q := by
  obtain ⟨p, h, e, w, hw⟩ := q
  unfold wX at hw
  refine tX_then mg w hw fun d h1 p1 H1 v r w1 x1 rv => ?_
  unfold wNeg at r
  split at r
  · cases rv_int rv
    exact ⟨_, rfl, r _ _ _ w1.ok x1 (.int _)⟩
  · exact r.elim
theorem imp_not (mg : MonoG G G) {a : MX} {Q : VK} (q : tX K W0 G E (.nott a) σ H Q) : tNotT K (tX K W0 G E a) σ H Q := by
  obtain ⟨p, h, e, w, hw⟩ := q
  unfold wX at hw
  refine tX_then mg w hw fun d h1 p1 H1 v r w1 x1 rv => ?_
  obtain ⟨k, t, r⟩ := tru_snd w1.ok rv r
  exact ⟨k, t, r _ _ _ w1.ok x1 (.bl _)⟩
theorem imp_and (mg : MonoG G G) {a b : MX} {Q : VK} (q : tX K W0 G E (.andd a b) σ H Q) : tAndT K (tX K W0 G E a) (tX K W0 G E b) σ H Q := by
  obtain ⟨p, h, e, w, hw⟩ := q
  unfold wX at hw
  refine tX_then mg w hw fun d h1 p1 H1 v r w1 x1 rv => ?_
  obtain ⟨k, t, r⟩ := tru_snd w1.ok rv r
  refine ⟨k, t, ?_⟩
  cases k with
  | false => exact r _ _ _ w1.ok x1 rv
  | true => exact tX_then mg w1 r fun d2 h2 p2 H2 v2 r2 w2 x2 rv2 => r2 _ _ _ w2.ok (x1.trans x2) rv2
theorem imp_or (mg : MonoG G G) {a b : MX} {Q : VK} (q : tX K W0 G E (.orr a b) σ H Q) : tOrT K (tX K W0 G E a) (tX K W0 G E b) σ H Q := by
  obtain ⟨p, h, e, w, hw⟩ := q
  unfold wX at hw
  refine tX_then mg w hw fun d h1 p1 H1 v r w1 x1 rv => ?_
  obtain ⟨k, t, r⟩ := tru_snd w1.ok rv r
  refine ⟨k, t, ?_⟩
  cases k with
  | true => exact r _ _ _ w1.ok x1 rv
  | false => exact tX_then mg w1 r fun d2 h2 p2 H2 v2 r2 w2 x2 rv2 => r2 _ _ _ w2.ok (x1.trans x2) rv2
theorem imp_cmp (mg : MonoG G G) {op : MCmp} {a b : MX} {Q : VK} (q : tX K W0 G E (.cmp op a b) σ H Q) : tOp (rCmpM K op) (tX K W0 G E a) (tX K W0 G E b) σ H Q := by
  obtain ⟨p, h, e, w, hw⟩ := q
  unfold wX at hw
  refine tX_then mg w hw fun d h1 p1 H1 v r w1 x1 rv => tX_then mg w1 r fun d2 h2 p2 H2 v2 r2 w2 x2 rv2 => ?_
  exact cmp_snd w2.ok (x2 _ _ rv) rv2 r2 fun t ht => ht _ _ _ w2.ok (x1.trans x2) (.bl _)
theorem impT_cmp (mg : MonoG G G) {op : MCmp} {a b : MX} {Q : Bool → Hp → Prop} (q : tT K W0 G E (.cmp op a b) σ H Q) : tTest (tOp (rCmpM K op) (tX K W0 G E a) (tX K W0 G E b)) σ H Q := by
  obtain ⟨p, h, e, w, hw⟩ := q
  unfold wX at hw
  refine tX_then mg w hw fun d h1 p1 H1 v r w1 x1 rv => tX_then mg w1 r fun d2 h2 p2 H2 v2 r2 w2 x2 rv2 => ?_
  exact cmp_snd (Q := fun x H' => ∃ k, x = .bl k ∧ Q k H') w2.ok (x2 _ _ rv) rv2 r2 fun t ht => ⟨t, rfl, ht _ _ w2.ok (x1.trans x2)⟩
theorem imp_chn (mg : MonoG G G) {op op' : MCmp} {a b c : MX} {Q : VK} (q : tX K W0 G E (.chn op op' a b c) σ H Q) : tChain (rCmpM K op) (rCmpM K op') (tX K W0 G E a) (tX K W0 G E b) (tX K W0 G E c) σ H Q := by
  obtain ⟨p, h, e, w, hw⟩ := q
  unfold wX at hw
  refine tX_then mg w hw fun d h1 p1 H1 v r w1 x1 rv => tX_then mg w1 r fun d2 h2 p2 H2 v2 r2 w2 x2 rv2 => ?_
  refine cmp_snd (Q := fun z H3 => ∃ k, z = .bl k ∧ if k = true then tX K W0 G E c σ H3 fun w' H4 => rCmpM K op' v2 w' H4 Q else Q (.bl false) H3) w2.ok (x2 _ _ rv) rv2 r2 fun t ht => ⟨t, rfl, ?_⟩
  cases t with
  | false => exact ht _ _ _ w2.ok (x1.trans x2) (.bl _)
  | true =>
    refine tX_then mg w2 ht fun d3 h3 p3 H3 v3 r3 w3 x3 rv3 => ?_
    exact cmp_snd w3.ok (x3 _ _ rv2) rv3 r3 fun t ht => ht _ _ _ w3.ok ((x1.trans x2).trans x3) (.bl _)
theorem impT_chn (mg : MonoG G G) {op op' : MCmp} {a b c : MX} {Q : Bool → Hp → Prop} (q : tT K W0 G E (.chn op op' a b c) σ H Q) : tTest (tChain (rCmpM K op) (rCmpM K op') (tX K W0 G E a) (tX K W0 G E b) (tX K W0 G E c)) σ H Q := by
  obtain ⟨p, h, e, w, hw⟩ := q
  unfold wX at hw
  refine tX_then mg w hw fun d h1 p1 H1 v r w1 x1 rv => tX_then mg w1 r fun d2 h2 p2 H2 v2 r2 w2 x2 rv2 => ?_
  refine cmp_snd (Q := fun z H3 => ∃ k, z = .bl k ∧ if k = true then tX K W0 G E c σ H3 fun w' H4 => rCmpM K op' v2 w' H4 (fun x H' => ∃ k, x = .bl k ∧ Q k H') else (∃ k, V.bl false = .bl k ∧ Q k H3)) w2.ok (x2 _ _ rv) rv2 r2 fun t ht => ⟨t, rfl, ?_⟩
  cases t with
  | false => exact ⟨false, rfl, ht _ _ w2.ok (x1.trans x2)⟩
  | true =>
    refine tX_then mg w2 ht fun d3 h3 p3 H3 v3 r3 w3 x3 rv3 => ?_
    exact cmp_snd (Q := fun x H' => ∃ k, x = .bl k ∧ Q k H') w3.ok (x3 _ _ rv2) rv3 r3 fun t ht => ⟨t, rfl, ht _ _ w3.ok ((x1.trans x2).trans x3)⟩
def cV : PyData → V
  | .bool b => .bl b
  | .int i => .int i
  | .str s => .str s
  | _ => .non
def rIsM (neg : Bool) (c : PyData) : R2 := match neg, c with
  | false, .none => fun x y H Q => y = .non ∧ Q (.bl (decide (x = .non))) H
  | true, .none => fun x y H Q => y = .non ∧ Q (.bl (!decide (x = .non))) H
  | false, _ => rIsB
  | true, _ => rNotB
theorem is_snd {p : Nat → Addr} {h : MH} {H : Hp} {neg : Bool} {c : PyData} {x : MV} {v : V} {C : Bool → Prop} {Q : VK} (rx : RV K ⟨p, h, H⟩ x v) (hw : wIs x c C) (fin : ∀ t, C t → Q (.bl (neg != t)) H) : rIsM neg c v (cV c) H Q := by
  unfold wIs at hw
  split at hw
  · have key : ∀ (t : Bool), C t → t = decide (v = V.non) → rIsM neg .none v (cV .none) H Q := fun t q e => by
      have z := fin t q
      rw [e] at z
      cases neg
      · exact ⟨rfl, by simpa using z⟩
      · exact ⟨rfl, by simpa using z⟩
    split at hw
    · cases rv_none rx; exact key _ hw rfl
    · rename_i hne
      refine key _ hw (decide_eq_false fun z => ?_).symm
      subst z
      cases x with
      | d y => cases rx; exact hne rfl
      | r i => cases rx.2
      | m i => cases rx.2
      | s ns => obtain ⟨a, z, _⟩ := rx; cases z
  · split at hw
    · cases rv_bool rx
      cases neg
      · exact ⟨_, _, rfl, rfl, by simpa using fin _ hw⟩
      · exact ⟨_, _, rfl, rfl, by simpa using fin _ hw⟩
    · exact hw.elim
  · exact hw.elim
theorem imp_is (mg : MonoG G G) {neg : Bool} {a : MX} {c : PyData} {Q : VK} (q : tX K W0 G E (.isC neg a c) σ H Q) : tOp (rIsM neg c) (tX K W0 G E a) (tC (cV c)) σ H Q := by
  obtain ⟨p, h, e, w, hw⟩ := q
  unfold wX at hw
  refine tX_then mg w hw fun d h1 p1 H1 v r w1 x1 rv => ?_
  exact is_snd rv r fun t ht => ht _ _ _ w1.ok x1 (.bl _)
theorem impT_is (mg : MonoG G G) {neg : Bool} {a : MX} {c : PyData} {Q : Bool → Hp → Prop} (q : tT K W0 G E (.isC neg a c) σ H Q) : tTest (tOp (rIsM neg c) (tX K W0 G E a) (tC (cV c))) σ H Q := by
  obtain ⟨p, h, e, w, hw⟩ := q
  unfold wX at hw
  refine tX_then mg w hw fun d h1 p1 H1 v r w1 x1 rv => ?_
  exact is_snd (Q := fun x H' => ∃ k, x = .bl k ∧ Q k H') rv r fun t ht => ⟨_, rfl, ht _ _ w1.ok x1⟩
theorem imp_ite (mg : MonoG G G) {a b c : MX} {Q : VK} (q : tX K W0 G E (.ite c a b) σ H Q) : tIf (tT K W0 G E c) (tX K W0 G E a) (tX K W0 G E b) σ H Q := by
  obtain ⟨p, h, e, w, hw⟩ := q
  unfold wX at hw
  refine tT_then mg w hw fun t h1 p1 H1 r w1 x1 => ?_
  cases t with
  | true => exact tX_then mg w1 r fun d2 h2 p2 H2 v2 r2 w2 x2 rv2 => r2 _ _ _ w2.ok (x1.trans x2) rv2
  | false => exact tX_then mg w1 r fun d2 h2 p2 H2 v2 r2 w2 x2 rv2 => r2 _ _ _ w2.ok (x1.trans x2) rv2
theorem impT_not (mg : MonoG G G) {a : MX} {Q : Bool → Hp → Prop} (q : tT K W0 G E (.nott a) σ H Q) : tNot (tT K W0 G E a) σ H Q := by
  obtain ⟨p, h, e, w, hw⟩ := q
  unfold wX at hw
  exact tT_then mg w hw fun t h1 p1 H1 r w1 x1 => r _ _ w1.ok x1
theorem wTru_at {x : MV} {h : MH} {F : Bool → Prop} (q : wTru x h F) : ∃ k, F k ∧ ∀ P : Bool → Prop, (wTru x h P ↔ P k) := by
  unfold wTru at q
  split at q
  · exact ⟨_, q, fun P => Iff.rfl⟩
  · exact ⟨_, q, fun P => Iff.rfl⟩
  · exact ⟨_, q, fun P => Iff.rfl⟩
  · exact ⟨_, q.2, fun P => ⟨fun z => z.2, fun z => ⟨q.1, z⟩⟩⟩
  · exact ⟨_, q, fun P => Iff.rfl⟩
  · exact ⟨_, q, fun P => Iff.rfl⟩
  · rename_i i
    unfold cellW at q
    split at q
    · rename_i xs e
      refine ⟨_, q, fun P => ?_⟩
      show cellW h i (fun xs => P (!xs.isEmpty)) ↔ _
      unfold cellW
      rw [e]
    · exact q.elim
  · exact q.elim
theorem impT_and (mg : MonoG G G) {a b : MX} {Q : Bool → Hp → Prop} (q : tT K W0 G E (.andd a b) σ H Q) : tAnd (tT K W0 G E a) (tT K W0 G E b) σ H Q := by
  obtain ⟨p, h, e, w, hw⟩ := q
  unfold wX at hw
  refine ⟨p, h, e, w, wX_mono mg (fun _ _ z => z) a e h (fun d h1 hq => ?_) hw⟩
  obtain ⟨k, r, det⟩ := wTru_at hq
  refine (det _).mpr fun p1 H1 ok x => ?_
  cases k with
  | false =>
    rw [if_neg Bool.false_ne_true] at r
    exact (det _).mp r p1 H1 ok x
  | true => exact tT_then mg (w.to ok x) r fun t h2 p2 H2 r2 w2 x2 => r2 _ _ w2.ok (x.trans x2)
theorem impT_or (mg : MonoG G G) {a b : MX} {Q : Bool → Hp → Prop} (q : tT K W0 G E (.orr a b) σ H Q) : tOr (tT K W0 G E a) (tT K W0 G E b) σ H Q := by
  obtain ⟨p, h, e, w, hw⟩ := q
  unfold wX at hw
  refine ⟨p, h, e, w, wX_mono mg (fun _ _ z => z) a e h (fun d h1 hq => ?_) hw⟩
  obtain ⟨k, r, det⟩ := wTru_at hq
  refine (det _).mpr fun p1 H1 ok x => ?_
  cases k with
  | true =>
    rw [if_pos rfl] at r
    exact (det _).mp r p1 H1 ok x
  | false => exact tT_then mg (w.to ok x) r fun t h2 p2 H2 r2 w2 x2 => r2 _ _ w2.ok (x.trans x2)
theorem datas_fz {W : Wd} : ∀ {ms : List MV} {vs : List V} {ds : List PyData}, RVs K W ms vs → datas ms = some ds → FzAll K (live W) W.H vs ds
  | _, _, _, .nil, e => by cases e; exact .nil
  | m :: ms, v :: vs, ds, .cons r t, e => by
    unfold datas at e
    split at e
    · rename_i h1; cases h1
    · rename_i x r' h1
      cases h1
      split at e
      · rename_i xs e2
        cases e
        exact .cons r (datas_fz t e2)
      · cases e
    · cases e
theorem datas_len : ∀ {ms : List MV} {ds : List PyData}, datas ms = some ds → ms.length = ds.length
  | [], _, e => by cases e; rfl
  | m :: ms, ds, e => by
    unfold datas at e
    split at e
    · rename_i h1; cases h1
    · rename_i x r' h1
      cases h1
      split at e
      · rename_i xs e2
        cases e
        exact congrArg (· + 1) (datas_len e2)
      · cases e
    · cases e
theorem imp_tup (mg : MonoG G G) {xs : MXs} {Q : VK} (q : tX K W0 G E (.tup xs) σ H Q) : tXs K W0 G E xs σ H fun vs H1 => ∀ p, H1 p = none → Q (.ref p) (upd H1 p (.tup vs)) := by
  obtain ⟨p, h, e, w, hw⟩ := q
  unfold wX at hw
  refine tXs_then mg w hw fun d h1 p1 H1 v r w1 x1 rv => ?_
  unfold wTup at r
  split at r
  · rename_i ds e
    exact fun q n => fin_tup w1.ok (fin_to x1) (datas_fz rv e) r n
  · exact r.elim
theorem imp_lst (mg : MonoG G G) {xs : MXs} {Q : VK} (q : tX K W0 G E (.lst xs) σ H Q) : tXs K W0 G E xs σ H fun vs H1 => ∀ p, H1 p = none → Q (.ref p) (upd H1 p (.lst vs)) := by
  obtain ⟨p, h, e, w, hw⟩ := q
  unfold wX at hw
  refine tXs_then mg w hw fun d h1 p1 H1 v r w1 x1 rv => ?_
  unfold wLst at r
  split at r
  · rename_i ds e
    exact fun q n => fin_new w1.ok (fin_to x1) (datas_fz rv e) r n
  · exact r.elim
theorem imp_ix (mg : MonoG G G) {a b : MX} {Q : VK} (q : tX K W0 G E (.ix a b) σ H Q) : tOp (rIxM K) (tX K W0 G E a) (tX K W0 G E b) σ H Q := by
  obtain ⟨p, h, e, w, hw⟩ := q
  unfold wX at hw
  refine tX_then mg w hw fun d h1 p1 H1 v r w1 x1 rv => tX_then mg w1 r fun d2 h2 p2 H2 v2 r2 w2 x2 rv2 => ?_
  exact ix_snd w2.ok (x2 _ _ rv) rv2 r2 (fin_to (x1.trans x2))
/-- a bound of a slice -/
def tO (K : PySem.W.Frag) (W0 : Wd) (G : MG) (E : MEx) : MXs → TO
  | .nil => tNoPart
  | .cons a _ => tPart (tX K W0 G E a)
def oneX : MXs → Bool
  | .nil => true
  | .cons _ .nil => true
  | _ => false
theorem tO_then (mg : MonoG G G) {xs : MXs} (one : oneX xs = true) {R : Option Int → MH → Prop} {Q : Option Int → Hp → Prop} (w : Wel K W0 p h H e σ) (hw : wXs G (fun x h' => E x e h') xs e h fun l h2 => wBound l fun lo => R lo h2)
    (k : ∀ lo h1 p1 H1, R lo h1 → Wel K W0 p1 h1 H1 e σ → Ext K ⟨p, h, H⟩ ⟨p1, h1, H1⟩ → Q lo H1) : tO K W0 G E xs σ H Q := by
  cases xs with
  | nil =>
    unfold wXs at hw
    exact k _ _ _ _ hw w Ext.refl
  | cons a r =>
    cases r with
    | nil =>
      unfold wXs at hw
      refine tX_then mg w hw fun d h1 p1 H1 v r w1 x1 rv => ?_
      unfold wXs wBound at r
      dsimp only at r
      split at r
      · rename_i z; cases z
      · rename_i i z
        cases z
        cases rv_int rv
        exact ⟨_, rfl, k _ _ _ _ r w1 x1⟩
      · exact r.elim
    | cons _ _ => cases one
theorem imp_sl (mg : MonoG G G) {a : MX} {lo hi : MXs} (o1 : oneX lo = true) (o2 : oneX hi = true) {Q : VK} (q : tX K W0 G E (.sl a lo hi) σ H Q) : tSl (rSlM K) (tX K W0 G E a) (tO K W0 G E lo) (tO K W0 G E hi) σ H Q := by
  obtain ⟨p, h, e, w, hw⟩ := q
  unfold wX at hw
  refine tX_then mg w hw fun d h1 p1 H1 v r w1 x1 rv => tO_then mg o1 w1 r fun lo h2 p2 H2 r2 w2 x2 => tO_then mg o2 w2 r2 fun hi h3 p3 H3 r3 w3 x3 => ?_
  exact sl_snd w3.ok (x3 _ _ (x2 _ _ rv)) r3 (fin_to ((x1.trans x2).trans x3))
theorem imp_revL (mg : MonoG G G) {a : MX} {Q : VK} (q : tX K W0 G E (.revL a) σ H Q) : tRevA K (tX K W0 G E a) σ H Q := by
  obtain ⟨p, h, e, w, hw⟩ := q
  unfold wX at hw
  refine tX_then mg w hw fun d h1 p1 H1 v r w1 x1 rv => ?_
  unfold wRev at r
  split at r
  · obtain ⟨a, vs, rfl, ea, fa⟩ := rv_tup rv
    exact ⟨a, vs, rfl, .inr ⟨ea.sq, fun q n => fin_tup w1.ok (fin_to x1) fa.reverse r n⟩⟩
  · obtain ⟨a, vs, xs, rfl, ea, fa, r⟩ := lst_snd w1.ok rv r
    exact ⟨a, vs, rfl, .inl ⟨SqL.of ea, fun q n => fin_new w1.ok (fin_to x1) fa.reverse r n⟩⟩
theorem fz_alt {B : Addr → Prop} {H : Hp} : ∀ {xs : List PyData} {vs : List V}, FzAll K B H vs xs → FzAll K B H (alt vs) (alt xs)
  | _, _, .nil => .nil
  | _, _, .cons r .nil => .cons r .nil
  | _, _, .cons r (.cons _ h) => .cons r (fz_alt h)
theorem fz_drop {B : Addr → Prop} {H : Hp} : ∀ {xs : List PyData} {vs : List V} (k : Nat), FzAll K B H vs xs → FzAll K B H (vs.drop k) (xs.drop k)
  | _, _, 0, h => h
  | _, _, k + 1, .nil => .nil
  | _, _, k + 1, .cons _ h => fz_drop k h
theorem imp_alt (mg : MonoG G G) {n : Nat} {a : MX} {Q : VK} (q : tX K W0 G E (.alt n a) σ H Q) : tAlt K n (tX K W0 G E a) σ H Q := by
  obtain ⟨p, h, e, w, hw⟩ := q
  unfold wX at hw
  refine tX_then mg w hw fun d h1 p1 H1 v r w1 x1 rv => ?_
  unfold wAlt at r
  split at r
  · obtain ⟨a, vs, rfl, ea, fa⟩ := rv_tup rv
    exact ⟨a, vs, rfl, .inr ⟨ea.sq, fun q m => fin_tup w1.ok (fin_to x1) (fz_alt (fz_drop n fa)) r m⟩⟩
  · obtain ⟨a, vs, xs, rfl, ea, fa, r⟩ := lst_snd w1.ok rv r
    exact ⟨a, vs, rfl, .inl ⟨SqL.of ea, fun q m => fin_new w1.ok (fin_to x1) (fz_alt (fz_drop n fa)) r m⟩⟩
theorem rg_fz {B : Addr → Prop} {H : Hp} (a b : Int) : FzAll K B H (rgV a b) (rgL a b) := by
  unfold rgV rgL
  generalize List.range (b - a).toNat = l
  induction l with
  | nil => exact .nil
  | cons x l ih => exact .cons (.int _) ih
def lenXs : MXs → Nat
  | .nil => 0
  | .cons _ r => lenXs r + 1
/-- a range's ends -/
def tRgM (K : PySem.W.Frag) (W0 : Wd) (G : MG) (E : MEx) : MXs → L2.St → Hp → (Int → Int → Hp → Prop) → Prop
  | .cons a .nil => tRg1 (tX K W0 G E a)
  | .cons a (.cons b .nil) => tRg2 (tX K W0 G E a) (tX K W0 G E b)
  | _ => fun _ _ _ => False
theorem tRg_then (mg : MonoG G G) {xs : MXs} {R : List MV → MH → Prop} {Q : Int → Int → Hp → Prop} (w : Wel K W0 p h H e σ) (hw : wXs G (fun x h' => E x e h') xs e h R)
    (bad : ∀ vs h1, R vs h1 → (∃ b, vs = [.d (.int b)]) ∨ ∃ a b, vs = [.d (.int a), .d (.int b)])
    (hl : 1 ≤ lenXs xs ∧ lenXs xs ≤ 2)
    (k1 : ∀ b h1 p1 H1, R [.d (.int b)] h1 → Wel K W0 p1 h1 H1 e σ → Ext K ⟨p, h, H⟩ ⟨p1, h1, H1⟩ → Q 0 b H1)
    (k2 : ∀ a b h1 p1 H1, R [.d (.int a), .d (.int b)] h1 → Wel K W0 p1 h1 H1 e σ → Ext K ⟨p, h, H⟩ ⟨p1, h1, H1⟩ → Q a b H1) : tRgM K W0 G E xs σ H Q := by
  cases xs with
  | nil => exact absurd hl.1 (by decide)
  | cons a r =>
    cases r with
    | nil =>
      unfold wXs at hw
      refine tX_then mg w hw fun d h1 p1 H1 v r w1 x1 rv => ?_
      unfold wXs at r
      rcases bad _ _ r with ⟨b, z⟩ | ⟨b, c, z⟩
      · cases z
        cases rv_int rv
        exact ⟨_, rfl, k1 _ _ _ _ r w1 x1⟩
      · cases z
    | cons b r =>
      cases r with
      | nil =>
        unfold wXs at hw
        refine tX_then mg w hw fun d h1 p1 H1 v r w1 x1 rv => ?_
        unfold wXs at r
        refine tX_then mg w1 r fun d2 h2 p2 H2 v2 r2 w2 x2 rv2 => ?_
        unfold wXs at r2
        rcases bad _ _ r2 with ⟨b, z⟩ | ⟨b, c, z⟩
        · cases z
        · cases z
          cases rv_int rv
          cases rv_int rv2
          exact ⟨_, _, rfl, rfl, k2 _ _ _ _ _ r2 w2 (x1.trans x2)⟩
      | cons c r =>
        have z := hl.2
        simp only [lenXs] at z
        omega
end
end Mini
end
section
set_option Elab.async false
set_option linter.all false
set_option maxRecDepth 100000
/-! Mini: soundness, calls, targets, walks, comprehensions. -/
namespace Mini
open PySem PySem.Spec PyProof.Rows L2

theorem wXs_len {G : MG} (mg : MonoG G G) {E : ME} : ∀ (xs : MXs) (e : MEnv) (h : MH) (Q : List MV → MH → Prop), wXs G E xs e h Q → wXs G E xs e h fun vs h' => vs.length = lenXs xs ∧ Q vs h'
  | .nil, e, h, Q, q => by unfold wXs at q ⊢; exact ⟨rfl, q⟩
  | .cons a r, e, h, Q, q => by
    unfold wXs at q ⊢
    refine wX_mono mg (fun _ _ z => z) a e h (fun v h1 q1 => ?_) q
    exact wXs_mono mg (fun _ _ z => z) r e h1 (fun vs h2 z => ⟨congrArg (· + 1) z.1, z.2⟩) (wXs_len mg r e h1 _ q1)
theorem kXs_len {S : Sc} : ∀ {xs : MXs} {es : List Expr}, kXs xs S es = true → lenXs xs = es.length
  | .nil, es, q => by
    unfold kXs at q
    cases es with
    | nil => rfl
    | cons _ _ => cases q
  | .cons x xs, es, q => by
    unfold kXs at q
    cases es with
    | nil => cases q
    | cons e es =>
      simp only [Bool.and_eq_true] at q
      show lenXs xs + 1 = es.length + 1
      rw [kXs_len q.2]

section
variable {K : PySem.W.Frag} {W0 : Wd} {G : MG} {E : MEx} {p : Nat → Addr} {h : MH} {H : Hp} {e : MEnv} {σ : L2.St}
theorem imp_tup2 (mg : MonoG G G) {xs : MXs} {Q : VK} (hn : lenXs xs ≤ 10000) (q : tX K W0 G E (.tup xs) σ H Q) : tTup (tXs K W0 G E xs) σ H Q := by
  obtain ⟨p, h, e, w, hw⟩ := q
  unfold wX at hw
  refine tXs_then mg w (wXs_len mg _ _ _ _ hw) fun d h1 p1 H1 v r w1 x1 rv => ⟨?_, ?_⟩
  · rw [← rv.length, r.1, line24]; omega
  obtain ⟨_, r⟩ := r
  unfold wTup at r
  split at r
  · rename_i ds e
    exact fun q n => fin_tup w1.ok (fin_to x1) (datas_fz rv e) r n
  · exact r.elim
theorem imp_lst2 (mg : MonoG G G) {xs : MXs} {Q : VK} (hn : lenXs xs ≤ 10000) (q : tX K W0 G E (.lst xs) σ H Q) : tLst (tXs K W0 G E xs) σ H Q := by
  obtain ⟨p, h, e, w, hw⟩ := q
  unfold wX at hw
  refine tXs_then mg w (wXs_len mg _ _ _ _ hw) fun d h1 p1 H1 v r w1 x1 rv => ⟨?_, ?_⟩
  · rw [← rv.length, r.1, line24]; omega
  obtain ⟨_, r⟩ := r
  unfold wLst at r
  split at r
  · rename_i ds e
    exact fun q n => fin_new w1.ok (fin_to x1) (datas_fz rv e) r n
  · exact r.elim
theorem RVs.at2 {K : PySem.W.Frag} {W : Wd} : ∀ {ms : List MV} {vs : List V} {i : Nat} {d : MV}, RVs K W ms vs → ms[i]? = some d → ∃ v, vs[i]? = some v ∧ RV K W d v
  | _, _, _, _, .nil, e => by simp at e
  | _, _, 0, _, .cons r _, e => by simp at e; subst e; exact ⟨_, rfl, r⟩
  | _, _, i + 1, d, .cons _ t, e => by
    obtain ⟨v, h1, h2⟩ := RVs.at2 (i := i) (d := d) t (by simpa using e)
    exact ⟨v, by simpa using h1, h2⟩
theorem pick_at {K : PySem.W.Frag} {W : Wd} {ms : List MV} {vs : List V} {i : Int} {d : MV} (r : RVs K W ms vs) (e : L2.atI ms i = some d) : ∃ v, L2.atI vs i = some v ∧ RV K W d v := by
  unfold L2.atI at e ⊢
  cases hj : L2.ixN ms.length i with
  | none => rw [hj] at e; cases e
  | some j =>
    rw [hj] at e
    rw [← r.length, hj]
    exact r.at2 e
theorem imp_pick (mg : MonoG G G) {xs : MXs} {b : MX} {Q : VK} (hn : lenXs xs ≤ 10000) (q : tX K W0 G E (.pick xs b) σ H Q) : tOp (rIx K) (tLst (tXs K W0 G E xs)) (tX K W0 G E b) σ H Q := by
  obtain ⟨p, h, e, w, hw⟩ := q
  unfold wX at hw
  refine tXs_then mg w (wXs_len mg _ _ _ _ hw) fun d h1 p1 H1 v r w1 x1 rv => ⟨?_, ?_⟩
  · rw [← rv.length, r.1, line24]; omega
  obtain ⟨_, r⟩ := r
  intro l n
  obtain ⟨ok2, x2⟩ := wd_gar (K := K) (o := .lst v) w1.ok n
  have w2 := w1.to ok2 x2
  have rv2 := rv.ext x2
  have hl : upd H1 l (.lst v) l = some (.lst v) := upd_same
  have nl : ¬ live ⟨p1, h1, upd H1 l (.lst v)⟩ l := fun ⟨i, ys, e1, e2⟩ => by
    obtain ⟨ws, e3, _⟩ := (w1.ok.cells i ys e1).obj
    have e2 : p1 i = l := e2
    have e3 : H1 (p1 i) = some ws := e3
    rw [e2, n] at e3; cases e3
  refine tX_then mg w2 r fun d2 h3 p3 H3 v3 r3 w3 x3 rv3 => ?_
  unfold wPick at r3
  split at r3
  · cases rv_int rv3
    split at r3
    · rename_i dd ed
      obtain ⟨z, ez, rz⟩ := pick_at rv2 ed
      exact .inl ⟨l, v, _, z, rfl, rfl, SqL.of (x3.ml _ (.lst v) trivial nl hl).2, ez, fin_here w3.ok (fin_to ((x1.trans x2).trans x3)) r3 (x3 _ _ rz)⟩
    · exact r3.elim
  · exact r3.elim
theorem imp_maxD (mg : MonoG G G) {a : MX} {i : Int} {Q : VK} (q : tX K W0 G E (.maxD a i) σ H Q) : tCKw (rMaxDf K) (tCons (tX K W0 G E a) tNil) (tCons (tC (.int i)) tNil) σ H Q := by
  obtain ⟨p, h, e, w, hw⟩ := q
  unfold wX at hw
  refine tX_then mg w hw fun d h1 p1 H1 v r w1 x1 rv => ?_
  unfold wMaxD at r
  obtain ⟨a, vs, xs, rfl, ea, fa, r⟩ := lst_snd w1.ok rv r
  split at r
  · rename_i ns en
    exact ⟨a, ns, i, rfl, rfl, by rw [← intsL_fz fa en]; exact SqL.of ea, fin_here w1.ok (fin_to x1) r (.int _)⟩
  · exact r.elim
theorem imp_blt (mg : MonoG G G) {b : MB} {xs : MXs} {Q : VK} (q : tX K W0 G E (.blt b xs) σ H Q) : tCB (rBltM K b) (tXs K W0 G E xs) σ H Q := by
  obtain ⟨p, h, e, w, hw⟩ := q
  unfold wX at hw
  exact tXs_then mg w hw fun d h1 p1 H1 v r w1 x1 rv => blt_snd w1.ok rv r (fin_to x1)
theorem imp_isi (mg : MonoG G G) {a : MX} {t : MTy} {Q : VK} (q : tX K W0 G E (.isi a t) σ H Q) : tCB (rIsi K) (tCons (tX K W0 G E a) (tCons (tC (.ty (tyN t))) tNil)) σ H Q := by
  obtain ⟨p, h, e, w, hw⟩ := q
  unfold wX at hw
  exact tX_then mg w hw fun d h1 p1 H1 v r w1 x1 rv => isi_snd w1.ok rv r (fin_to x1)
theorem imp_mth0 (mg : MonoG G G) {m : MM} {o : MX} {Q : VK} (q : tX K W0 G E (.mth m o .nil) σ H Q) : tBM0 K "list" (rMthM m) (tX K W0 G E o) σ H Q := by
  obtain ⟨p, h, e, w, hw⟩ := q
  unfold wX at hw
  refine tX_then mg w hw fun d h1 p1 H1 v r w1 x1 rv => ?_
  split at r
  · rename_i i
    unfold wXs at r
    obtain ⟨vs, e1, f1⟩ := (w1.ok.cells i _ (List.getElem?_eq_getElem rv.1.1)).lst ((kd_of (List.getElem?_eq_getElem rv.1.1)).symm.trans rv.1.2)
    have ev : v = .ref (p1 i) := rv.2
    subst ev
    exact ⟨.inl ⟨rfl, vs, SqL.of e1⟩, mth_snd w1.ok rv .nil r (fin_to x1)⟩
  · exact r.elim
theorem imp_mth (mg : MonoG G G) {m : MM} {o : MX} {xs : MXs} {Q : VK} (q : tX K W0 G E (.mth m o xs) σ H Q) : tBM K "list" (rMthM m) (tX K W0 G E o) (tXs K W0 G E xs) σ H Q := by
  obtain ⟨p, h, e, w, hw⟩ := q
  unfold wX at hw
  refine tX_then mg w hw fun d h1 p1 H1 v r w1 x1 rv => ?_
  split at r
  · rename_i i
    obtain ⟨vs, e1, f1⟩ := (w1.ok.cells i _ (List.getElem?_eq_getElem rv.1.1)).lst ((kd_of (List.getElem?_eq_getElem rv.1.1)).symm.trans rv.1.2)
    have ev : v = .ref (p1 i) := rv.2
    subst ev
    exact ⟨.inl ⟨rfl, vs, SqL.of e1⟩, tXs_then mg w1 r fun d2 h2 p2 H2 v2 r2 w2 x2 rv2 => mth_snd w2.ok (x2 _ _ rv) rv2 r2 (fin_to (x1.trans x2))⟩
  · exact r.elim
theorem rng_new {a b : Int} {t : Bool} {Qm : MQ} {Q : VK} (ok : WOk K ⟨p, h, H⟩) (fin : Fin K ⟨p, h, H⟩ Qm Q) (q : if t = true then Qm (.d (.tuple (rgL a b))) h else newL (rgL a b) h Qm) :
    ∀ r, H r = none → Q (.ref r) (upd H r (if t = true then .tup (rgV a b) else .lst (rgV a b))) := fun r n => by
  cases t with
  | true => exact fin_tup ok fin (rg_fz a b) q n
  | false => exact fin_new ok fin (rg_fz a b) q n
theorem imp_rgv (mg : MonoG G G) {t : Bool} {xs : MXs} {Q : VK} (hl : 1 ≤ lenXs xs ∧ lenXs xs ≤ 2) (q : tX K W0 G E (.rgv t xs) σ H Q) :
    tRgM K W0 G E xs σ H fun a b H1 => RgOk a b ∧ ∀ r, H1 r = none → Q (.ref r) (upd H1 r (if t = true then .tup (rgV a b) else .lst (rgV a b))) := by
  obtain ⟨p, h, e, w, hw⟩ := q
  unfold wX at hw
  refine tRg_then mg w hw (fun vs h1 r => ?_) hl (fun b h1 p1 H1 r w1 x1 => ?_) fun a b h1 p1 H1 r w1 x1 => ?_
  · unfold wRgv at r
    split at r
    · exact .inl ⟨_, rfl⟩
    · exact .inr ⟨_, _, rfl⟩
    · exact r.elim
  · obtain ⟨⟨⟨a1, a2⟩, ⟨b1, b2⟩, c⟩, r⟩ := r
    exact ⟨⟨a1, a2, b1, b2, c⟩, rng_new w1.ok (fin_to x1) r⟩
  · obtain ⟨⟨⟨a1, a2⟩, ⟨b1, b2⟩, c⟩, r⟩ := r
    exact ⟨⟨a1, a2, b1, b2, c⟩, rng_new w1.ok (fin_to x1) r⟩

/-- the wish about exceptions at the frame's slots -/
theorem imp_call {mgl : Str → Option Value} {T : List MF} {k : Nat} {f : String} {xs : MXs} {Q : VK} (q : tX K W0 (wF T k) E (.call f xs) σ H Q) :
    tCallG (spM K mgl T k f) (fun σ cls d H => wExc K mgl W0 E cls d σ H) (tXs K W0 (wF T k) E xs) σ H Q := by
  obtain ⟨p, h, e, w, hw⟩ := q
  unfold wX at hw
  refine tXs_then (wF_mono T k) w hw fun d h1 p1 H1 v r w1 x1 rv => ⟨p1, h1, d, w1.ok, rv, ?_⟩
  refine wF_mono T k _ _ _ _ _ _ _ (fun d2 h2 q2 p' H' v' ok' x' rv' => q2 p' H' v' ok' (x1.trans x') rv') (fun x h' hE p' H' cls dd ok' x' xr => ?_) r
  exact ⟨x, p', h', e, w1.to ok' x', xr, hE⟩

/-! targets -/
def gAll : List Nat → TGs
  | [] => gNil
  | i :: is => gCons (gName i) (gAll is)
def gTg (K : PySem.W.Frag) : MTg → TG
  | .one i => gName i
  | .tup is => gTup K is.length (gAll is)
theorem all_snd {C : MEnv → Prop} {Q : L2.St → Hp → Prop} : ∀ {is : List Nat} {xs : List PyData} {vs : List V} {e : MEnv} {σ : L2.St}, xs.length = is.length → FzAll K (live ⟨p, h, H⟩) H vs xs → RE K ⟨p, h, H⟩ e σ → C (setAll is xs e) →
    (∀ e1 σ1, RE K ⟨p, h, H⟩ e1 σ1 → C e1 → Q σ1 H) → gAll is vs σ H Q
  | [], [], _, e, σ, _, f, re, c, fin => by
    cases f
    exact ⟨rfl, fin _ _ re c⟩
  | i :: is, x :: xs, _, e, σ, hl, f, re, c, fin => by
    cases f with
    | cons f1 f2 => exact ⟨_, _, rfl, all_snd (by simpa using hl) f2 (re.set (show RV K ⟨p, h, H⟩ (.d x) _ from f1)) c fin⟩
  | [], _ :: _, _, _, _, hl, _, _, _, _ => by cases hl
  | _ :: _, [], _, _, _, hl, _, _, _, _ => by cases hl
theorem tg_snd {tg : MTg} {x : PyData} {v : V} {C : MEnv → Prop} {Q : L2.St → Hp → Prop} (hw : tgW tg x e C) (rv : RV K ⟨p, h, H⟩ (.d x) v) (re : RE K ⟨p, h, H⟩ e σ)
    (fin : ∀ e1 σ1, RE K ⟨p, h, H⟩ e1 σ1 → C e1 → Q σ1 H) : gTg K tg v σ H Q := by
  unfold tgW at hw
  split at hw
  · exact fin _ _ (re.set rv) hw
  · split at hw
    · obtain ⟨a, vs, rfl, ea, fa⟩ := rv_tup rv
      exact ⟨a, vs, rfl, ea.sq, by rw [fa.length]; exact hw.1, all_snd hw.1 fa re hw.2 fin⟩
    · exact hw.elim
end
section
variable {X : Cx} {S : Sc} (hN : X.N = S.N) (nd : X.N.Nodup) (hs : X.env.scope = S.sc) (hf : S.fn = true → ∀ x, X.fn x = true)
include hN hs hf
theorem st_of {i : Nat} {x : Str} (q : stB S i x = true) : X.N[i]? = some x ∧ Loc X.env.scope x ∧ (X.fn x = true ∨ X.env.scope.names.lookup x = some .local) := by
  unfold stB at q
  rw [Bool.and_eq_true] at q
  refine ⟨by rw [hN]; exact of_decide_eq_true q.1, ?_⟩
  have q2 := q.2
  rw [hs]
  split at q2
  · rename_i z; exact ⟨.inl z, .inr z⟩
  · rename_i z; exact ⟨.inr z, .inl (hf q2 x)⟩
  · cases q2
include nd
theorem pg_one {i : Nat} {x : Str} {pos : Pos} (q : stB S i x = true) : PG X (.Name x pos) (gName i) := by
  obtain ⟨a, b, c⟩ := st_of hN hs hf q
  exact pg_name nd a b c
theorem pgs_all : ∀ {is : List Nat} {es : List Expr}, tgN S is es = true → PGs X es (gAll is) ∧ (assignEach es X.env).length = is.length ∧ (assignEach es X.env).all (fun q => !q.1) = true
  | [], [], _ => ⟨pgs_nil, rfl, rfl⟩
  | i :: is, .Name x pos :: es, q => by
    unfold tgN at q
    rw [Bool.and_eq_true] at q
    obtain ⟨a, b, c⟩ := pgs_all q.2
    refine ⟨pgs_cons (pg_one hN nd hs hf q.1) a rfl, ?_, ?_⟩
    · show (assignEach es X.env).length + 1 = is.length + 1
      rw [b]
    · show (!false && (assignEach es X.env).all fun q => !q.1) = true
      rw [c]; rfl
  | [], _ :: _, q => by cases q
  | _ :: _, [], q => by cases q
theorem pg_tg (hc : X.calm = true) {tg : MTg} {e : Expr} (q : kTg tg S e = true) : PG X e (gTg X.K tg) := by
  unfold kTg at q
  split at q
  · exact pg_one hN nd hs hf q
  · rename_i is es k pos
    obtain ⟨a, b, c⟩ := pgs_all hN nd hs hf q
    refine pg_tup hc a b ?_
    rw [List.findIdx?_eq_none_iff]
    intro x hx
    have z := List.all_eq_true.mp c x hx
    simpa using z
  · cases q
end
end Mini
end
section
set_option Elab.async false
set_option linter.all false
set_option maxRecDepth 100000
/-! Mini: soundness, what is walked. -/
namespace Mini
open PySem PySem.Spec PyProof.Rows L2

structure ItOk (K : PySem.W.Frag) (J : It) (W1 : Wd) (xs : List PyData) (g : MGd) : Prop where
  go : ∀ i (W : Wd), WOk K W → Ext K W1 W → gdOk g W.h → ∀ d, xs[i]? = some d → J.go i W.H ∧ ∀ x H', J.yld i W.H x H' → WOk K ⟨W.p, W.h, H'⟩ ∧ Ext K W ⟨W.p, W.h, H'⟩ ∧ RV K ⟨W.p, W.h, H'⟩ (.d d) x
  stop : ∀ i (W : Wd), WOk K W → Ext K W1 W → gdOk g W.h → xs.length ≤ i → J.stop i W.H
def tI (K : PySem.W.Frag) (W0 : Wd) (G : MG) (E : MEx) (it : MI) : TI := fun σ H R => ∃ p h e, Wel K W0 p h H e σ ∧ wI G (fun x h' => E x e h') it e h (fun xs g h1 => ∀ p1 H1 J, WOk K ⟨p1, h1, H1⟩ → Ext K ⟨p, h, H⟩ ⟨p1, h1, H1⟩ → ItOk K J ⟨p1, h1, H1⟩ xs g → R J H1)
section
variable {K : PySem.W.Frag} {W0 : Wd} {G : MG} {E : MEx} {p : Nat → Addr} {h : MH} {H : Hp} {e : MEnv} {σ : L2.St}
theorem PI.imp {X : Cx} {tg e : Expr} {t t' : TI} (h : PI X tg e t) (i : ∀ σ H Q, t' σ H Q → t σ H Q) : PI X tg e t' := ⟨fun pins s σ H Q I q => h.run pins s σ H Q I (i _ _ _ q)⟩

/-- a list's items stay readable -/
def RdL (K : PySem.W.Frag) (W1 : Wd) (a : Addr) (xs : List PyData) (g : MGd) : Prop := ∀ W, WOk K W → Ext K W1 W → gdOk g W.h → ∃ vs, SqL K W.H a vs ∧ FzAll K (live W) W.H vs xs
def RdT (K : PySem.W.Frag) (W1 : Wd) (a : Addr) (xs : List PyData) : Prop := ∀ W, WOk K W → Ext K W1 W → ∃ vs, SqT K W.H a vs ∧ FzAll K (live W) W.H vs xs
theorem rdl_list {a : Addr} {vs : List V} {xs : List PyData} (r : RV K ⟨p, h, H⟩ (.d (.list xs)) (.ref a)) : RdL K ⟨p, h, H⟩ a xs none := fun W ok x _ => by
  obtain ⟨p', h', H'⟩ := W
  obtain ⟨b, vs, z, e1, _, f⟩ := rv_list (x _ _ r)
  cases z
  exact ⟨vs, SqL.of e1, f⟩
theorem rdl_cell {i : Nat} {xs : List PyData} {a : Addr} (r : RV K ⟨p, h, H⟩ (.r i) (.ref a)) : RdL K ⟨p, h, H⟩ a xs (some (i, xs)) := fun W ok x g => by
  have r2 := x _ _ r
  have ea : V.ref a = .ref (W.p i) := r2.2
  cases ea
  obtain ⟨vs, e1, f⟩ := (ok.cells i xs g).lst ((kd_of g).symm.trans r2.1.2)
  exact ⟨vs, SqL.of e1, f⟩
theorem rdl_scr {ns : List Int} {a : Addr} (r : RV K ⟨p, h, H⟩ (.s ns) (.ref a)) : RdL K ⟨p, h, H⟩ a (ns.map .int) none := fun W ok x _ => by
  obtain ⟨b, z, sc⟩ := x _ _ r
  cases z
  exact ⟨_, sc.sq, ints_fz ns⟩
theorem rdt_tup {a : Addr} {xs : List PyData} (r : RV K ⟨p, h, H⟩ (.d (.tuple xs)) (.ref a)) : RdT K ⟨p, h, H⟩ a xs := fun W ok x => by
  obtain ⟨p', h', H'⟩ := W
  obtain ⟨b, vs, z, e1, f⟩ := rv_tup (x _ _ r)
  cases z
  exact ⟨vs, e1.sq, f⟩
theorem rd_now {a : Addr} {xs : List PyData} {g : MGd} (ok : WOk K ⟨p, h, H⟩) (r : RdL K ⟨p, h, H⟩ a xs g) (q : gdOk g h) : ∃ vs, SqL K H a vs ∧ vs.length = xs.length := by
  obtain ⟨vs, a, f⟩ := r _ ok Ext.refl q
  exact ⟨vs, a, f.length⟩
theorem rdt_now {a : Addr} {xs : List PyData} (ok : WOk K ⟨p, h, H⟩) (r : RdT K ⟨p, h, H⟩ a xs) : ∃ vs, SqT K H a vs ∧ vs.length = xs.length := by
  obtain ⟨vs, a, f⟩ := r _ ok Ext.refl
  exact ⟨vs, a, f.length⟩
theorem lstI_snd {x : MV} {v : V} {f : List PyData → List PyData} {C : MK} (ok : WOk K ⟨p, h, H⟩) (r : RV K ⟨p, h, H⟩ x v) (q : wLstI x h f C) : ∃ a xs g, v = .ref a ∧ C (f xs) g h ∧ gdOk g h ∧ RdL K ⟨p, h, H⟩ a xs g := by
  unfold wLstI at q
  split at q
  · obtain ⟨a, vs, rfl, _⟩ := rv_list r
    exact ⟨a, _, none, rfl, q, trivial, rdl_list (vs := vs) r⟩
  · rename_i i
    obtain ⟨vs, xs, rfl, ei, _, _, q⟩ := rv_cell ok r q
    exact ⟨_, xs, _, rfl, q, ei, rdl_cell r⟩
  · exact q.elim
theorem seqI_snd {x : MV} {v : V} {f : List PyData → List PyData} {C : MK} (ok : WOk K ⟨p, h, H⟩) (r : RV K ⟨p, h, H⟩ x v) (q : wSeqI x h f C) :
    ∃ a xs g, v = .ref a ∧ C (f xs) g h ∧ gdOk g h ∧ (RdL K ⟨p, h, H⟩ a xs g ∨ (RdT K ⟨p, h, H⟩ a xs ∧ g = none)) := by
  unfold wSeqI at q
  split at q
  · obtain ⟨a, vs, rfl, _⟩ := rv_list r
    exact ⟨a, _, none, rfl, q, trivial, .inl (rdl_list (vs := vs) r)⟩
  · obtain ⟨a, vs, rfl, _⟩ := rv_tup r
    exact ⟨a, _, none, rfl, q, trivial, .inr ⟨rdt_tup r, rfl⟩⟩
  · rename_i i
    obtain ⟨vs, xs, rfl, ei, _, _, q⟩ := rv_cell ok r q
    exact ⟨_, xs, _, rfl, q, ei, .inl (rdl_cell r)⟩
  · obtain ⟨a, rfl, sc⟩ := id r
    exact ⟨a, _, none, rfl, q, trivial, .inl (rdl_scr r)⟩
  · exact q.elim
theorem it_list {W1 : Wd} {a : Addr} {xs : List PyData} {g : MGd} (r : RdL K W1 a xs g) : ItOk K (Itl K a) W1 xs g := ⟨fun i W ok x gd d e => by
    obtain ⟨vs, s, f⟩ := r W ok x gd
    obtain ⟨v, e1, f1⟩ := f.get e
    refine ⟨⟨vs, v, s, e1⟩, fun y H' q => ?_⟩
    obtain ⟨rfl, q⟩ := q
    cases (q vs s).symm.trans e1
    exact ⟨ok, Ext.refl, f1⟩, fun i W ok x gd hi => by
    obtain ⟨vs, s, f⟩ := r W ok x gd
    exact ⟨vs, s, by rw [f.length]; exact hi⟩⟩
theorem it_tup {W1 : Wd} {a : Addr} {xs : List PyData} {g : MGd} (r : RdT K W1 a xs) : ItOk K (Itt K a) W1 xs g := ⟨fun i W ok x gd d e => by
    obtain ⟨vs, s, f⟩ := r W ok x
    obtain ⟨v, e1, f1⟩ := f.get e
    refine ⟨⟨vs, v, s, e1⟩, fun y H' q => ?_⟩
    obtain ⟨rfl, q⟩ := q
    cases (q vs s).symm.trans e1
    exact ⟨ok, Ext.refl, f1⟩, fun i W ok x gd hi => by
    obtain ⟨vs, s, f⟩ := r W ok x
    exact ⟨vs, s, by rw [f.length]; exact hi⟩⟩
theorem rev_at {α : Type} {xs : List α} {i : Nat} {d : α} (e : xs.reverse[i]? = some d) : i < xs.length ∧ xs[xs.length - 1 - i]? = some d := by
  have hl : i < xs.length := by
    have := (List.getElem?_eq_some_iff.mp e).1
    rwa [List.length_reverse] at this
  rw [List.getElem?_reverse hl] at e
  exact ⟨hl, e⟩
theorem it_revL {W1 : Wd} {a : Addr} {xs : List PyData} {g : MGd} (r : RdL K W1 a xs g) : ItOk K (Itv K a xs.length) W1 xs.reverse g := ⟨fun i W ok x gd d e => by
    obtain ⟨vs, s, f⟩ := r W ok x gd
    obtain ⟨hl, e⟩ := rev_at e
    obtain ⟨v, e1, f1⟩ := f.get e
    refine ⟨⟨hl, vs, v, s, e1⟩, fun y H' q => ?_⟩
    obtain ⟨rfl, q⟩ := q
    cases (q vs s).symm.trans e1
    exact ⟨ok, Ext.refl, f1⟩, fun i W ok x gd hi => by rw [List.length_reverse] at hi; exact hi⟩
theorem it_revT {W1 : Wd} {a : Addr} {xs : List PyData} {g : MGd} (r : RdT K W1 a xs) : ItOk K (RT.ItvT K a xs.length) W1 xs.reverse g := ⟨fun i W ok x gd d e => by
    obtain ⟨vs, s, f⟩ := r W ok x
    obtain ⟨hl, e⟩ := rev_at e
    obtain ⟨v, e1, f1⟩ := f.get e
    refine ⟨⟨hl, vs, v, s, e1⟩, fun y H' q => ?_⟩
    obtain ⟨rfl, q⟩ := q
    cases (q vs s).symm.trans e1
    exact ⟨ok, Ext.refl, f1⟩, fun i W ok x gd hi => by rw [List.length_reverse] at hi; exact hi⟩
theorem rgL_at {a b : Int} {i : Nat} {d : PyData} (e : (rgL a b)[i]? = some d) : i < (b - a).toNat ∧ d = .int (a + (i : Int)) := by
  unfold rgL at e
  rw [List.getElem?_map] at e
  by_cases hi : i < (b - a).toNat
  · rw [List.getElem?_range hi] at e
    cases e
    exact ⟨hi, rfl⟩
  · rw [List.getElem?_eq_none (by simpa using hi)] at e
    cases e
theorem rgL_len (a b : Int) : (rgL a b).length = (b - a).toNat := by unfold rgL; rw [List.length_map, List.length_range]
theorem it_rg {W1 : Wd} (a b : Int) {g : MGd} : ItOk K (Itr a (b - a).toNat) W1 (rgL a b) g := ⟨fun i W ok x gd d e => by
    obtain ⟨hi, rfl⟩ := rgL_at e
    refine ⟨hi, fun y H' q => ?_⟩
    obtain ⟨rfl, rfl⟩ := q
    exact ⟨ok, Ext.refl, .int _⟩, fun i W ok x gd hi => by rw [rgL_len] at hi; exact hi⟩
theorem it_rgC {W1 : Wd} (a c : Int) (n : Nat) {g : MGd} : ItOk K (Itc a c n) W1 (rgC a c n) g := ⟨fun i W ok x gd d e => by
    unfold rgC at e
    rw [List.getElem?_map] at e
    by_cases hi : i < n
    · rw [List.getElem?_range hi] at e
      cases e
      refine ⟨hi, fun y H' q => ?_⟩
      obtain ⟨rfl, rfl⟩ := q
      exact ⟨ok, Ext.refl, .int _⟩
    · rw [List.getElem?_eq_none (by simpa using hi)] at e
      exact absurd e (by simp), fun i W ok x gd hi => by
    unfold rgC at hi
    rw [List.length_map, List.length_range] at hi
    exact hi⟩
theorem it_rrg {W1 : Wd} (a b : Int) {g : MGd} : ItOk K (Itc (a + (((b - a).toNat : Nat) : Int) - 1) (-1) (b - a).toNat) W1 (rgL a b).reverse g := ⟨fun i W ok x gd d e => by
    obtain ⟨hl, e⟩ := rev_at e
    rw [rgL_len] at hl
    obtain ⟨_, rfl⟩ := rgL_at e
    refine ⟨hl, fun y H' q => ?_⟩
    obtain ⟨rfl, rfl⟩ := q
    refine ⟨ok, Ext.refl, ?_⟩
    have ez : a + (((b - a).toNat : Nat) : Int) - 1 + (i : Nat) * (-1) = a + (((rgL a b).length - 1 - i : Nat) : Int) := by
      rw [rgL_len]; omega
    rw [ez]
    exact .int _, fun i W ok x gd hi => by rw [List.length_reverse, rgL_len] at hi; exact hi⟩
theorem enmL_at : ∀ {xs : List PyData} {k i : Nat} {d : PyData}, (enmL k xs)[i]? = some d → ∃ y, xs[i]? = some y ∧ d = .tuple [.int ((k + i : Nat) : Int), y]
  | [], _, _, _, e => by simp [enmL] at e
  | x :: xs, k, 0, d, e => by simp [enmL] at e; exact ⟨x, rfl, e.symm⟩
  | x :: xs, k, i + 1, d, e => by
    obtain ⟨y, h1, h2⟩ := enmL_at (xs := xs) (k := k + 1) (i := i) (d := d) (by simpa [enmL] using e)
    refine ⟨y, by simpa using h1, ?_⟩
    rw [h2, show k + 1 + i = k + (i + 1) by omega]
theorem enmL_len : ∀ (xs : List PyData) (k : Nat), (enmL k xs).length = xs.length
  | [], _ => rfl
  | x :: xs, k => congrArg (· + 1) (enmL_len xs (k + 1))
theorem it_enm {W1 : Wd} {a : Addr} {xs : List PyData} {g : MGd} (r : RdL K W1 a xs g) : ItOk K (Ite K a) W1 (enmL 0 xs) g := ⟨fun i W ok x gd d e => by
    obtain ⟨vs, s, f⟩ := r W ok x gd
    obtain ⟨y, ey, rfl⟩ := enmL_at e
    obtain ⟨v, e1, f1⟩ := f.get ey
    refine ⟨⟨vs, v, s, e1⟩, fun t H' q => ?_⟩
    obtain ⟨T, w, rfl, nT, rfl, q⟩ := q
    cases (q vs s).symm.trans e1
    obtain ⟨p', h', H''⟩ := W
    rw [Nat.zero_add]
    exact wd_tup ok nT (.cons (.int _) (.cons f1 .nil)), fun i W ok x gd hi => by
    obtain ⟨vs, s, f⟩ := r W ok x gd
    rw [enmL_len] at hi
    exact ⟨vs, s, by rw [f.length]; exact hi⟩⟩
theorem it_enmT {W1 : Wd} {a : Addr} {xs : List PyData} {g : MGd} (r : RdT K W1 a xs) : ItOk K (IteK false K a) W1 (enmL 0 xs) g := ⟨fun i W ok x gd d e => by
    obtain ⟨vs, s, f⟩ := r W ok x
    obtain ⟨y, ey, rfl⟩ := enmL_at e
    obtain ⟨v, e1, f1⟩ := f.get ey
    refine ⟨⟨vs, v, s, e1⟩, fun t H' q => ?_⟩
    obtain ⟨T, w, rfl, nT, rfl, q⟩ := q
    cases (q vs s).symm.trans e1
    obtain ⟨p', h', H''⟩ := W
    rw [Nat.zero_add]
    exact wd_tup ok nT (.cons (.int _) (.cons f1 .nil)), fun i W ok x gd hi => by
    obtain ⟨vs, s, f⟩ := r W ok x
    rw [enmL_len] at hi
    exact ⟨vs, s, by rw [f.length]; exact hi⟩⟩
theorem zipL_at : ∀ {xs ys : List PyData} {i : Nat} {d : PyData}, (zipL xs ys)[i]? = some d → ∃ x y, xs[i]? = some x ∧ ys[i]? = some y ∧ d = .tuple [x, y]
  | [], _, _, _, e => by simp [zipL] at e
  | _ :: _, [], _, _, e => by simp [zipL] at e
  | x :: xs, y :: ys, 0, d, e => by simp [zipL] at e; exact ⟨x, y, rfl, rfl, e.symm⟩
  | x :: xs, y :: ys, i + 1, d, e => by
    obtain ⟨u, w, h1, h2, h3⟩ := zipL_at (xs := xs) (ys := ys) (i := i) (d := d) (by simpa [zipL] using e)
    exact ⟨u, w, by simpa using h1, by simpa using h2, h3⟩
theorem zipL_len : ∀ (xs ys : List PyData), (zipL xs ys).length = min xs.length ys.length
  | [], _ => by simp [zipL]
  | _ :: _, [] => by simp [zipL]
  | x :: xs, y :: ys => by simp [zipL, zipL_len xs ys]
/-- a list's or a tuple's items stay readable -/
def RdK (κ : Bool) (K : PySem.W.Frag) (W1 : Wd) (a : Addr) (xs : List PyData) : Prop := ∀ W, WOk K W → Ext K W1 W → ∃ vs, SqK κ K W.H a vs ∧ FzAll K (live W) W.H vs xs
theorem rdk_of {W1 : Wd} {a : Addr} {xs : List PyData} {g : MGd} (n : g = none) : RdL K W1 a xs g ∨ (RdT K W1 a xs ∧ g = none) → ∃ κ, RdK κ K W1 a xs
  | .inl r => ⟨true, fun W ok x => r W ok x (by rw [n]; trivial)⟩
  | .inr r => ⟨false, r.1⟩
theorem it_zip {κ1 κ2 : Bool} {W1 : Wd} {a b : Addr} {xs ys : List PyData} (r1 : RdK κ1 K W1 a xs) (r2 : RdK κ2 K W1 b ys) {g : MGd} : ItOk K (ItK κ1 κ2 K a b) W1 (zipL xs ys) g := ⟨fun i W ok x gd d e => by
    obtain ⟨vs, s1, f1⟩ := r1 W ok x
    obtain ⟨us, s2, f2⟩ := r2 W ok x
    obtain ⟨y, z, e1, e2, rfl⟩ := zipL_at e
    obtain ⟨v, e1, f1'⟩ := f1.get e1
    obtain ⟨u, e2, f2'⟩ := f2.get e2
    refine ⟨⟨vs, us, v, u, s1, s2, e1, e2⟩, fun t H' q => ?_⟩
    obtain ⟨T, w1, w2, rfl, nT, rfl, q1, q2⟩ := q
    cases (q1 vs s1).symm.trans e1
    cases (q2 us s2).symm.trans e2
    obtain ⟨p', h', H''⟩ := W
    exact wd_tup ok nT (.cons f1' (.cons f2' .nil)), fun i W ok x gd hi => by
    obtain ⟨vs, s1, f1⟩ := r1 W ok x
    obtain ⟨us, s2, f2⟩ := r2 W ok x
    rw [zipL_len] at hi
    exact ⟨vs, us, s1, s2, by rw [f1.length, f2.length]; omega⟩⟩
end

/-- over a list or a tuple -/
def iSeq (K : PySem.W.Frag) (tl : TE) : TI := fun σ H R => tl σ H fun x H1 => ∃ a vs, x = .ref a ∧ ((SqL K H1 a vs ∧ R (Itl K a) H1) ∨ (SqT K H1 a vs ∧ R (Itt K a) H1))
theorem pi_seq {X : Cx} {tg l : Expr} {tl : TE} (hl : PE X l tl) : PI X tg l (iSeq X.K tl) := by
  constructor
  intro pins s σ H R I h
  refine thn (hl.run pins s σ H _ I h) ?_
  rintro v s1 ⟨x, H1, I1, r1, a, vs, e, q⟩
  subst e
  cases r1
  have fpk : ∀ b ∈ [s1.heap.objs.size], FpOk X pins H1 b := fun b hb => by
    rw [List.mem_singleton] at hb
    subst hb
    exact I1.fpOk (Nat.le_refl _) (I1.hok.fresh (Nat.le_refl _))
  rcases q with ⟨hq, q⟩ | ⟨hq, q⟩
  · obtain ⟨its, rv, p, hz⟩ := I1.list hq
    refine wpAny_pyIter_list p.isList ⟨s1.heap.objs.size, [s1.heap.objs.size], _, _, H1, rfl, ?_, turn_list a _, ?_, fpk, q⟩
    · exact I1.kept (t' := s1.toks) fun b o e => Heap.get?_push_of_some _ e
    · exact ⟨_, Heap.get?_push_size _ rfl, rfl, rfl⟩
  · obtain ⟨its, rv, p, hz⟩ := I1.tuple hq
    refine wpAny_pyIter_tuple (show s1.heap.IsTuple a its.toArray from p) ⟨s1.heap.objs.size, [s1.heap.objs.size], _, _, H1, rfl, ?_, turn_tuple a _, ?_, fpk, q⟩
    · exact I1.kept (t' := s1.toks) fun b o e => Heap.get?_push_of_some _ e
    · exact ⟨_, Heap.get?_push_size _ rfl, rfl, rfl⟩

section
variable {K : PySem.W.Frag} {W0 : Wd} {G : MG} {E : MEx} {p : Nat → Addr} {h : MH} {H : Hp} {e : MEnv} {σ : L2.St}
theorem imp_seqI (mg : MonoG G G) {a : MX} {R : It → Hp → Prop} (q : tI K W0 G E (.seq a) σ H R) : iSeq K (tX K W0 G E a) σ H R := by
  obtain ⟨p, h, e, w, hw⟩ := q
  unfold wI at hw
  refine tX_then mg w hw fun d h1 p1 H1 v r w1 x1 rv => ?_
  obtain ⟨a, xs, g, rfl, c, gd, rd⟩ := seqI_snd w1.ok rv r
  rcases rd with rd | ⟨rd, _⟩
  · obtain ⟨vs, s, _⟩ := rd_now w1.ok rd gd
    exact ⟨a, vs, rfl, .inl ⟨s, c _ _ _ w1.ok x1 (it_list rd)⟩⟩
  · obtain ⟨vs, s, _⟩ := rdt_now w1.ok rd
    exact ⟨a, vs, rfl, .inr ⟨s, c _ _ _ w1.ok x1 (it_tup rd)⟩⟩
theorem imp_revI (mg : MonoG G G) {a : MX} {R : It → Hp → Prop} (q : tI K W0 G E (.rev a) σ H R) : RT.iRevA K (tX K W0 G E a) σ H R := by
  obtain ⟨p, h, e, w, hw⟩ := q
  unfold wI at hw
  refine tX_then mg w hw fun d h1 p1 H1 v r w1 x1 rv => ?_
  obtain ⟨a, xs, g, rfl, c, gd, rd⟩ := seqI_snd w1.ok rv r
  rcases rd with rd | ⟨rd, _⟩
  · obtain ⟨vs, s, hl⟩ := rd_now w1.ok rd gd
    refine ⟨a, vs, rfl, .inl ⟨s, c _ _ _ w1.ok x1 ?_⟩⟩
    rw [hl]
    exact it_revL rd
  · obtain ⟨vs, s, hl⟩ := rdt_now w1.ok rd
    refine ⟨a, vs, rfl, .inr ⟨s, c _ _ _ w1.ok x1 ?_⟩⟩
    rw [hl]
    exact it_revT rd
theorem imp_enmI (mg : MonoG G G) {a : MX} {R : It → Hp → Prop} (q : tI K W0 G E (.enm a) σ H R) : iEnumK K (tCons (tX K W0 G E a) tNil) σ H R := by
  obtain ⟨p, h, e, w, hw⟩ := q
  unfold wI at hw
  refine tX_then mg w hw fun d h1 p1 H1 v r w1 x1 rv => ?_
  obtain ⟨a, xs, g, rfl, c, gd, rd⟩ := seqI_snd w1.ok rv r
  rcases rd with rd | ⟨rd, rfl⟩
  · obtain ⟨vs, s, _⟩ := rd_now w1.ok rd gd
    exact ⟨a, true, vs, rfl, s, c _ _ _ w1.ok x1 (it_enm rd)⟩
  · obtain ⟨vs, s, _⟩ := rd _ w1.ok Ext.refl
    exact ⟨a, false, vs, rfl, s, c _ _ _ w1.ok x1 (it_enmT rd)⟩
theorem imp_zipI (mg : MonoG G G) {a b : MX} {R : It → Hp → Prop} (q : tI K W0 G E (.zip a b) σ H R) : iZipK K (tCons (tX K W0 G E a) (tCons (tX K W0 G E b) tNil)) σ H R := by
  obtain ⟨p, h, e, w, hw⟩ := q
  unfold wI at hw
  refine tX_then mg w hw fun d h1 p1 H1 v r w1 x1 rv => tX_then mg w1 r fun d2 h2 p2 H2 v2 r2 w2 x2 rv2 => ?_
  obtain ⟨a, xs, g1, rfl, c, gd1, rd1⟩ := seqI_snd w2.ok (x2 _ _ rv) r2
  obtain ⟨b, ys, g2, rfl, c, gd2, rd2⟩ := seqI_snd w2.ok rv2 c
  obtain ⟨n1, n2, c⟩ := c
  obtain ⟨κ1, rd1⟩ := rdk_of n1 rd1
  obtain ⟨κ2, rd2⟩ := rdk_of n2 rd2
  obtain ⟨vs, s1, _⟩ := rd1 _ w2.ok Ext.refl
  obtain ⟨us, s2, _⟩ := rd2 _ w2.ok Ext.refl
  exact ⟨a, b, κ1, κ2, vs, us, rfl, s1, s2, c _ _ _ w2.ok (x1.trans x2) (it_zip rd1 rd2)⟩
/-- one, two, three ends -/
def iRngM (ta : TA) : TI := fun σ H R => ta σ H fun vs H1 =>
  (∃ j : Int, vs = [.int j] ∧ -(2 ^ 62) ≤ j ∧ j < 2 ^ 62 ∧ R (Itr 0 j.toNat) H1) ∨
  (∃ i j : Int, vs = [.int i, .int j] ∧ (-(2 ^ 62) ≤ i ∧ i < 2 ^ 62 ∧ -(2 ^ 62) ≤ j ∧ j < 2 ^ 62) ∧ R (Itr i (j - i).toNat) H1) ∨
  (∃ (i j c : Int) (n : Nat), vs = [.int i, .int j, .int c] ∧ RgC i j c n ∧ R (Itc i c n) H1)
theorem imp_rngI (mg : MonoG G G) {xs : MXs} {R : It → Hp → Prop} (q : tI K W0 G E (.rng xs) σ H R) :
    tXs K W0 G E xs σ H fun vs H1 => vs.length = lenXs xs ∧ ((∃ j : Int, vs = [.int j] ∧ -(2 ^ 62) ≤ j ∧ j < 2 ^ 62 ∧ R (Itr 0 j.toNat) H1) ∨
      (∃ i j : Int, vs = [.int i, .int j] ∧ (-(2 ^ 62) ≤ i ∧ i < 2 ^ 62 ∧ -(2 ^ 62) ≤ j ∧ j < 2 ^ 62) ∧ R (Itr i (j - i).toNat) H1) ∨
      (∃ (i j c : Int) (n : Nat), vs = [.int i, .int j, .int c] ∧ RgC i j c n ∧ R (Itc i c n) H1)) := by
  obtain ⟨p, h, e, w, hw⟩ := q
  unfold wI at hw
  refine tXs_then mg w (wXs_len mg _ _ _ _ hw) fun d h1 p1 H1 v r w1 x1 rv => ⟨by rw [← rv.length]; exact r.1, ?_⟩
  obtain ⟨_, r⟩ := r
  unfold wRng at r
  split at r
  · obtain ⟨v, rfl, r1⟩ := rvs1 rv
    cases rv_int r1
    refine .inl ⟨_, rfl, r.1.1, r.1.2, r.2 _ _ _ w1.ok x1 ?_⟩
    have z := it_rg (K := K) (W1 := ⟨p1, h1, H1⟩) 0 ‹Int› (g := none)
    rw [Int.sub_zero] at z
    exact z
  · obtain ⟨v, u, rfl, r1, r2⟩ := rvs2 rv
    cases rv_int r1
    cases rv_int r2
    exact .inr (.inl ⟨_, _, rfl, ⟨r.1.1.1, r.1.1.2, r.1.2.1, r.1.2.2⟩, r.2 _ _ _ w1.ok x1 (it_rg _ _)⟩)
  · obtain ⟨v, u, t, rfl, r1, r2, r3⟩ := rvs3 rv
    cases rv_int r1
    cases rv_int r2
    cases rv_int r3
    obtain ⟨⟨a1, a2, rfl⟩, r⟩ := r
    exact .inr (.inr ⟨_, _, _, _, rfl, RgC.neg a1.1 a1.2 a2.1 a2.2, r _ _ _ w1.ok x1 (it_rgC _ _ _)⟩)
  · exact r.elim
theorem imp_rrgI (mg : MonoG G G) {xs : MXs} {R : It → Hp → Prop} (hl : 1 ≤ lenXs xs ∧ lenXs xs ≤ 2) (q : tI K W0 G E (.rrg xs) σ H R) : iRevR (tRgM K W0 G E xs) σ H R := by
  obtain ⟨p, h, e, w, hw⟩ := q
  unfold wI at hw
  refine tRg_then mg w hw (fun vs h1 r => ?_) hl (fun b h1 p1 H1 r w1 x1 => ?_) fun a b h1 p1 H1 r w1 x1 => ?_
  · unfold wRrg at r
    split at r
    · exact .inl ⟨_, rfl⟩
    · exact .inr ⟨_, _, rfl⟩
    · exact r.elim
  · obtain ⟨⟨b1, b2⟩, r⟩ := r
    exact ⟨by decide, by decide, b1, b2, r _ _ _ w1.ok x1 (it_rrg _ _)⟩
  · obtain ⟨⟨⟨a1, a2⟩, ⟨b1, b2⟩⟩, r⟩ := r
    exact ⟨a1, a2, b1, b2, r _ _ _ w1.ok x1 (it_rrg _ _)⟩
theorem tXs_mono (mg : MonoG G G) {a : MXs} {Q Q' : List V → Hp → Prop} (m : ∀ v H, Q v H → Q' v H) (q : tXs K W0 G E a σ H Q) : tXs K W0 G E a σ H Q' := by
  obtain ⟨p, h, e, w, hw⟩ := q
  exact ⟨p, h, e, w, wXs_mono mg (fun _ _ z => z) a e h (fun d h1 r p1 H1 v ok x rv => m _ _ (r p1 H1 v ok x rv)) hw⟩
end
end Mini
end
section
set_option Elab.async false
set_option linter.all false
set_option maxRecDepth 100000
/-! Mini: soundness, comprehensions and loops. -/
namespace Mini
open PySem PySem.Spec PyProof.Rows L2

/-! wiped slots -/
theorem wipe_get {σ : L2.St} {j : Nat} : ∀ vs : List Nat, (L2.wipe σ vs)[j]? = if j ∈ vs then (σ[j]?).map (fun _ => none) else σ[j]?
  | [] => by simp [L2.wipe]
  | v :: vs => by
    show ((L2.wipe σ vs).set v none)[j]? = _
    by_cases h : v = j
    · subst h
      by_cases hl : v < σ.length
      · rw [List.getElem?_set_self (by rw [wipe_length]; exact hl)]
        simp [hl]
      · rw [List.getElem?_eq_none (by rw [List.length_set, wipe_length]; omega), List.getElem?_eq_none (by omega : σ.length ≤ v)]
        simp
    · rw [List.getElem?_set_ne h, wipe_get vs]
      simp [Ne.symm h]
theorem wipe_set {σ : L2.St} {i : Nat} {o : Option V} {vs : List Nat} (h : i ∈ vs) : L2.wipe (σ.set i o) vs = L2.wipe σ vs := by
  apply List.ext_getElem?
  intro j
  rw [wipe_get, wipe_get]
  by_cases hj : j ∈ vs
  · rw [if_pos hj, if_pos hj]
    by_cases hij : i = j
    · subst hij
      by_cases hl : i < σ.length
      · rw [List.getElem?_set_self hl, List.getElem?_eq_getElem hl]; rfl
      · rw [List.getElem?_eq_none (by simpa using hl), List.getElem?_eq_none (by omega : σ.length ≤ i)]
    · rw [List.getElem?_set_ne hij]
  · rw [if_neg hj, if_neg hj, List.getElem?_set_ne (fun (z : i = j) => hj (by rw [← z]; exact h))]
theorem wipe_wipe {σ : L2.St} {vs : List Nat} : L2.wipe (L2.wipe σ vs) vs = L2.wipe σ vs := by
  apply List.ext_getElem?
  intro j
  rw [wipe_get, wipe_get]
  by_cases hj : j ∈ vs
  · rw [if_pos hj, if_pos hj]
    cases σ[j]? <;> rfl
  · rw [if_neg hj, if_neg hj]
section
variable {K : PySem.W.Frag} {W0 : Wd} {G : MG} {E : MEx} {p : Nat → Addr} {h : MH} {H : Hp} {e : MEnv} {σ : L2.St}
theorem all_sndW {C : MEnv → Prop} {ws : List Nat} {Q : L2.St → Hp → Prop} : ∀ {is : List Nat} {xs : List PyData} {vs : List V} {e : MEnv} {σ : L2.St}, xs.length = is.length → FzAll K (live ⟨p, h, H⟩) H vs xs → RE K ⟨p, h, H⟩ e σ → C (setAll is xs e) →
    (∀ i ∈ is, i ∈ ws) → (∀ e1 σ1, RE K ⟨p, h, H⟩ e1 σ1 → L2.wipe σ1 ws = L2.wipe σ ws → C e1 → Q σ1 H) → gAll is vs σ H Q
  | [], [], _, e, σ, _, f, re, c, hi, fin => by
    cases f
    exact ⟨rfl, fin _ _ re rfl c⟩
  | i :: is, x :: xs, _, e, σ, hl, f, re, c, hi, fin => by
    cases f with
    | cons f1 f2 =>
      refine ⟨_, _, rfl, all_sndW (by simpa using hl) f2 (re.set (show RV K ⟨p, h, H⟩ (.d x) _ from f1)) c (fun j hj => hi j (List.mem_cons_of_mem _ hj)) fun e1 σ1 r w c => fin e1 σ1 r ?_ c⟩
      rw [w, wipe_set (hi i List.mem_cons_self)]
  | [], _ :: _, _, _, _, hl, _, _, _, _, _ => by cases hl
  | _ :: _, [], _, _, _, hl, _, _, _, _, _ => by cases hl
theorem tg_sndW {tg : MTg} {x : PyData} {v : V} {C : MEnv → Prop} {own : List (String × Nat)} {Q : L2.St → Hp → Prop} (hw : tgW tg x e C) (rv : RV K ⟨p, h, H⟩ (.d x) v) (re : RE K ⟨p, h, H⟩ e σ) (ti : tgIn own tg = true)
    (fin : ∀ e1 σ1, RE K ⟨p, h, H⟩ e1 σ1 → L2.wipe σ1 (own.map (·.2)) = L2.wipe σ (own.map (·.2)) → C e1 → Q σ1 H) : gTg K tg v σ H Q := by
  unfold tgW at hw
  split at hw
  · exact fin _ _ (re.set rv) (wipe_set (by simpa [tgIn] using ti)) hw
  · split at hw
    · obtain ⟨a, vs, rfl, ea, fa⟩ := rv_tup rv
      refine ⟨a, vs, rfl, ea.sq, by rw [fa.length]; exact hw.1, all_sndW hw.1 fa re hw.2 (fun i hi => ?_) fin⟩
      have z := List.all_eq_true.mp ti i hi
      simpa using z
    · exact hw.elim

def emp : Wd := ⟨fun _ => 0, [], fun _ => none⟩
theorem ext_emp {W : Wd} : Ext K emp W := ext_of (Nat.zero_le _) (fun i hi => absurd hi (Nat.not_lt_zero _)) (fun i hi => absurd hi (Nat.not_lt_zero _)) (fun a o _ _ e => nomatch (show (none : Option HO) = some o from e)) (fun a xs e => nomatch (show (none : Option HO) = some _ from e)) fun a o u e => nomatch (show (none : Option HO) = some _ from e)
abbrev Ef : MEx := fun _ _ _ => False
def tCd (K : PySem.W.Frag) (G : MG) : MXs → TT
  | .nil => tYes
  | .cons a _ => tT K emp G Ef a
theorem tCd_then (mg : MonoG G G) {c : MXs} {R : Bool → MH → Prop} {Q : Bool → Hp → Prop} (w : Wel K emp p h H e σ) (hw : wT G c e h R)
    (k : ∀ t h1 p1 H1, R t h1 → Wel K emp p1 h1 H1 e σ → Ext K ⟨p, h, H⟩ ⟨p1, h1, H1⟩ → Q t H1) : tCd K G c σ H Q := by
  cases c with
  | nil =>
    unfold wT at hw
    exact k _ _ _ _ hw w Ext.refl
  | cons a r =>
    unfold wT at hw
    exact tT_then (E := Ef) mg w hw k
/-- a comprehension -/
theorem imp_lc (mg : MonoG G G) {elt : MX} {tg : MTg} {it : MI} {cond : MXs} {own : List (String × Nat)} (ti : tgIn own tg = true) {Q : VK} (q : tX K W0 G E (.lc elt tg it cond own) σ H Q) :
    tLc (tI K W0 G E it) (gTg K tg) (tCd K G cond) (tX K emp G Ef elt) (own.map (·.2)) σ H Q := by
  obtain ⟨p, h, e, w, hw⟩ := q
  unfold wX at hw
  refine ⟨p, h, e, w, wI_mono mg (fun _ _ z => z) it e h (fun xs g h1 hlc p1 H1 J ok1 x1 io D nD => ?_) hw⟩
  obtain ⟨okD, xD, rD⟩ := wd_lst (K := K) (vs := []) (ds := []) ok1 nD .nil
  refine ⟨fun i m Hc => m = xs.length - i ∧ i ≤ xs.length ∧ ∃ p' h', WOk K ⟨p', h', Hc⟩ ∧ Ext K ⟨fun i => if i = h1.length then D else p1 i, h1 ++ [[]], upd H1 D (.lst [])⟩ ⟨p', h', Hc⟩ ∧
      lcN h1.length tg g (fun e1 h2 K => wT G cond e1 h2 K) (fun e1 h2 Q' => wX G (fun _ _ => False) elt e1 h2 Q') (wipeE e own)
        (fun h2 => ∀ p' H' v, WOk K ⟨p', h2, H'⟩ → Ext K ⟨p, h, H⟩ ⟨p', h2, H'⟩ → RV K ⟨p', h2, H'⟩ (.r h1.length) v → Q v H') (xs.drop i) h',
    ⟨_, rfl, Nat.zero_le _, _, _, okD, Ext.refl, by rw [List.drop_zero]; exact hlc⟩, ?_⟩
  rintro i m H2 ⟨rfl, hi, p2, h2, ok2, x2, hq⟩
  have rD2 := x2 _ _ rD
  have xx : Ext K ⟨p1, h1, H1⟩ ⟨p2, h2, H2⟩ := xD.trans x2
  by_cases hlt : i < xs.length
  · rw [List.drop_eq_getElem_cons hlt] at hq
    unfold lcN at hq
    obtain ⟨gd, hq⟩ := hq
    obtain ⟨go, yld⟩ := io.go i _ ok2 xx gd xs[i] (List.getElem?_eq_getElem hlt)
    refine .inr ⟨go, fun H' => ∃ p' h', WOk K ⟨p', h', H'⟩ ∧ Ext K ⟨fun i => if i = h1.length then D else p1 i, h1 ++ [[]], upd H1 D (.lst [])⟩ ⟨p', h', H'⟩ ∧
      lcN h1.length tg g (fun e1 h2 K => wT G cond e1 h2 K) (fun e1 h2 Q' => wX G (fun _ _ => False) elt e1 h2 Q') (wipeE e own)
        (fun h2 => ∀ p' H' v, WOk K ⟨p', h2, H'⟩ → Ext K ⟨p, h, H⟩ ⟨p', h2, H'⟩ → RV K ⟨p', h2, H'⟩ (.r h1.length) v → Q v H') (xs.drop (i + 1)) h',
      fun H' ⟨p', h', a, b, c⟩ => ⟨_, by omega, rfl, hlt, p', h', a, b, c⟩, fun x H' y => ?_⟩
    obtain ⟨ok3, x3, rv3⟩ := yld x H' y
    have re0 : RE K ⟨p2, h2, H'⟩ (wipeE e own) (L2.wipe σ (own.map (·.2))) := (w.re.ext ((x1.trans xx).trans x3)).wipe own
    refine tg_sndW hq rv3 re0 ti fun e1 σ1 re1 wp hq => ⟨by rw [wp, wipe_wipe], ?_⟩
    refine tCd_then mg ⟨ok3, re1, ext_emp⟩ hq fun t h4 p4 H4 r4 w4 x4 => ?_
    have x4' := (x2.trans x3).trans x4
    have hl : h1.length + 1 = (h1 ++ [[]] : MH).length := by rw [List.length_append]; rfl
    cases t with
    | false =>
      rw [if_neg Bool.false_ne_true] at r4
      obtain ⟨a, b⟩ := wd_cut w4.ok x4' (Nat.le_of_eq hl.symm)
      exact ⟨_, _, a, b, r4⟩
    | true =>
      rw [if_pos rfl] at r4
      refine tX_then (E := Ef) mg w4 r4 fun d h5 p5 H5 v r5 w5 x5 rv5 => ?_
      split at r5
      · have rD5 := (x4'.trans x5) _ _ rD
        obtain ⟨vs, acc, ev, ei, ea, fa, r5⟩ := rv_cell w5.ok rD5 r5
        cases ev
        obtain ⟨a, b⟩ := wd_set (K := K) w5.ok ei (fz_nd fa) (fa.append (.cons rv5 .nil))
        obtain ⟨a2, b2⟩ := wd_cut a ((x4'.trans x5).trans b) (Nat.le_of_eq hl.symm)
        exact ⟨vs, ea, by rw [fa.length, line24]; exact r5.1, _, _, a2, b2, r5.2⟩
      · exact r5.elim
  · have hi2 : i = xs.length := by omega
    subst hi2
    rw [List.drop_length] at hq
    unfold lcN at hq
    exact .inl ⟨io.stop _ _ ok2 xx hq.1 (Nat.le_refl _), hq.2 _ _ _ ok2 (x1.trans xx) rD2⟩
end
end Mini
end
section
set_option Elab.async false
set_option linter.all false
set_option maxRecDepth 100000
set_option maxHeartbeats 1000000
/-! Mini: soundness of every expression. -/
namespace Mini
open PySem PySem.Spec PyProof.Rows L2

theorem isTrue_of {e : Expr} (h : plainT e = true) (env : Env) (whole : Sem Value) : isTrue e env whole = (do let v ← whole; standAt e.pos; holding [v] (truthy v)) := by
  cases e <;> first | rfl | (cases h; done) | (rename_i op x pos; cases op <;> first | rfl | cases h)
theorem plainIx_of {e : Expr} (h : plainI e = true) : PlainIx e := by
  intro o i
  cases e <;> first | rfl | cases h
theorem star_cons {e : Expr} (h : plainE e = true) (es : List Expr) (env : Env) : starEach (e :: es) env = (false, eval e env) :: starEach es env := by
  cases e <;> first | rfl | cases h
theorem folded_of {e : Expr} (h : setE e = false) (env : Env) (x : Value) : foldedSetIterable e env x = pure x := by
  cases e <;> first | rfl | cases h
theorem sw_plain {e : Expr} (h : compE e = false) (t : Option Expr) (l : Nat) (env : Env) : swapsWith e t l env = pure false := by
  cases e <;> first | rfl | cases h
def isBool : Expr → Bool
  | .BoolOp .. => true
  | _ => false
/-- the parts of a comprehension's rule -/
def LcP (X : Cx) (elt : Expr) (gs : List Comprehension) (scope : Scope) (t : TE) : Prop := ∃ (tg iter : Expr) (ifs : List Expr) (own : List (Str × Nat)) (wi : TI) (g : TG) (tt : TT) (te : TE),
  gs = [⟨tg, iter, ifs, 0⟩] ∧ PI X tg iter wi ∧ BlkOk X.N X.env.scope scope own ∧
  (∀ (s : Shared) (H : Hp) (C : Addr) (cl : List (Str × Addr)) (fp : List Addr), PG (X.blk s H scope (compEnvC scope cl C X.env) fp) tg g) ∧
  (∀ (s : Shared) (H : Hp) (C : Addr) (cl : List (Str × Addr)) (fp : List Addr), PTs (X.blk s H scope (compEnvC scope cl C X.env) fp) ifs tt) ∧
  (∀ (s : Shared) (H : Hp) (C : Addr) (cl : List (Str × Addr)) (fp : List Addr), PE (X.blk s H scope (compEnvC scope cl C X.env) fp) elt te) ∧
  (∀ x, foldedSetIterable iter X.env x = pure x) ∧ ∀ σ H Q, t σ H Q → tLc wi g tt te (own.map (·.2)) σ H Q
/-- what is shown of an expression -/
structure XOk (X : Cx) (e : Expr) (a : MX) (t : TE) (u : TT) : Prop where
  pe : PE X e t
  pt : okT a = true → PT X e u
  pw : okT a = true → isBool e = true → PW X e u
  lc : ∀ elt gs scope pos, e = .ListComp elt gs scope pos → LcP X elt gs scope t
abbrev Tk (X : Cx) (W0 : Wd) (E : MEx) : Prop := Takes X (wExc X.K X.mg W0 E)
/-- for the plain forms -/
theorem xok_of {X : Cx} {e : Expr} {a : MX} {W0 : Wd} {G : MG} {E : MEx} (mg : MonoG G G) (hp : PE X e (tX X.K W0 G E a)) (h1 : plainT e = true) (h2 : compE e = false) : XOk X e a (tX X.K W0 G E a) (tT X.K W0 G E a) := by
  refine ⟨hp, fun _ => ?_, fun _ hb => ?_, fun elt gs scope pos z => ?_⟩
  · refine PT.imp (pt_truth hp fun wh => isTrue_of h1 X.env wh) fun σ H Q q => ?_
    refine (tT_plain mg q)
  · cases e <;> first | exact absurd hb Bool.false_ne_true | exact absurd h1 Bool.false_ne_true
  · rw [z] at h2; cases h2
theorem nm_dbg {x : Str} (h : dbgB x = false) : (x == ("__debug__" : Str)) = false ∧ (x == ("__classdict__" : Str)) = false ∧ x ≠ "__name__" := by
  unfold dbgB at h
  simp only [Bool.or_eq_false_iff] at h
  exact ⟨h.1.1, h.1.2, fun z => by subst z; exact absurd h.2 (by decide)⟩
theorem gl_of {X : Cx} {S : Sc} {x : Str} (hs : X.env.scope = S.sc) (h : glB S x = true) : Gl X x ∧ dbgB x = false := by
  unfold glB at h
  rw [Bool.and_eq_true] at h
  refine ⟨?_, by simpa using h.2⟩
  show X.env.scope.names.lookup x = _
  rw [hs]
  have h1 := h.1
  split at h1
  · assumption
  · cases h1
structure BltAt (X : Cx) (b : String) (x : Str) : Prop where
  eq : x = nm b
  gl : Gl X x
  no : X.mg x = none
  db : (x == ("__debug__" : Str)) = false
  nn : x ≠ "__name__"
theorem blt_of {T : List MF} {X : Cx} {S : Sc} {k : Nat} {b : String} {x : Str} (c : CtxOk T X S k) (h : bltB S b x = true) : BltAt X b x := by
  unfold bltB at h
  simp only [Bool.and_eq_true, decide_eq_true_eq] at h
  obtain ⟨⟨h1, h2⟩, h3⟩ := h
  obtain ⟨g, d⟩ := gl_of c.sc h2
  obtain ⟨d1, _, d3⟩ := nm_dbg d
  exact ⟨h1, g, by rw [h1]; exact c.blt b h3, d1, d3⟩
theorem back_any {pos : Pos} {env : Env} : ∀ {es : List Expr}, es.all plainE = true → (backTo pos (starEach es env)).any (·.1) = false
  | [], _ => rfl
  | e :: es, h => by
    rw [List.all_cons, Bool.and_eq_true] at h
    rw [star_cons h.1]
    show (false || (backTo pos (starEach es env)).any (·.1)) = false
    rw [back_any h.2]; rfl
theorem star_all {env : Env} : ∀ {es : List Expr}, es.all plainE = true → (starEach es env).all (fun q => !q.1) = true
  | [], _ => rfl
  | e :: es, h => by
    rw [List.all_cons, Bool.and_eq_true] at h
    rw [star_cons h.1]
    show (true && (starEach es env).all _) = true
    rw [star_all h.2]; rfl
theorem kXs_plain {S : Sc} : ∀ {xs : MXs} {es : List Expr}, kXs xs S es = true → es.all plainE = true
  | .nil, es, q => by
    unfold kXs at q
    cases es with
    | nil => rfl
    | cons _ _ => cases q
  | .cons x xs, es, q => by
    unfold kXs at q
    cases es with
    | nil => cases q
    | cons e es =>
      simp only [Bool.and_eq_true] at q
      rw [List.all_cons, q.1.1, kXs_plain q.2]; rfl
theorem boot_range' : bootBuiltins "range" = some (.type "range") := boot_range
theorem boot_blt (b : MB) : bootBuiltins (nm (bltN b)) = some (bltV b) := by cases b <;> decide +kernel
theorem boot_ty (t : MTy) : bootBuiltins (nm (tyN t)) = some (.type (tyN t)) := by cases t <;> decide +kernel
theorem rel_const {X : Cx} {x : Str} {pos : Pos} {W0 : Wd} {G : MG} {E : MEx} {c : PyData} (hg : Gl X x) {u : Value} (hm : X.mg x = some u) (r : RelC X.K c u) (hd : (x == ("__debug__" : Str)) = false) {g : String} :
    PE X (.Name x pos) (tX X.K W0 G E (.glo g c)) := by
  have key : ∀ v : V, RelV v u → (∀ B H, Fz X.K B H v c) → PE X (.Name x pos) (tX X.K W0 G E (.glo g c)) := fun v rv fz =>
    PE.imp (pe_glob (v := v) hg hm rv hd) fun σ H Q q => by
      obtain ⟨p, h, e, w, hw⟩ := q
      unfold wX at hw
      exact hw _ _ _ w.ok Ext.refl (fz _ _)
  obtain ⟨v, h1, h2⟩ := r.fz
  exact key v h1 h2
theorem pe_cst {X : Cx} {W0 : Wd} {G : MG} {E : MEx} {c : PyData} {k : Const} {n : Nat} {pos : Pos} (h : cstB c k = true) : PE X (.Constant k n pos) (tX X.K W0 G E (.cst c)) ∧ PE X (.Constant k n pos) (tC (cV c)) := by
  have key : ∀ v : V, PE X (.Constant k n pos) (tC v) → (∀ B H, Fz X.K B H v c) → PE X (.Constant k n pos) (tX X.K W0 G E (.cst c)) := fun v hp fz =>
    PE.imp hp fun σ H Q q => by
      obtain ⟨p, h, e, w, hw⟩ := q
      unfold wX at hw
      exact hw _ _ _ w.ok Ext.refl (fz _ _)
  unfold cstB at h
  split at h
  · exact ⟨key .non pe_non fun _ _ => .non, pe_non⟩
  · cases of_decide_eq_true h; exact ⟨key (.bl _) pe_bl fun _ _ => .bl _, pe_bl⟩
  · cases of_decide_eq_true h; exact ⟨key (.int _) pe_int fun _ _ => .int _, pe_int⟩
  · cases of_decide_eq_true h; exact ⟨key (.str _) pe_str fun _ _ => .str _, pe_str⟩
  · cases h
theorem op_isM {X : Cx} (neg : Bool) (c : PyData) : OpR X (compareOp (if neg = true then .IsNot else .Is)) (rIsM neg c) := by
  cases neg <;> cases c <;> first | exact op_isN | exact op_notN | exact op_isBl | exact op_notBl
theorem nomark_is {neg : Bool} {e : Expr} : behindInMarks (if neg = true then .IsNot else .Is) e = false := by
  cases neg <;> exact nomark _
theorem sRg {X : Cx} {W0 : Wd} {G : MG} {E : MEx} {y : Str} {yp pos : Pos} (hg : BltAt X "range" y) {xs : MXs} {es : List Expr} (hl : 1 ≤ lenXs xs ∧ lenXs xs ≤ 2)
    (all : ∀ {a : MX} {xs' : MXs} {e : Expr} {es' : List Expr}, xs = .cons a xs' → es = e :: es' → PE X e (tX X.K W0 G E a)) (all2 : ∀ {a b : MX} {xs' : MXs} {e f : Expr} {es' : List Expr}, xs = .cons a (.cons b xs') → es = e :: f :: es' → PE X f (tX X.K W0 G E b))
    (le : lenXs xs = es.length) (pl : es.all plainE = true) : PRg X (.Call (.Name y yp) es [] pos) (tRgM X.K W0 G E xs) := by
  have ey := hg.eq
  subst ey
  cases xs with
  | nil => exact absurd hl.1 (by decide)
  | cons a xs =>
    cases es with
    | nil => cases le
    | cons e es =>
      cases xs with
      | nil =>
        cases es with
        | nil =>
          rw [List.all_cons, Bool.and_eq_true] at pl
          exact prg_1 hg.gl hg.no (all rfl rfl) (star_cons pl.1 _ _)
        | cons _ _ => simp [lenXs] at le
      | cons b xs =>
        cases xs with
        | nil =>
          cases es with
          | nil => simp [lenXs] at le
          | cons f es =>
            cases es with
            | nil =>
              simp only [List.all_cons, Bool.and_eq_true] at pl
              exact prg_2 hg.gl hg.no (all rfl rfl) (all2 rfl rfl) (star_cons pl.1 _ _) (star_cons pl.2.1 _ _) (back_any (by rw [List.all_cons, pl.2.1]; rfl))
            | cons _ _ => simp [lenXs] at le
        | cons c xs =>
          have z := hl.2
          simp only [lenXs] at z
          omega
end Mini
end
section
set_option Elab.async false
set_option linter.all false
set_option maxRecDepth 100000
set_option maxHeartbeats 4000000
/-! Mini: soundness of dicts, of len(set(..)), of xs.index(y). -/
namespace Mini
open PySem PySem.Spec PyProof.Rows L2

/-! len(set(xs)) -/
theorem range_getD : ∀ ns : List Int, (List.range ns.length).map (fun i => ns.getD i 0) = ns := fun ns => by
  refine List.ext_getElem (by simp) fun i h1 h2 => ?_
  rw [List.getElem_map, List.getElem_range, List.getD_eq_getElem?_getD, List.getElem?_eq_getElem h2]; rfl
theorem first_uniq (ns : List Int) : firstMet (fun i => ns.getD i 0) ns.length = uniq ns := by
  unfold firstMet uniq
  rw [range_getD]
  rfl
def tLenSetG (K : PySem.W.Frag) (ta : TE) : TE := fun σ H Q => ta σ H fun x H1 => ∃ (l : Addr) (ns : List Int), x = V.ref l ∧ SqL K H1 l (ns.map V.int) ∧ ns.length ≤ 4000 ∧ Q (.int (uniq ns).length) H1
theorem uniq_len (ns : List Int) : (uniq ns).length ≤ ns.length := by
  rw [← first_uniq]; exact firstMet_length_le _ _
theorem pe_lenSetG {X : Cx} {a : Expr} {ta : TE} {x y : Str} {p p2 q pos : Pos} (hc : X.calm = true) (hg : Gl X "len") (hm : X.mg "len" = none) (hg2 : Gl X "set") (hm2 : X.mg "set" = none) (ha : PE X a ta)
    (na : starEach [a] X.env = (false, eval a X.env) :: starEach [] X.env) : PE X (.Call (.Name "len" p) [.Call (.Name "set" p2) [a] [] q] [] pos) (tLenSetG X.K ta) := by
  refine ⟨fun pins s σ H Q I h => ?_⟩
  refine Call_ (ld_blt I hg hm PySem.boot_len ?_)
  refine PyProof.Rows.callWith_builtin1 (PyProof.Rows.args_cons ?_ rfl) rfl rfl
  refine Call_ (ld_blt I hg2 hm2 PyProof.Rows.boot_set ?_)
  refine PyProof.Rows.callWith_type1 (PyProof.Rows.args_cons (thn (ha.run pins s σ H _ I h) fun v s1 ⟨x, H1, I1, r1, q1⟩ => PyProof.Rows.args_nil ?_) na) na rfl
  obtain ⟨l, ns, rfl, hq, h1, q1⟩ := q1
  cases r1
  obtain ⟨its, r, pl, hz⟩ := I1.list hq
  have hl : its.toArray.size = ns.length := by rw [List.size_toArray, ← r.length, List.length_map]
  refine call_set_list (I1.ok.hd hc) pl.isList (ns := ns) (by simpa using r.ints) (by unfold scanBound; omega) fun h' tk hS hk => ?_
  rw [hl, first_uniq] at hS
  have hul := uniq_len ns
  refine PyProof.Rows.args_nil ?_
  obtain ⟨o, es, ep, t, ho, hex, hd, _, _, _, hf, hn⟩ := hS
  have I2 : Inv X pins σ H1 { s1 with heap := h', toks := tk } := I1.kept fun b o e => hk b o (Heap.lt_size e) e
  refine call_len_set ho hex hd hf (by rw [hn] <;> omega) ⟨.int (uniq ns).length, H1, I2.tok _, ⟨_, by rw [hn]⟩, q1⟩
section
variable {K : PySem.W.Frag} {W0 : Wd} {G : MG} {E : MEx} {p : Nat → Addr} {h : MH} {H : Hp} {e : MEnv} {σ : L2.St}
theorem imp_lenSet (mg : MonoG G G) {a : MX} {Q : VK} (q : tX K W0 G E (.lenSet a) σ H Q) : tLenSetG K (tX K W0 G E a) σ H Q := by
  obtain ⟨p, h, e, w, hw⟩ := q
  unfold wX at hw
  refine tX_then mg w hw fun d h1 p1 H1 v r w1 x1 rv => ?_
  unfold wLenSet at r
  obtain ⟨a, vs, xs, rfl, ea, fa, r⟩ := lst_snd w1.ok rv r
  split at r
  · rename_i ns en
    exact ⟨a, ns, rfl, by rw [← intsL_fz fa en]; exact SqL.of ea, r.1, fin_here w1.ok (fin_to x1) r.2 (.int _)⟩
  · exact r.elim

/-! xs.index(y) -/
theorem idx_at {B : Addr → Prop} {H : Hp} {d : PyData} {w : V} (f : Fz K B H w d) (fd : flatD d = true) : ∀ {ds : List PyData} {ws : List V} {j : Nat}, FzAll K B H ws ds → ds.all flatD = true → (ds.findIdx? fun y => PyData.eqv y d) = some j →
    ∃ z, ws[j]? = some z ∧ eqV z w = true ∧ ∀ (m : Nat) (z' : V), m < j → ws[m]? = some z' → eqV z' w = false
  | _, _, _, .nil, _, h => by simp at h
  | e :: ds, t :: ws, j, .cons g r, fl, h => by
    rw [List.all_cons, Bool.and_eq_true] at fl
    have he := eqv_V g f fl.1 fd
    rw [List.findIdx?_cons] at h
    cases hb : PyData.eqv e d with
    | true =>
      rw [hb] at h
      simp at h
      subst h
      exact ⟨t, rfl, he.trans hb, fun m z' hm _ => absurd hm (Nat.not_lt_zero _)⟩
    | false =>
      rw [hb] at h
      simp only [Bool.false_eq_true, if_false, Option.map_eq_some_iff] at h
      obtain ⟨i, hi, rfl⟩ := h
      obtain ⟨z, h1, h2, h3⟩ := idx_at f fd r fl.2 hi
      refine ⟨z, by simpa using h1, h2, fun m z' hm hz => ?_⟩
      cases m with
      | zero => simp at hz; subst hz; exact he.trans hb
      | succ m => exact h3 m z' (by omega) (by simpa using hz)
theorem imp_idx (mg : MonoG G G) {o x : MX} {Q : VK} (q : tX K W0 G E (.idxOf o x) σ H Q) : tBM K "list" (rIndex K) (tX K W0 G E o) (tCons (tX K W0 G E x) tNil) σ H Q := by
  obtain ⟨p, h, e, w, hw⟩ := q
  unfold wX at hw
  refine tX_then mg w hw fun d h1 p1 H1 v r w1 x1 rv => ?_
  obtain ⟨a, vs, xs, rfl, ea, fa, r⟩ := lst_snd w1.ok rv r
  refine ⟨.inl ⟨rfl, vs, SqL.of ea⟩, ?_⟩
  refine tX_then mg w1 r fun d2 h2 p2 H2 v2 r2 w2 x2 rv2 => ?_
  unfold wIdx at r2
  split at r2
  · rename_i y
    obtain ⟨b, us, ys, eb, eb2, fb, r2⟩ := lst_snd w2.ok (x2 _ _ rv) r2
    cases eb
    obtain ⟨⟨f1, f2⟩, r2⟩ := r2
    split at r2
    · rename_i j ej
      have fy : Fz K (live ⟨p2, h2, H2⟩) H2 v2 y := rv2
      obtain ⟨z, h1, h2, h3⟩ := idx_at fy f1 fb f2 ej
      exact ⟨_, us, v2, j, z, rfl, rfl, SqL.of eb2, flat_V fy f1, flat_all fb f2, h1, h2, h3, fin_here w2.ok (fin_to (x1.trans x2)) r2 (.int _)⟩
    · exact r2.elim
  · exact r2.elim

/-! dicts -/
theorem isD_of {a : Addr} {t : Bool} {ps : List (PyData × PyData)} (d : DOk K (live ⟨p, h, H⟩) H a t ps) : IsD H a := by
  cases t with
  | false => obtain ⟨kvs, e, _⟩ := d; exact .inl ⟨kvs, .inl e⟩
  | true => obtain ⟨kvs, e, _⟩ := d; exact .inr ⟨kvs, .inl e⟩
theorem isD_m {i : Nat} {v : V} (ok : WOk K ⟨p, h, H⟩) (r : RV K ⟨p, h, H⟩ (.m i) v) : ∃ a, v = .ref a ∧ IsD H a := by
  rcases ok.cells i _ (List.getElem?_eq_getElem r.1.1) with ⟨k, _⟩ | ⟨t, ps, _, d⟩
  · have := (kd_of (List.getElem?_eq_getElem r.1.1)).symm.trans r.1.2
    rw [k] at this; cases this
  · exact ⟨_, r.2, isD_of d⟩
theorem imp_dgetD (mg : MonoG G G) {o k x : MX} {Q : VK} (q : tX K W0 G E (.dgetD o k x) σ H Q) : tDGet2 (tX K W0 G E o) (tX K W0 G E k) (tX K W0 G E x) σ H Q := by
  obtain ⟨p, h, e, w, hw⟩ := q
  unfold wX at hw
  refine tX_then mg w hw fun d h1 p1 H1 v r w1 x1 rv => ?_
  split at r
  · obtain ⟨a, ea, ia⟩ := isD_m w1.ok rv
    refine ⟨a, ea, ia, tX_then mg w1 r fun d2 h2 p2 H2 v2 r2 w2 x2 rv2 => tX_then mg w2 r2 fun d3 h3 p3 H3 v3 r3 w3 x3 rv3 => ?_⟩
    cases d2 with
    | d kk =>
      cases d3 with
      | d xx =>
        have rm := x3 _ _ (x2 _ _ rv)
        unfold wDgetD at r3
        obtain ⟨t, ps, ev, eh, dd, hk, r3⟩ := rv_dct w3.ok rm r3
        rw [ea] at ev
        cases ev
        rcases dget_snd dd (x3 _ _ rv2) hk with ⟨e1, g⟩ | ⟨u, z, e1, g, f⟩
        · rw [e1] at r3
          exact ⟨none, g, fin_here w3.ok (fin_to ((x1.trans x2).trans x3)) r3 rv3⟩
        · rw [e1] at r3
          exact ⟨some u, g, fin_here w3.ok (fin_to ((x1.trans x2).trans x3)) r3 f⟩
      | _ => exact r3.elim
    | _ => exact r3.elim
  · exact r.elim
theorem imp_dnew (mg : MonoG G G) {Q : VK} (q : tX K W0 G E (.dnew false) σ H Q) : tDNewK σ H Q := by
  obtain ⟨p, h, e, w, hw⟩ := q
  unfold wX at hw
  intro q n
  obtain ⟨a, b, c⟩ := wd_dct (K := K) (o := .dK []) (t := false) (ps := []) w.ok n fun B' H' _ _ e => ⟨[], e, .nil⟩
  exact hw _ _ _ a b c
theorem imp_dnewT (mg : MonoG G G) {Q : VK} (q : tX K W0 G E (.dnew true) σ H Q) : tDNewT σ H Q := by
  obtain ⟨p, h, e, w, hw⟩ := q
  unfold wX at hw
  intro q n
  obtain ⟨a, b, c⟩ := wd_dct (K := K) (o := .dT []) (t := true) (ps := []) w.ok n fun B' H' _ _ e => ⟨[], e, .nil⟩
  exact hw _ _ _ a b c
/-- a display's pairs -/
def trsOf (K : PySem.W.Frag) (W0 : Wd) (G : MG) (E : MEx) : List PyData → MXs → List (TE × TE)
  | k :: ks, .cons x xs => (tC (cV k), tX K W0 G E x) :: trsOf K W0 G E ks xs
  | _, _ => []
theorem pairs_then (mg : MonoG G G) : ∀ {xs : MXs} {ks : List PyData} {p : Nat → Addr} {h : MH} {H : Hp} {R : List MV → MH → Prop} {P : List (V × V) → Hp → Prop}, Wel K W0 p h H e σ → wXs G (fun x h' => E x e h') xs e h R → lenXs xs = ks.length →
    (∀ ds h1 p1 H1 vs, R ds h1 → Wel K W0 p1 h1 H1 e σ → Ext K ⟨p, h, H⟩ ⟨p1, h1, H1⟩ → RVs K ⟨p1, h1, H1⟩ ds vs → P ((ks.map cV).zip vs) H1) → tPairs (trsOf K W0 G E ks xs) σ H P
  | .nil, ks, p, h, H, R, P, w, hw, hl, k => by
    unfold wXs at hw
    cases ks with
    | nil => exact k [] h p H [] hw w Ext.refl .nil
    | cons _ _ => exact absurd hl (by simp [lenXs])
  | .cons x xs, ks, p, h, H, R, P, w, hw, hl, k => by
    unfold wXs at hw
    cases ks with
    | nil => exact absurd hl (by simp [lenXs])
    | cons c ks =>
      show tX K W0 G E x σ H fun y H2 => tPairs (trsOf K W0 G E ks xs) σ H2 fun ps H3 => P ((cV c, y) :: ps) H3
      refine tX_then mg w hw fun d h1 p1 H1 v r w1 x1 rv => ?_
      exact pairs_then mg w1 r (by simpa [lenXs] using hl) fun ds h2 p2 H2 vs r2 w2 x2 rs => k (d :: ds) h2 p2 H2 (v :: vs) r2 w2 (x1.trans x2) (.cons (x2 _ _ rv) rs)
theorem keyV {k : PyData} (h : flatK k = true) : ∃ k' : L2.Key, cV k = kV k' ∧ k = keyD k' := by
  cases k with
  | int i => exact ⟨.inl i, rfl, rfl⟩
  | str s => exact ⟨.inr s, rfl, rfl⟩
  | _ => cases h
theorem disp_rel {B : Addr → Prop} {H : Hp} : ∀ {ks : List PyData} {vs : List V} {ds : List PyData}, ks.all flatK = true → ks.length = ds.length → FzAll K B H vs ds →
    ∃ kvs : List (L2.Key × V), (ks.map cV).zip vs = kvs.map (fun kv => (kV kv.1, kv.2)) ∧ kvs.length = ks.length ∧ ∀ {acc : List (L2.Key × V)} {pacc : List (PyData × PyData)}, Paired (fun (x : L2.Key × V) p => keyD x.1 = p.1 ∧ Fz K B H x.2 p.2) acc pacc →
      Paired (fun (x : L2.Key × V) p => keyD x.1 = p.1 ∧ Fz K B H x.2 p.2) (mergeK acc kvs) ((ks.zip ds).foldl (fun ps p => dputP ps p.1 p.2) pacc)
  | [], vs, ds, _, hl, f => by
    cases f with
    | nil => exact ⟨[], rfl, rfl, fun r => r⟩
    | cons _ _ => cases hl
  | k :: ks, vs, ds, hk, hl, f => by
    rw [List.all_cons, Bool.and_eq_true] at hk
    cases f with
    | nil => cases hl
    | @cons v vs d ds fv ft =>
      obtain ⟨k', e1, e2⟩ := keyV hk.1
      obtain ⟨kvs, h1, h2, h3⟩ := disp_rel hk.2 (by simpa using hl) ft
      refine ⟨(k', v) :: kvs, ?_, by simp [h2], fun {acc pacc} r => ?_⟩
      · show (cV k, v) :: ((ks.map cV).zip vs) = _
        rw [h1, e1]; rfl
      · show Paired _ (mergeK (putK acc k' v) kvs) ((ks.zip ds).foldl _ (dputP pacc k d))
        rw [e2]
        exact h3 (dput_rel keyIs_D fv r)
theorem kKeys_len : ∀ {ks : List PyData} {keys : List (Option Expr)}, kKeys ks keys = true → keys.length = ks.length ∧ keys.all (·.isSome) = true
  | [], [], _ => ⟨rfl, rfl⟩
  | [], _ :: _, q => by simp [kKeys] at q
  | _ :: _, [], q => by simp [kKeys] at q
  | k :: ks, none :: es, q => by simp [kKeys] at q
  | k :: ks, some e :: es, q => by
    unfold kKeys at q
    split at q
    · rename_i h _; cases h
    · rename_i h1 h2
      cases h1; cases h2
      simp only [Bool.and_eq_true] at q
      obtain ⟨a, b⟩ := kKeys_len q.2
      exact ⟨by simp [a], by simp [b]⟩
    · cases q
theorem imp_dlit (mg : MonoG G G) {ks : List PyData} {xs : MXs} {Q : VK} (hl : lenXs xs = ks.length) (h15 : ks.length ≤ 15) (q : tX K W0 G E (.dlit ks xs) σ H Q) : tDisp (trsOf K W0 G E ks xs) σ H Q := by
  obtain ⟨p, h, e, w, hw⟩ := q
  unfold wX at hw
  intro q n
  obtain ⟨ok2, x2⟩ := wd_gar (K := K) (o := .dK []) w.ok n
  have w2 := w.to ok2 x2
  have nl : ¬ live ⟨p, h, upd H q (.dK [])⟩ q := fun ⟨i, ys, e1, e2⟩ => by
    obtain ⟨ws, e3, _⟩ := (w.ok.cells i ys e1).obj
    have e2 : p i = q := e2
    have e3 : H (p i) = some ws := e3
    rw [e2, n] at e3; cases e3
  refine pairs_then mg w2 hw hl fun ds h1 p1 H1 vs r w1 x1 rs => ?_
  obtain ⟨nl1, hq1⟩ := x1.ml q (.dK []) trivial nl upd_same
  have hq1 : H1 q = some (.dK []) := hq1
  refine ⟨hq1, ?_⟩
  unfold wDlit at r
  split at r
  · rename_i ys ey
    obtain ⟨⟨r1, r2⟩, r3⟩ := r
    have fa := datas_fz rs ey
    obtain ⟨kvs, z1, z2, z3⟩ := disp_rel r2 r1 fa
    refine ⟨kvs, z1, by omega, ?_⟩
    have rel := z3 (acc := []) (pacc := []) .nil
    obtain ⟨a, b⟩ := wd_adopt (K := K) (o := .dK (mergeK [] kvs)) (ds := dcell false ((ks.zip ys).foldl (fun ps p => dputP ps p.1 p.2) [])) n w1.ok (x2.trans x1) nl1 hq1 fun B' H' ml mt e' =>
      .inr ⟨false, _, rfl, _, e', Paired.mapP rel fun a q z => ⟨z.1, Fz.mono ml mt _ _ z.2⟩⟩
    refine r3 _ _ _ a b ⟨⟨by simp, by rw [kd_new]; exact dc_dcell⟩, by simp⟩
  · exact r.elim
end
end Mini
end
section
set_option Elab.async false
set_option linter.all false
set_option maxRecDepth 100000
set_option maxHeartbeats 4000000
/-! Mini: sorted(set(xs)) of ints. -/
namespace Mini
open PySem PySem.Spec PyProof.Rows L2

/-! the plain side -/
theorem mem_insU {x k : Int} : ∀ {l : List Int}, k ∈ insU x l ↔ k = x ∨ k ∈ l
  | [] => by unfold insU; simp
  | y :: l => by
    unfold insU
    split
    · simp
    · split
      · rename_i e
        subst e
        simp only [List.mem_cons]
        exact ⟨fun h => h.elim .inl fun h => .inr (.inr h), fun h => h.elim .inl fun h => h⟩
      · simp only [List.mem_cons, mem_insU (x := x) (k := k) (l := l)]
        exact ⟨fun h => h.elim (fun h => .inr (.inl h)) fun h => h.elim .inl fun h => .inr (.inr h), fun h => h.elim (fun h => .inr (.inl h)) fun h => h.elim .inl fun h => .inr (.inr h)⟩
theorem insU_lt {x : Int} : ∀ {l : List Int}, l.Pairwise (· < ·) → (insU x l).Pairwise (· < ·)
  | [], _ => by unfold insU; exact List.pairwise_singleton _ _
  | y :: l, h => by
    unfold insU
    obtain ⟨h1, h2⟩ := List.pairwise_cons.mp h
    split
    · rename_i c
      refine List.pairwise_cons.mpr ⟨fun z hz => ?_, h⟩
      rcases List.mem_cons.mp hz with e | hz
      · rw [e]; exact c
      · exact Int.lt_trans c (h1 z hz)
    · split
      · exact h
      · rename_i c d
        refine List.pairwise_cons.mpr ⟨fun z hz => ?_, insU_lt h2⟩
        rcases mem_insU.mp hz with e | hz
        · rw [e]; omega
        · exact h1 z hz
theorem mem_sset {k : Int} : ∀ {l : List Int}, k ∈ sset l ↔ k ∈ l
  | [] => by unfold sset; simp
  | y :: l => by
    have e : sset (y :: l) = insU y (sset l) := rfl
    rw [e, mem_insU, mem_sset, List.mem_cons]
theorem sset_lt : ∀ {l : List Int}, (sset l).Pairwise (· < ·)
  | [] => List.Pairwise.nil
  | y :: l => by
    have e : sset (y :: l) = insU y (sset l) := rfl
    rw [e]; exact insU_lt sset_lt
theorem insU_len {x : Int} : ∀ {l : List Int}, (insU x l).length ≤ l.length + 1
  | [] => by unfold insU; simp
  | y :: l => by
    unfold insU
    split
    · simp
    · split
      · simp
      · simp only [List.length_cons]; have := insU_len (x := x) (l := l); omega
theorem sset_len : ∀ {l : List Int}, (sset l).length ≤ l.length
  | [] => Nat.le_refl _
  | y :: l => by
    have e : sset (y :: l) = insU y (sset l) := rfl
    rw [e, List.length_cons]; exact Nat.le_trans insU_len (Nat.succ_le_succ sset_len)
/-- two rising lists with the same members are one -/
theorem rise_uniq {a b : List Int} (ha : a.Pairwise (· < ·)) (hb : b.Pairwise (· < ·)) (h : ∀ k, k ∈ a ↔ k ∈ b) : a = b := by
  have nd : ∀ {l : List Int}, l.Pairwise (· < ·) → l.Nodup := fun h => h.imp fun {x y} c => Int.ne_of_lt c
  have pm : a.Perm b := (List.perm_ext_iff_of_nodup (nd ha) (nd hb)).mpr h
  exact List.Perm.eq_of_pairwise (le := fun x y : Int => x ≤ y) (fun a b _ _ h1 h2 => Int.le_antisymm h1 h2) (ha.imp fun {x y} c => Int.le_of_lt c) (hb.imp fun {x y} c => Int.le_of_lt c) pm
theorem sset_uniq {a ns : List Int} (ha : a.Pairwise (· < ·)) (h : ∀ k, k ∈ a ↔ k ∈ ns) : a = sset ns := rise_uniq ha sset_lt fun k => (h k).trans mem_sset.symm

section
variable {P : Program} {w : World} {A : Around} {E : Value → Shared → Prop} {s : Shared} {a : Addr}
set_option maxRecDepth 100000 in
set_option maxHeartbeats 3200000 in
theorem call_set_lstI {l : Addr} {items : Array Value} (ns : List Int) {Q : Value → Shared → Prop} (hh : A.handled = none) (hl : s.heap.IsList l items) (hit : IntsAre items.toList ns) (hb : ns.length + 1 < scanBound)
    (h : ∀ (h' : Heap) (tk c : Nat), SetR w h' s.heap.objs.size (fun j => decide (j ∈ ns)) c → c ≤ ns.length → (∀ b o, s.heap.get? b = some o → h'.get? b = some o) → Q (.ref s.heap.objs.size) { s with heap := h', toks := tk }) :
    wpAny (model P w) A (call (.type "set") [.ref l]) Q E s := by
  have hisz : items.size = ns.length := by
    have q := IntsAre.length hit
    rw [Array.length_toList] at q
    exact q
  obtain ⟨c, tl, hmro⟩ := F.called_set.mro
  have hmade := F.called_set.made
  have hsub := F.called_set.sub
  refine wpAny_call (codeAny_of_tree ?_)
  show wpAny _ _ (callAny (.type "set") _) _ _ _
  refine wpAny_pure ⟨Code.quiet_builtin _ (by decide +kernel), codeAny_builtin F.entry_type_call ?_⟩
  rw [Around.under_plain (weight_type_call_type "set" [.ref l] []) rfl]
  have h1 := F.called_set.notType
  have h2 := F.called_set.canCreate
  have hct := F.typeCall_set_1 (.ref l)
  repeat (any_goals (first | assumption | wp_step))

  refine codeAny_mono (code_set_led1 (.ref l) (E := E) (Q₁ := fun obj s₁ => obj = .ref s.heap.objs.size ∧ s₁ = { s with heap := s.heap.push { cls := .type "set", dict := none, data := .set #[] 0 (.fresh 0 0 (!w.params.followText "set-order")) } }) ⟨rfl, rfl⟩) fun r s₁ hr => ?_
  cases r with
  | error e => exact hr
  | ok fl =>
    cases fl with
    | ret obj =>
      obtain ⟨rfl, rfl⟩ := hr
      have hS : (s.heap.push { cls := .type "set", dict := none, data := .set #[] 0 (.fresh 0 0 (!w.params.followText "set-order")) }).get? s.heap.objs.size = some { cls := .type "set", dict := none, data := .set #[] 0 (.fresh 0 0 (!w.params.followText "set-order")) } := Heap.get?_push_size _ rfl
      have hT : Shared.TypeIs { s with heap := s.heap.push { cls := .type "set", dict := none, data := .set #[] 0 (.fresh 0 0 (!w.params.followText "set-order")) } } (.ref s.heap.objs.size) "set" := ⟨_, hS, rfl⟩
      have hli := F.called_set.init.lookup
      have hbi := F.called_set.init.bind (.ref s.heap.objs.size)
      repeat (any_goals (first | assumption | wp_step))

      refine codeAny_mono (codeAny_call_builtin (R := wants (fun r s₂ => r = .none ∧ ∃ h' tk c, s₂ = { s with heap := h', toks := tk } ∧ SetR w h' s.heap.objs.size (fun j => decide (j ∈ ns)) c ∧ c ≤ ns.length ∧
          (∀ b o, s.heap.get? b = some o → h'.get? b = some o)) E) F.called_set.init.plain F.entry_set_init (check_set_init_1 hT ?_)) fun r₂ s₂ hr₂ => ?_
      · obtain ⟨ol, hol, hcl, nl, hdl⟩ := hl
        obtain ⟨ocls, odict, odata, oslots⟩ := ol
        simp only at hcl hdl
        subst hcl; subst hdl
        have hol' : (s.heap.push { cls := .type "set", dict := none, data := .set #[] 0 (.fresh 0 0 (!w.params.followText "set-order")) }).get? l = some { cls := .type "list", dict := odict, data := .seq items nl, slots := oslots } := Heap.get?_push_of_some _ hol
        have hsls := F.sub_list_set
        have hslf := F.sub_list_frozenset
        have hne : (Value.type "list" == Value.type "dict") = false := by decide
        have hl1 : (s.heap.push { cls := .type "set", dict := none, data := .set #[] 0 (.fresh 0 0 (!w.params.followText "set-order")) }).IsList l items := ⟨_, hol', rfl, nl, rfl⟩
        unfold Builtin.«set.__init__» noKeywords Builtin.Frozenset.updateFrom
        generalize hPI : pyIter = PI
        wp_walk
        subst hPI

        refine wpAny_pyIter_list hl1 ?_
        refine wpAny_bind (wpAny_runValue ?_)
        have hlS : l < s.heap.objs.size := Heap.lt_size hol
        have hh3 : A.in1.in1.in1.handled = none := by simp [hh]
        have hz1 : (s.heap.push { cls := .type "set", dict := none, data := .set #[] 0 (.fresh 0 0 (!w.params.followText "set-order")) }).objs.size = s.heap.objs.size + 1 := Heap.size_push ..
        have hneI : l ≠ (s.heap.push { cls := .type "set", dict := none, data := .set #[] 0 (.fresh 0 0 (!w.params.followText "set-order")) }).objs.size := by
          rw [Heap.size_push]; exact Nat.ne_of_lt (Nat.lt_succ_of_lt hlS)
        have hSf : s.heap.objs.size ∉ [(s.heap.push { cls := .type "set", dict := none, data := .set #[] 0 (.fresh 0 0 (!w.params.followText "set-order")) }).objs.size, l] := by
          rw [Heap.size_push]; simp only [List.mem_cons, List.mem_singleton, List.not_mem_nil, or_false, not_or]
          exact ⟨Nat.ne_of_lt (Nat.lt_succ_self _), Nat.ne_of_gt hlS⟩
        have hval : ∀ (i : Nat) (v : Value), items[i]? = some v → ∃ k t, ns[i]? = some k ∧ v = .int k t := fun i v hv => by
          have hi : i < ns.length := by rw [← hisz]; exact (Array.getElem?_eq_some_iff.mp hv).1
          obtain ⟨t, e⟩ := PyProof.Rows.IntsAre.int_at hit i v (by rw [Array.getElem?_toList]; exact hv)
          refine ⟨ns[i], t, List.getElem?_eq_getElem hi, ?_⟩
          rw [e, List.getD_eq_getElem?_getD, List.getElem?_eq_getElem hi] <;> rfl
        refine set_update_ints ((Walks.list hh3 _ l hneI items).toS) s.heap.objs.size
          hSf ns hisz hb hval (items.size - 0) 0 _ (by omega) (Nat.zero_le _)
          ⟨⟨_, Heap.get?_push_size _ rfl, rfl, rfl⟩, (hl1.push _)⟩ ?hS0 ?hR
        case hS0 =>
          have hget : ((s.heap.push { cls := .type "set", dict := none, data := .set #[] 0 (.fresh 0 0 (!w.params.followText "set-order")) }).push { cls := .type "list_iterator", data := .fields #[.ref l, .int 0 0] }).get? s.heap.objs.size
              = some { cls := .type "set", dict := none, data := .set #[] 0 (.fresh 0 0 (!w.params.followText "set-order")) } := Heap.get?_push_of_some _ hS
          exact ⟨0, Nat.le_refl 0, setR_new_at hget⟩
        case hR =>
          intro s' c' hm hc' hS'
          obtain ⟨h', g2, d', tk', os'⟩ := s'
          have eg : g2 = s.gens := hm.gens
          have ed : d' = s.drawn := hm.drawn
          have eo : os' = s.os := hm.os
          subst eg; subst ed; subst eo
          show wpAny _ _ _ _ _ _
          refine wpAny_pure ?_
          show wpAny _ _ (ret Value.none) _ _ _
          rw [hisz] at hc'
          refine wpAny_pure ⟨rfl, h', tk', c', rfl, hS', hc', fun b o e => ?_⟩
          have hb0 : b < s.heap.objs.size := Heap.lt_size e
          have hb1 : b ≠ s.heap.objs.size := Nat.ne_of_lt hb0
          have hb2 : b ≠ (s.heap.push { cls := .type "set", dict := none, data := .set #[] 0 (.fresh 0 0 (!w.params.followText "set-order")) }).objs.size := by
            rw [Heap.size_push]; exact Nat.ne_of_lt (Nat.lt_succ_of_lt hb0)
          exact hm.heap b o (by simp only [List.mem_cons, List.mem_singleton, List.not_mem_nil, or_false, not_or]; exact ⟨hb1, hb2⟩) (Heap.get?_push_of_some _ (Heap.get?_push_of_some _ e))

      · cases r₂ with
        | error e => exact hr₂
        | ok fl₂ =>
          cases fl₂ with
          | ret r =>
            obtain ⟨rfl, h', tk, c', rfl, hS', hc', hk'⟩ := hr₂
            repeat (any_goals (first | assumption | wp_step))
            exact h _ _ _ hS' hc' hk'
          | _ => exact hr₂.elim
    | _ => exact hr.elim

theorem sorted_setI {S : Int → Bool} {n : Nat} {Q : Value → Shared → Prop} (R : SetR w s.heap a S n) (hh : A.handled = none)
    (hQ : ∀ s' p (out : List Value) (c : Nat) (ns : List Int), (∀ b o, s.heap.get? b = some o → s'.heap.get? b = some o) → s'.gens = s.gens → s'.os = s.os → s.heap.objs.size ≤ p →
      s'.heap.get? p = some (seqObj "list" out.toArray c) → IntsAre out ns → ns.Pairwise (· < ·) → (∀ k, k ∈ ns ↔ S k = true) → ns.length = n → Q (.ref p) s') :
    wpAny (model P w) A (call (.builtin "sorted") [.ref a]) Q E s := by
  obtain ⟨o, es, ep, t, ho, hex, hd, g, nd, hm, hb, hf, hn, hr, hl⟩ := R
  refine Calls.call_function_entry kind_sorted plain_sorted entry_sorted (args_sorted1 _) ?_
  unfold Builtin.«sorted»
  refine wpAny_bind (m := checkCount "sorted" 1 1 _) (wpAny_pure ?_)
  refine wpAny_bind (collect_set (A := A.in1) hh ⟨o, ho, hex.1, hd⟩ hf hb hr hl fun s1 vs k1 hz g1 o1 pm => ?_)
  have hvl : vs.length = n := by rw [pm.length_eq, List.length_map, Array.length_toList]; exact hn
  have hvz : vs.length ≤ sizeLine := by
    rw [hvl, ← hn]
    exact fits_of_scanBound hb
  have hI : IntsAre vs (vs.map SrtO.iv) := SrtO.ints_iv fun v hv => by
    obtain ⟨e, he, q⟩ := List.mem_map.mp (pm.mem_iff.mp hv)
    obtain ⟨k, tk, h1, _⟩ := g e he
    exact ⟨k, tk, by rw [← q]; exact h1⟩
  have pk : (vs.map SrtO.iv).Perm (es.toList.map keyOf) := by
    have q := pm.map SrtO.iv
    rw [List.map_map] at q
    have ee : es.toList.map (SrtO.iv ∘ fun x => x.2) = es.toList.map keyOf := List.map_congr_left fun e he => by
      obtain ⟨k, tk, h1, _⟩ := g e he
      show SrtO.iv e.2 = keyOf e
      unfold keyOf
      rw [h1] <;> rfl
    rw [ee] at q
    exact q
  refine wpAny_bind (wpAny_newList ?_ hvz)
  have hoL : (s1.heap.push (seqObj "list" vs.toArray 0)).get? s1.heap.objs.size = some (seqObj "list" vs.toArray 0) := Heap.get?_push_size _ rfl
  refine wpAny_bind (wpAny_holding (wpAny_call_entry slot_list_sort ⟨_, hoL, rfl⟩ entry_list_sort (SrtO.list_sort_ord SrtO.swo_int hoL hvz (fun h2 => SrtO.ints_sortable hI h2) fun out h1 h2 => ⟨_, rfl, ?_⟩) (args_list_sort _)))
  obtain ⟨j1, j2, j3⟩ := SrtO.ints_out hI h1 h2
  obtain ⟨c, hc⟩ := sortedHeap_at (vs := vs) (out := out.toArray) hoL
  have pn : (out.map SrtO.iv).Perm (es.toList.map keyOf) := j2.trans pk
  refine wpAny_pure ⟨_, rfl, hQ _ s1.heap.objs.size out c (out.map SrtO.iv) (fun b u e => ?_) g1 o1 hz hc j1 (lt_of_le_nodup _ j3 (pn.nodup_iff.mpr nd)) (fun k => by rw [pn.mem_iff, ← hm k]) ?_⟩
  · have q := k1 b u e
    have hlt := Heap.lt_size q
    show (sortedHeap (s1.heap.push (seqObj "list" vs.toArray 0)) s1.heap.objs.size vs out.toArray).get? b = some u
    rw [sortedHeap_old (Nat.ne_of_lt hlt) (by rw [size_push']; exact Nat.lt_succ_of_lt hlt)]
    exact Heap.get?_push_of_some _ q
  · rw [pn.length_eq, List.length_map, Array.length_toList]; exact hn
end

def tSrtSet (K : PySem.W.Frag) (ta : TE) : TE := fun σ H Q => ta σ H fun x H1 => ∃ (l : Addr) (ns : List Int), x = V.ref l ∧ (SqL K H1 l (ns.map V.int) ∨ SqT K H1 l (ns.map V.int)) ∧ ns.length ≤ 4000 ∧
  ∀ p, H1 p = none → Q (.ref p) (upd H1 p (.lst ((sset ns).map V.int)))
theorem pe_srtSet {X : Cx} {a : Expr} {ta : TE} {x y : Str} {p p2 q pos : Pos} (hc : X.calm = true) (hg : Gl X "sorted") (hm : X.mg "sorted" = none) (hg2 : Gl X "set") (hm2 : X.mg "set" = none) (ha : PE X a ta)
    (na : starEach [a] X.env = (false, eval a X.env) :: starEach [] X.env) : PE X (.Call (.Name "sorted" p) [.Call (.Name "set" p2) [a] [] q] [] pos) (tSrtSet X.K ta) := by
  refine ⟨fun pins s σ H Q I h => ?_⟩
  refine Call_ (ld_blt I hg hm PyProof.Rows.boot_sorted ?_)
  refine PyProof.Rows.callWith_builtin1 (PyProof.Rows.args_cons ?_ rfl) rfl rfl
  refine Call_ (ld_blt I hg2 hm2 PyProof.Rows.boot_set ?_)
  refine PyProof.Rows.callWith_type1 (PyProof.Rows.args_cons (thn (ha.run pins s σ H _ I h) fun v s1 ⟨x, H1, I1, r1, q1⟩ => PyProof.Rows.args_nil ?_) na) na rfl
  obtain ⟨l, ns, rfl, hq, h1, q1⟩ := q1
  cases r1
  have fin : ∀ (h' : Heap) (tk c : Nat), SetR X.w h' s1.heap.objs.size (fun j => decide (j ∈ ns)) c → (∀ b o, s1.heap.get? b = some o → h'.get? b = some o) →
      wpAny (model X.prog X.w) X.A (call (.builtin "sorted") [.ref s1.heap.objs.size]) (EP X pins σ Q) X.xe { s1 with heap := h', toks := tk } := fun h' tk c R1 k => by
    refine sorted_setI (s := { s1 with heap := h', toks := tk }) R1 (I1.ok.hd hc) fun s' pp out ep ms k2 hgens hos hp hob hI2 hms hmem hlen => ?_
    have hk2 : ∀ b u, s1.heap.get? b = some u → s'.heap.get? b = some u := fun b u e => k2 b u (k b u e)
    have em : ms = sset ns := sset_uniq hms fun j => by rw [hmem j, decide_eq_true_eq]
    subst em
    have hle : h'.objs.size ≤ pp := hp
    have hlt : s1.heap.objs.size < h'.objs.size := R1.lt
    have hpp : s1.heap.objs.size ≤ pp := by omega
    have hn : H1 pp = none := I1.hok.fresh hpp
    have hz2 : ((sset ns).map V.int).length ≤ sizeLine := by
      rw [List.length_map]
      have := sset_len (l := ns)
      rw [sizeLine_eq]; omega
    have I2 : ObjOk X.prog X.w (upd H1 pp (.lst ((sset ns).map V.int))) s'.heap pp (.lst ((sset ns).map V.int)) := ⟨hz2, out, ep, vals_of_ints hI2, hob⟩
    have J := I1.call' (s' := s') (H' := upd H1 pp (.lst ((sset ns).map V.int))) (ch := []) hos (Un.laid hk2 hpp hn) (I1.hok.laid hk2 hpp I2) (by rw [hgens]; exact I1.bare) (fun _ z => nomatch z)
    exact ⟨.ref pp, _, J, rfl, q1 pp hn⟩
  rcases hq with hq | hq
  · obtain ⟨its, r, pl, hz⟩ := I1.list hq
    exact call_set_lstI ns (I1.ok.hd hc) pl.isList (by simpa using r.ints) (by unfold scanBound; omega) fun h' tk c hS _ hk => PyProof.Rows.args_nil (fin h' tk c hS hk)
  · obtain ⟨its, r, pl, hz⟩ := I1.tuple hq
    exact call_set_tupI ns (I1.ok.hd hc) (show s1.heap.IsTuple l its.toArray from pl) (by simpa using ints_of_vals r) (by unfold scanBound; omega) fun h' tk c hS _ hk => PyProof.Rows.args_nil (fin h' tk c hS hk)

section
variable {K : PySem.W.Frag} {W0 : Wd} {G : MG} {E : MEx} {p : Nat → Addr} {h : MH} {H : Hp} {e : MEnv} {σ : L2.St}
theorem imp_srtSet (mg : MonoG G G) {a : MX} {Q : VK} (q : tX K W0 G E (.srtSet a) σ H Q) : tSrtSet K (tX K W0 G E a) σ H Q := by
  obtain ⟨p, h, e, w, hw⟩ := q
  unfold wX at hw
  refine tX_then mg w hw fun d h1 p1 H1 v r w1 x1 rv => ?_
  unfold wSrtSet at r
  obtain ⟨a, vs, xs, rfl, ea, fa, r⟩ := seq_snd w1.ok rv r
  split at r
  · rename_i ns en
    have ev := intsL_fz fa en
    subst ev
    refine ⟨a, ns, rfl, ?_, r.1, fun q n => fin_new w1.ok (fin_to x1) (ints_fz _) r.2 n⟩
    rcases ea with ea | ea
    · exact .inl (SqL.of ea)
    · exact .inr ea.sq
  · exact r.elim
end
end Mini
end
section
set_option Elab.async false
set_option linter.all false
set_option maxRecDepth 100000
set_option maxHeartbeats 1000000
/-! Mini: soundness of every expression, the induction. -/
namespace Mini
open PySem PySem.Spec PyProof.Rows L2

theorem ctx_blk {T : List MF} {X : Cx} {S : Sc} {k : Nat} (c : CtxOk T X S k) {scope : Scope} {own : List (Str × Nat)} (hb : blkC S.N S.sc scope own = true) (s : Shared) (H : Hp) (C : Addr) (cl : List (Str × Addr)) (fp : List Addr) :
    CtxOk T (X.blk s H scope (compEnvC scope cl C X.env) fp) { S with sc := relS scope S.sc, fn := false } k := by
  have ok := blkOk_by hb
  refine ⟨c.N, c.nd, ?_, ok.kind, fun z => (nomatch z), c.room, c.calm, c.blt, c.cons, c.inT, c.fns, c.exc, c.exm, c.iso, c.exf, fun z => (nomatch z), fun z => (nomatch z)⟩
  show relS scope X.env.scope = relS scope S.sc
  rw [c.sc]
mutual
theorem sameC_eq : ∀ {a b : PyData}, sameC a b = true → a = b
  | .none, b, h => by cases b <;> first | rfl | exact absurd h (by simp [sameC])
  | .bool _, b, h => by cases b <;> first | (simp [sameC] at h; rw [h]) | exact absurd h (by simp [sameC])
  | .int _, b, h => by cases b <;> first | (simp [sameC] at h; rw [h]) | exact absurd h (by simp [sameC])
  | .str _, b, h => by cases b <;> first | (simp [sameC] at h; rw [h]) | exact absurd h (by simp [sameC])
  | .tuple xs, b, h => by
    cases b with
    | tuple ys =>
      have h : sameA xs ys = true := by simpa [sameC] using h
      rw [sameA_eq h]
    | _ => exact absurd h (by simp [sameC])
  | .list _, b, h => absurd h (by simp [sameC])
  | .dict _, b, h => absurd h (by simp [sameC])
theorem sameA_eq : ∀ {a b : List PyData}, sameA a b = true → a = b
  | [], [], _ => rfl
  | [], _ :: _, h => absurd h (by simp [sameA])
  | _ :: _, [], h => absurd h (by simp [sameA])
  | x :: xs, y :: ys, h => by
    simp only [sameA, Bool.and_eq_true] at h
    rw [sameC_eq h.1, sameA_eq h.2]
end
theorem tk_ef {X : Cx} {W0 : Wd} : Tk X W0 Ef := (takes0 (X := X)).imp fun _ _ _ _ ⟨_, _, _, _, _, _, z⟩ => z
theorem units_of {T : List MF} {X : Cx} {S : Sc} {k : Nat} (c : CtxOk T X S k) : X.A.units + 100 < cLine := by
  have := c.room.room.un
  omega
/-- argument lists, from their items -/
structure AOk (X : Cx) (es : List Expr) (t : TA) : Prop where
  pa : PA X es t

section
variable (T : List MF) (k : Nat)
mutual
theorem sX : ∀ (a : MX) (X : Cx) (S : Sc) (e : Expr) (W0 : Wd) (E : MEx), CtxOk T X S k → Tk X W0 E → kX a S e = true → XOk X e a (tX X.K W0 (wF T k) E a) (tT X.K W0 (wF T k) E a)
  | .var i, X, S, e, W0, E, c, tk, q => by
    unfold kX at q
    split at q
    · rename_i x pos
      unfold visB at q
      simp only [Bool.and_eq_true, decide_eq_true_eq] at q
      obtain ⟨⟨h1, h2⟩, h3⟩ := q
      obtain ⟨d1, d2, _⟩ := nm_dbg (by simpa using h3 : dbgB x = false)
      have vis : Vis X.env.scope x := by
        rw [c.sc]
        split at h2
        · rename_i z; exact .inl z
        · rename_i z; exact .inr (.inl z)
        · rename_i z; exact .inr (.inr z)
        · cases h2
      refine xok_of (wF_mono T k) (PE.imp (pe_var (i := i) (by rw [c.N]; exact h1) vis d1 d2) fun σ H Q qq => ?_) rfl rfl
      obtain ⟨p, h, e, w, hw⟩ := qq
      unfold wX at hw
      split at hw
      · rename_i v ev
        obtain ⟨vv, e1, r1⟩ := w.re.at_ i v ev
        exact ⟨vv, e1, hw _ _ _ w.ok Ext.refl r1⟩
      · exact hw.elim
    · cases q
  | .cst cc, X, S, e, W0, E, c, tk, q => by
    unfold kX at q
    split at q
    · exact xok_of (wF_mono T k) (pe_cst q).1 rfl rfl
    · cases q
  | .glo g cc, X, S, e, W0, E, c, tk, q => by
    unfold kX at q
    split at q
    · rename_i x pos
      simp only [Bool.and_eq_true, decide_eq_true_eq] at q
      obtain ⟨⟨⟨h1, h2⟩, h3⟩, h4⟩ := q
      obtain ⟨gl, d⟩ := gl_of c.sc h2
      obtain ⟨d1, _, _⟩ := nm_dbg d
      unfold conB at h3
      obtain ⟨w, hw, h5⟩ := List.any_eq_true.mp h3
      simp only [Bool.and_eq_true, decide_eq_true_eq] at h5
      obtain ⟨u, hu, r⟩ := c.cons w hw
      have ec : w.2 = cc := sameC_eq h5.2
      rw [ec] at r
      exact xok_of (wF_mono T k) (rel_const gl (by rw [h1, ← h5.1]; exact hu) r d1) rfl rfl
    · cases q
  | .bin op a b, X, S, e, W0, E, c, tk, q => by
    unfold kX at q
    split at q
    · rename_i l o r pos
      simp only [Bool.and_eq_true, decide_eq_true_eq] at q
      obtain ⟨⟨rfl, h1⟩, h2⟩ := q
      exact xok_of (wF_mono T k) (PE.imp (pe_op (op_binM op) (sX a X S l W0 E c tk h1).pe (sX b X S r W0 E c tk h2).pe) fun σ H Q qq => imp_bin (wF_mono T k) qq) rfl rfl
    · cases q
  | .neg a, X, S, e, W0, E, c, tk, q => by
    unfold kX at q
    split at q
    · exact xok_of (wF_mono T k) (PE.imp (pe_un un_neg (sX a X S _ W0 E c tk q).pe) fun σ H Q qq => imp_neg (wF_mono T k) qq) rfl rfl
    · cases q
  | .nott a, X, S, e, W0, E, c, tk, q => by
    unfold kX at q
    split at q
    · simp only [Bool.and_eq_true] at q
      have ih := sX a X S _ W0 E c tk q.1
      exact ⟨PE.imp (pe_notT ih.pe) fun σ H Q qq => imp_not (wF_mono T k) qq, fun _ => PT.imp (pt_not (ih.pt q.2)) fun σ H Q qq => impT_not (wF_mono T k) qq, fun _ z => (nomatch z), fun _ _ _ _ z => (nomatch z)⟩
    · cases q
  | .andd a b, X, S, e, W0, E, c, tk, q => by
    unfold kX at q
    split at q
    · rename_i e1 e2 es pos
      simp only [Bool.and_eq_true] at q
      obtain ⟨⟨⟨h1, h2⟩, h3⟩, h4⟩ := q
      have ia := sX a X S e1 W0 E c tk h1
      cases es with
      | nil =>
        have ib := sX b X S e2 W0 E c tk h4
        have pw := PW.imp (pw_and (pos := pos) (ia.pt h2) (pw_and1 (ib.pt h3))) fun σ H Q qq => impT_and (wF_mono T k) qq
        exact ⟨PE.imp (pe_andT ia.pe (pe_one ib.pe)) fun σ H Q qq => imp_and (wF_mono T k) qq, fun _ => pw.pt, fun _ _ => pw, fun _ _ _ _ z => (nomatch z)⟩
      | cons e3 es =>
        have ib := sX b X S _ W0 E c tk h4
        have pw := PW.imp (pw_and (pos := pos) (ia.pt h2) (ib.pw h3 rfl)) fun σ H Q qq => impT_and (wF_mono T k) qq
        exact ⟨PE.imp (pe_andT ia.pe ib.pe) fun σ H Q qq => imp_and (wF_mono T k) qq, fun _ => pw.pt, fun _ _ => pw, fun _ _ _ _ z => (nomatch z)⟩
    · cases q
  | .orr a b, X, S, e, W0, E, c, tk, q => by
    unfold kX at q
    split at q
    · rename_i e1 e2 es pos
      simp only [Bool.and_eq_true] at q
      obtain ⟨⟨⟨h1, h2⟩, h3⟩, h4⟩ := q
      have ia := sX a X S e1 W0 E c tk h1
      cases es with
      | nil =>
        have ib := sX b X S e2 W0 E c tk h4
        have pw := PW.imp (pw_or (pos := pos) (ia.pt h2) (pw_or1 (ib.pt h3))) fun σ H Q qq => impT_or (wF_mono T k) qq
        exact ⟨PE.imp (pe_orT ia.pe (pe_one ib.pe)) fun σ H Q qq => imp_or (wF_mono T k) qq, fun _ => pw.pt, fun _ _ => pw, fun _ _ _ _ z => (nomatch z)⟩
      | cons e3 es =>
        have ib := sX b X S _ W0 E c tk h4
        have pw := PW.imp (pw_or (pos := pos) (ia.pt h2) (ib.pw h3 rfl)) fun σ H Q qq => impT_or (wF_mono T k) qq
        exact ⟨PE.imp (pe_orT ia.pe ib.pe) fun σ H Q qq => imp_or (wF_mono T k) qq, fun _ => pw.pt, fun _ _ => pw, fun _ _ _ _ z => (nomatch z)⟩
    · cases q
  | .cmp op a b, X, S, e, W0, E, c, tk, q => by
    unfold kX at q
    split at q
    · rename_i l o r pos
      simp only [Bool.and_eq_true, decide_eq_true_eq] at q
      obtain ⟨⟨⟨rfl, h1⟩, h2⟩, h3⟩ := q
      have hm : behindInMarks (cmpE op) r = false := by simpa using h3
      have ho := op_cmpM (X := X) (by have := units_of c; omega) op
      have ia := (sX a X S l W0 E c tk h1).pe
      have ib := (sX b X S r W0 E c tk h2).pe
      exact ⟨PE.imp (pe_cmpR ho ia ib hm) fun σ H Q qq => imp_cmp (wF_mono T k) qq, fun _ => PT.imp (pt_cmpR ho ia ib hm) fun σ H Q qq => impT_cmp (wF_mono T k) qq, fun _ z => (nomatch z), fun _ _ _ _ z => (nomatch z)⟩
    · cases q
  | .chn op op' a b d, X, S, e, W0, E, c, tk, q => by
    unfold kX at q
    split at q
    · rename_i l o o' r r' pos
      simp only [Bool.and_eq_true, decide_eq_true_eq] at q
      obtain ⟨⟨⟨⟨⟨rfl, rfl⟩, h1⟩, h2⟩, h3⟩, h4⟩ := q
      have hm : lastMarks [cmpE op, cmpE op'] [r, r'] = false := by simpa using h4
      have hu : X.A.units + 64 < cLine := by have := units_of c; omega
      have ia := (sX a X S l W0 E c tk h1).pe
      have ib := (sX b X S r W0 E c tk h2).pe
      have id := (sX d X S r' W0 E c tk h3).pe
      exact ⟨PE.imp (pe_chain (op_cmpM hu op) (op_cmpM hu op') ia ib id hm) fun σ H Q qq => imp_chn (wF_mono T k) qq, fun _ => PT.imp (pt_chain (op_cmpM hu op) (op_cmpM hu op') ia ib id hm) fun σ H Q qq => impT_chn (wF_mono T k) qq, fun _ z => (nomatch z), fun _ _ _ _ z => (nomatch z)⟩
    · cases q
  | .isC neg a cc, X, S, e, W0, E, c, tk, q => by
    unfold kX at q
    split at q
    · rename_i l o k' n' pos' pos
      simp only [Bool.and_eq_true, decide_eq_true_eq] at q
      obtain ⟨⟨⟨rfl, h1⟩, h2⟩, h3⟩ := q
      have ia := (sX a X S l W0 E c tk h1).pe
      have ib : PE X (.Constant k' n' pos') (tC (cV cc)) := (pe_cst (W0 := W0) (G := wF T k) (E := E) h2).2
      exact ⟨PE.imp (pe_cmpR (op_isM neg cc) ia ib nomark_is) fun σ H Q qq => imp_is (wF_mono T k) qq, fun _ => PT.imp (pt_cmpR (op_isM neg cc) ia ib nomark_is) fun σ H Q qq => impT_is (wF_mono T k) qq, fun _ z => (nomatch z), fun _ _ _ _ z => (nomatch z)⟩
    · cases q
  | .ite d a b, X, S, e, W0, E, c, tk, q => by
    unfold kX at q
    split at q
    · rename_i t x y pos
      simp only [Bool.and_eq_true] at q
      obtain ⟨⟨⟨h1, h2⟩, h3⟩, h4⟩ := q
      exact ⟨PE.imp (pe_ifExp ((sX d X S t W0 E c tk h1).pt h2) (sX a X S x W0 E c tk h3).pe (sX b X S y W0 E c tk h4).pe) fun σ H Q qq => imp_ite (wF_mono T k) qq, fun z => (nomatch z), fun z => (nomatch z), fun _ _ _ _ z => (nomatch z)⟩
    · cases q
  | .tup xs, X, S, e, W0, E, c, tk, q => by
    unfold kX at q
    split at q
    · simp only [Bool.and_eq_true, decide_eq_true_eq] at q
      exact xok_of (wF_mono T k) (PE.imp (pe_tup (sXs xs X S _ W0 E c tk q.1)) fun σ H Q qq => imp_tup2 (wF_mono T k) (by rw [kXs_len q.1]; exact q.2) qq) rfl rfl
    · cases q
  | .lst xs, X, S, e, W0, E, c, tk, q => by
    unfold kX at q
    split at q
    · simp only [Bool.and_eq_true, decide_eq_true_eq] at q
      exact xok_of (wF_mono T k) (PE.imp (pe_lst (sXs xs X S _ W0 E c tk q.1)) fun σ H Q qq => imp_lst2 (wF_mono T k) (by rw [kXs_len q.1]; exact q.2) qq) rfl rfl
    · cases q
  | .frz a, X, S, e, W0, E, c, tk, q => by
    unfold kX at q
    simp only [Bool.and_eq_true] at q
    have ia := sX a X S e W0 E c tk q.2
    have hp := PE.imp ia.pe fun σ H Q qq => imp_frz (a := a) (wF_mono T k) qq
    refine ⟨hp, fun _ => PT.imp (pt_truth hp fun wh => isTrue_of q.1 X.env wh) fun σ H Q qq => tT_plain (wF_mono T k) qq, fun _ z => ?_, fun elt gs scope pos z => ?_⟩
    · have h1 := q.1
      cases e <;> first | exact absurd z Bool.false_ne_true | exact absurd h1 Bool.false_ne_true
    · obtain ⟨a1, a2, a3, a4, a5, a6, a7, a8, b1, b2, b3, b4, b5, b6, b7, b8⟩ := ia.lc elt gs scope pos z
      exact ⟨a1, a2, a3, a4, a5, a6, a7, a8, b1, b2, b3, b4, b5, b6, b7, fun σ H Q qq => b8 σ H Q (imp_frz (wF_mono T k) qq)⟩
  | .ix a i, X, S, e, W0, E, c, tk, q => by
    unfold kX at q
    split at q
    · simp only [Bool.and_eq_true] at q
      obtain ⟨⟨h1, h2⟩, h3⟩ := q
      exact xok_of (wF_mono T k) (PE.imp (pe_ix (ix_M (by have := units_of c; omega)) (sX a X S _ W0 E c tk h2).pe (sX i X S _ W0 E c tk h3).pe (plainIx_of h1)) fun σ H Q qq => imp_ix (wF_mono T k) qq) rfl rfl
    · cases q
  | .maxD a d, X, S, e, W0, E, c, tk, q => by
    unfold kX at q
    split at q
    · rename_i x xp e1 k' j n1 p1 p2 pos
      simp only [Bool.and_eq_true, decide_eq_true_eq] at q
      obtain ⟨⟨⟨⟨h1, h2⟩, h3⟩, h4⟩, h5⟩ := q
      subst h4 h5
      have B := blt_of c h1
      have hv : bootBuiltins x = some (.builtin "max") := by rw [B.eq]; exact boot_blt .max2
      have pa : PA X [e1] (tCons (tX X.K W0 (wF T k) E a) tNil) := pa_cons (sX a X S _ W0 E c tk h3).pe pa_nil (star_cons h2 _ _)
      have pk : PK X [⟨some (nm "default"), .Constant (.int j) n1 p1, p2⟩] (tCons (tC (.int j)) tNil) := pk_cons (pe_cst (W0 := W0) (G := wF T k) (E := E) (c := .int j) (k := .int j) (by show decide (j = j) = true; exact decide_eq_true rfl)).2 pk_nil
      exact xok_of (wF_mono T k) (PE.imp (pe_callBK (cr_maxDf c.calm) B.gl B.no hv pa pk B.nn B.db (by rw [star_cons h2]; rfl) (back_any (by rw [List.all_cons, h2]; rfl))) fun σ H Q qq => imp_maxD (wF_mono T k) qq) rfl rfl
    · cases q
  | .pick xs i, X, S, e, W0, E, c, tk, q => by
    unfold kX at q
    split at q
    · simp only [Bool.and_eq_true, decide_eq_true_eq] at q
      obtain ⟨⟨⟨h1, h2⟩, h3⟩, h4⟩ := q
      exact xok_of (wF_mono T k) (PE.imp (pe_ix ix_seq (pe_lst (sXs xs X S _ W0 E c tk h2)) (sX i X S _ W0 E c tk h3).pe (plainIx_of h1)) fun σ H Q qq => imp_pick (wF_mono T k) (by rw [kXs_len h2]; exact h4) qq) rfl rfl
    · cases q
  | .sl a lo hi, X, S, e, W0, E, c, tk, q => by
    unfold kX at q
    split at q
    · rename_i l lo' hi' pos' pos
      simp only [Bool.and_eq_true] at q
      obtain ⟨⟨h1, h2⟩, h3⟩ := q
      obtain ⟨o1, p1⟩ := sO lo X S lo' W0 E c tk h2
      obtain ⟨o2, p2⟩ := sO hi X S hi' W0 E c tk h3
      exact xok_of (wF_mono T k) (PE.imp (pe_slice sl_M (sX a X S _ W0 E c tk h1).pe p1 p2) fun σ H Q qq => imp_sl (wF_mono T k) o1 o2 qq) rfl rfl
    · cases q
  | .alt n a, X, S, e, W0, E, c, tk, q => by
    unfold kX at q
    split at q
    · simp only [Bool.and_eq_true, decide_eq_true_eq] at q
      obtain ⟨⟨rfl, rfl⟩, h1⟩ := q
      exact xok_of (wF_mono T k) (PE.imp (pe_alt (sX a X S _ W0 E c tk h1).pe) fun σ H Q qq => imp_alt (wF_mono T k) qq) rfl rfl
    · cases q
  | .revL a, X, S, e, W0, E, c, tk, q => by
    unfold kX at q
    split at q
    · simp only [Bool.and_eq_true, decide_eq_true_eq] at q
      obtain ⟨rfl, h1⟩ := q
      exact xok_of (wF_mono T k) (PE.imp (pe_revA (sX a X S _ W0 E c tk h1).pe) fun σ H Q qq => imp_revL (wF_mono T k) qq) rfl rfl
    · cases q
  | .rgv t xs, X, S, e, W0, E, c, tk, q => by
    unfold kX at q
    split at q
    · rename_i x xp y yp es yq pos
      simp only [Bool.and_eq_true] at q
      obtain ⟨⟨⟨h1, h2⟩, h3⟩, h4⟩ := q
      have A := blt_of c h1
      have B := blt_of c h2
      have hl : 1 ≤ lenXs xs ∧ lenXs xs ≤ 2 := by
        rw [kXs_len h3]
        simpa using h4
      have ihs := sXs' xs X S es W0 E c tk h3
      have rg := sRg (W0 := W0) (G := wF T k) (E := E) (yp := yp) (pos := yq) B hl ihs.1 ihs.2 (kXs_len h3) (kXs_plain h3)
      obtain ⟨eq, g, n, _, _⟩ := A
      refine xok_of (wF_mono T k) ?_ rfl rfl
      cases t with
      | true =>
        subst eq
        exact PE.imp (pe_tupRg c.calm g n rg (star_cons rfl _ _)) fun σ H Q qq => imp_rgv (wF_mono T k) hl qq
      | false =>
        subst eq
        exact PE.imp (pe_listRg c.calm g n rg (star_cons rfl _ _)) fun σ H Q qq => imp_rgv (wF_mono T k) hl qq
    · cases q
  | .call f xs, X, S, e, W0, E, c, tk, q => by
    unfold kX at q
    split at q
    · rename_i x xp es pos
      simp only [Bool.and_eq_true, decide_eq_true_eq] at q
      obtain ⟨⟨⟨h1, h2⟩, h3⟩, h4⟩ := q
      subst h1
      obtain ⟨gl, d⟩ := gl_of c.sc h2
      obtain ⟨d1, _, _⟩ := nm_dbg d
      obtain ⟨F, hF⟩ := c.inT f h4
      obtain ⟨fa, fd, m1, m2, m3, m4⟩ := c.fns f F hF
      have ihs := sXs xs X S es W0 E c tk h3
      have pas : ∀ σ, PassesAt (L2.CX X.prog X.w) X σ (WE (wExc X.K X.mg W0 E) σ) := passAt tk
      cases es with
      | nil =>
        cases xs with
        | nil =>
          refine xok_of (wF_mono T k) (PE.imp (pe_callG0 (E := fun σ cls d H => wExc X.K X.mg W0 E cls d σ H) m4 c.room gl m1 m2 m3 pas d1) fun σ H Q qq => ?_) rfl rfl
          have z := imp_call (mgl := X.mg) qq
          obtain ⟨p, h, e, w, hw⟩ := z
          unfold wXs at hw
          exact hw _ _ _ w.ok Ext.refl .nil
        | cons _ _ => unfold kXs at h3; cases h3
      | cons e es =>
        have pl := kXs_plain h3
        rw [List.all_cons, Bool.and_eq_true] at pl
        exact xok_of (wF_mono T k) (PE.imp (pe_callG (E := fun σ cls d H => wExc X.K X.mg W0 E cls d σ H) m4 c.room gl m1 m2 m3 pas ihs d1 (star_cons pl.1 _ _) (back_any pl.2)) fun σ H Q qq => imp_call (mgl := X.mg) qq) rfl rfl
    · cases q
  | .blt b xs, X, S, e, W0, E, c, tk, q => by
    unfold kX at q
    split at q
    · rename_i x xp e1 es pos
      simp only [Bool.and_eq_true] at q
      obtain ⟨h1, h2⟩ := q
      have B := blt_of c h1
      have pl := kXs_plain h2
      rw [List.all_cons, Bool.and_eq_true] at pl
      have ihs := sXs xs X S _ W0 E c tk h2
      have ho := op_bltM (X := X) c.calm c.room.gd (units_of c) b
      have hv := boot_blt b
      rw [← B.eq] at hv
      refine xok_of (wF_mono T k) (PE.imp (t := tCB (rBltM X.K b) (tXs X.K W0 (wF T k) E xs)) ?_ fun σ H Q qq => imp_blt (wF_mono T k) qq) rfl rfl
      cases b <;> first
        | exact pe_callB ho B.gl B.no hv ihs B.nn B.db (star_cons pl.1 _ _) (back_any pl.2)
        | exact pe_callTy ho B.gl B.no hv ihs B.nn B.db (star_cons pl.1 _ _) (back_any pl.2)
    · cases q
  | .isi a t, X, S, e, W0, E, c, tk, q => by
    unfold kX at q
    split at q
    · rename_i x xp e1 y yp pos
      simp only [Bool.and_eq_true] at q
      obtain ⟨⟨⟨h1, h2⟩, h3⟩, h4⟩ := q
      have B := blt_of c h1
      have D := blt_of c h2
      have hv : bootBuiltins x = some (.builtin "isinstance") := by rw [B.eq]; exact boot_isinstance
      have hy := boot_ty t
      rw [← D.eq] at hy
      have pa : PA X [e1, .Name y yp] (tCons (tX X.K W0 (wF T k) E a) (tCons (tC (.ty (tyN t))) tNil)) :=
        pa_cons (sX a X S _ W0 E c tk h4).pe (pa_cons (pe_bltn D.gl D.no hy rfl D.nn D.db) pa_nil (star_cons rfl _ _)) (star_cons h3 _ _)
      exact xok_of (wF_mono T k) (PE.imp (pe_callB call_isi B.gl B.no hv pa B.nn B.db (star_cons h3 _ _) (back_any rfl)) fun σ H Q qq => imp_isi (wF_mono T k) qq) rfl rfl
    · cases q
  | .lenSet a, X, S, e, W0, E, c, tk, q => by
    unfold kX at q
    split at q
    · rename_i x xp y yp e1 p2 p1
      simp only [Bool.and_eq_true] at q
      obtain ⟨⟨⟨h1, h2⟩, h3⟩, h4⟩ := q
      have B := blt_of c h1
      have D := blt_of c h2
      have b1 := B.gl
      have b2 := B.no
      have d1 := D.gl
      have d2 := D.no
      rw [B.eq] at b1 b2 ⊢
      rw [D.eq] at d1 d2 ⊢
      exact xok_of (wF_mono T k) (PE.imp (pe_lenSetG (x := nm "len") (y := nm "set") c.calm b1 b2 d1 d2 (sX a X S _ W0 E c tk h4).pe (star_cons h3 _ _)) fun σ H Q qq => imp_lenSet (wF_mono T k) qq) rfl rfl
    · cases q
  | .srtSet a, X, S, e, W0, E, c, tk, q => by
    unfold kX at q
    split at q
    · rename_i x xp y yp e1 p2 p1
      simp only [Bool.and_eq_true] at q
      obtain ⟨⟨⟨h1, h2⟩, h3⟩, h4⟩ := q
      have B := blt_of c h1
      have D := blt_of c h2
      have b1 := B.gl
      have b2 := B.no
      have d1 := D.gl
      have d2 := D.no
      rw [B.eq] at b1 b2 ⊢
      rw [D.eq] at d1 d2 ⊢
      exact xok_of (wF_mono T k) (PE.imp (pe_srtSet (x := nm "sorted") (y := nm "set") c.calm b1 b2 d1 d2 (sX a X S _ W0 E c tk h4).pe (star_cons h3 _ _)) fun σ H Q qq => imp_srtSet (wF_mono T k) qq) rfl rfl
    · cases q
  | .dnew t, X, S, e, W0, E, c, tk, q => by
    unfold kX at q
    split at q
    · cases t
      · exact xok_of (wF_mono T k) (PE.imp pe_dnewK fun σ H Q qq => imp_dnew (wF_mono T k) qq) rfl rfl
      · exact xok_of (wF_mono T k) (PE.imp pe_dnewT fun σ H Q qq => imp_dnewT (wF_mono T k) qq) rfl rfl
    · cases q
  | .dlit ks xs, X, S, e, W0, E, c, tk, q => by
    unfold kX at q
    split at q
    · rename_i keys values pos
      simp only [Bool.and_eq_true, decide_eq_true_eq] at q
      obtain ⟨⟨⟨⟨h1, h2⟩, h3⟩, h4⟩, h5⟩ := q
      have hl := kXs_len h2
      have hk := kKeys_len h1
      exact xok_of (wF_mono T k) (PE.imp (t := tDisp (trsOf X.K W0 (wF T k) E ks xs)) (pe_disp (sKs xs ks X S keys values W0 E c tk pos h1 h2 h5) hk.2 h5 (by intro z; rw [z] at h4; cases h4) (by omega)) fun σ H Q qq => imp_dlit (wF_mono T k) (by omega) (by omega) qq) rfl rfl
    · cases q
  | .dgetD o kk x, X, S, e, W0, E, c, tk, q => by
    unfold kX at q
    split at q
    · rename_i y yp n apos e1 e2 cpos
      simp only [Bool.and_eq_true, decide_eq_true_eq] at q
      obtain ⟨⟨⟨⟨⟨⟨h1, h2⟩, h3⟩, h4⟩, h5⟩, h6⟩, h7⟩ := q
      subst h1
      have io := (sX o X S _ W0 E c tk h2).pe
      have st : starEach [e1, e2] X.env = [(false, eval e1 X.env), (false, eval e2 X.env)] := by rw [star_cons h3, star_cons h4]; rfl
      refine xok_of (wF_mono T k) (PE.imp (pe_dget2 (by have := units_of c; omega) io (sX kk X S _ W0 E c tk h5).pe (sX x X S _ W0 E c tk h6).pe ⟨rfl, by rw [st]; rfl, h7, by rw [st]; rfl⟩) fun σ H Q qq => imp_dgetD (wF_mono T k) qq) rfl rfl
    · cases q
  | .idxOf o x, X, S, e, W0, E, c, tk, q => by
    unfold kX at q
    split at q
    · rename_i y yp n apos e1 cpos
      simp only [Bool.and_eq_true, decide_eq_true_eq] at q
      obtain ⟨⟨⟨⟨h1, h2⟩, h3⟩, h4⟩, h5⟩ := q
      subst h1
      have io := (sX o X S _ W0 E c tk h2).pe
      have ia : PA X [e1] (tCons (tX X.K W0 (wF T k) E x) tNil) := pa_cons (sX x X S _ W0 E c tk h4).pe pa_nil (star_cons h3 _ _)
      have hfew : ((backTo cpos (starEach [e1] X.env)).all (fun x => !x.1) && (backToKw cpos (keywordEach [] X.env)).all (fun x => x.1.isSome)
          && decide (([e1] : List Expr).length + ([] : List Keyword).length + (if ([] : List Keyword).isEmpty then 0 else 1) < 30)) = true := by
        rw [star_cons h3]; rfl
      exact xok_of (wF_mono T k) (PE.imp (pe_bm PySem.F.plainAttrs_list PySem.F.slot_list_index PySem.F.type_list_index mt_index io ia rfl hfew h5 (star_cons h3 _ _) rfl) fun σ H Q qq => imp_idx (wF_mono T k) qq) rfl rfl
    · cases q
  | .mth m o xs, X, S, e, W0, E, c, tk, q => by
    unfold kX at q
    split at q
    · rename_i y yp n apos es cpos
      simp only [Bool.and_eq_true, decide_eq_true_eq] at q
      obtain ⟨⟨⟨⟨h1, h2⟩, h3⟩, h4⟩, h5⟩ := q
      subst h1
      have io := (sX o X S _ W0 E c tk h2).pe
      have pl := kXs_plain h3
      have ihs := sXs xs X S _ W0 E c tk h3
      refine xok_of (wF_mono T k) ?_ rfl rfl
      cases es with
      | nil =>
        cases xs with
        | nil =>
          refine PE.imp (t := tBM0 X.K "list" (rMthM m) (tX X.K W0 (wF T k) E o)) ?_ fun σ H Q qq => imp_mth0 (wF_mono T k) qq
          cases m
          · exact pe_bm0 PySem.F.plainAttrs_list PySem.F.slot_list_append PySem.F.type_list_append mt_append io rfl h4
          · exact pe_bm0 PySem.F.plainAttrs_list PySem.F.slot_list_pop PySem.F.type_list_pop mt_pop io rfl h4
          · exact pe_bm0 PySem.F.plainAttrs_list PySem.F.slot_list_extend PySem.F.type_list_extend mt_extend io rfl h4
          · exact pe_bm0 PySem.F.plainAttrs_list PySem.F.slot_list_pop PySem.F.type_list_pop mt_popAt io rfl h4
          · exact pe_bm0 PySem.F.plainAttrs_list PySem.F.slot_list_clear PySem.F.type_list_clear mt_clear io rfl h4
          · exact pe_bm0 PySem.F.plainAttrs_list PySem.F.slot_list_reverse PySem.F.type_list_reverse mt_reverse io rfl h4
        | cons _ _ => unfold kXs at h3; cases h3
      | cons e1 es =>
        cases es with
        | nil =>
          rw [List.all_cons, Bool.and_eq_true] at pl
          have hfew : ((backTo cpos (starEach [e1] X.env)).all (fun x => !x.1) && (backToKw cpos (keywordEach [] X.env)).all (fun x => x.1.isSome)
              && decide (([e1] : List Expr).length + ([] : List Keyword).length + (if ([] : List Keyword).isEmpty then 0 else 1) < 30)) = true := by
            rw [star_cons pl.1]; rfl
          refine PE.imp (t := tBM X.K "list" (rMthM m) (tX X.K W0 (wF T k) E o) (tXs X.K W0 (wF T k) E xs)) ?_ fun σ H Q qq => imp_mth (wF_mono T k) qq
          cases m
          · exact pe_bm PySem.F.plainAttrs_list PySem.F.slot_list_append PySem.F.type_list_append mt_append io ihs rfl hfew h4 (star_cons pl.1 _ _) rfl
          · exact pe_bm PySem.F.plainAttrs_list PySem.F.slot_list_pop PySem.F.type_list_pop mt_pop io ihs rfl hfew h4 (star_cons pl.1 _ _) rfl
          · exact pe_bm PySem.F.plainAttrs_list PySem.F.slot_list_extend PySem.F.type_list_extend mt_extend io ihs rfl hfew h4 (star_cons pl.1 _ _) rfl
          · exact pe_bm PySem.F.plainAttrs_list PySem.F.slot_list_pop PySem.F.type_list_pop mt_popAt io ihs rfl hfew h4 (star_cons pl.1 _ _) rfl
          · exact pe_bm PySem.F.plainAttrs_list PySem.F.slot_list_clear PySem.F.type_list_clear mt_clear io ihs rfl hfew h4 (star_cons pl.1 _ _) rfl
          · exact pe_bm PySem.F.plainAttrs_list PySem.F.slot_list_reverse PySem.F.type_list_reverse mt_reverse io ihs rfl hfew h4 (star_cons pl.1 _ _) rfl
        | cons _ _ => simp at h5
    · cases q
  | .lc elt tg it cond own, X, S, e, W0, E, c, tk, q => by
    unfold kX at q
    split at q
    · rename_i e1 t i ifs a scope pos
      simp only [Bool.and_eq_true, decide_eq_true_eq] at q
      obtain ⟨⟨⟨⟨⟨⟨⟨h0, h1⟩, h2⟩, h3⟩, h4⟩, h5⟩, h6⟩, h7⟩ := q
      subst h0
      have ok : BlkOk X.N X.env.scope scope (ownS own) := by
        rw [c.N, c.sc]
        exact blkOk_by h3
      have hg : ∀ (s : Shared) (H : Hp) (C : Addr) (cl : List (Str × Addr)) (fp : List Addr), PG (X.blk s H scope (compEnvC scope cl C X.env) fp) t (gTg X.K tg) := fun s H C cl fp => by
        have c2 := ctx_blk c h3 s H C cl fp
        exact pg_tg c2.N c2.nd c2.sc (fun z => nomatch z) c2.calm h4
      have ht : ∀ (s : Shared) (H : Hp) (C : Addr) (cl : List (Str × Addr)) (fp : List Addr), PTs (X.blk s H scope (compEnvC scope cl C X.env) fp) ifs (tCd X.K (wF T k) cond) := fun s H C cl fp =>
        sTs cond (X.blk s H scope (compEnvC scope cl C X.env) fp) _ ifs (ctx_blk c h3 s H C cl fp) h6
      have he : ∀ (s : Shared) (H : Hp) (C : Addr) (cl : List (Str × Addr)) (fp : List Addr), PE (X.blk s H scope (compEnvC scope cl C X.env) fp) e1 (tX X.K emp (wF T k) Ef elt) := fun s H C cl fp =>
        (sX elt (X.blk s H scope (compEnvC scope cl C X.env) fp) _ e1 emp Ef (ctx_blk c h3 s H C cl fp) tk_ef h7).pe
      have hi := sI it X S t i W0 E c tk h1
      have hs : ∀ x, foldedSetIterable i X.env x = pure x := folded_of (by simpa using h2) X.env
      have imp : ∀ σ H Q, tX X.K W0 (wF T k) E (.lc elt tg it cond own) σ H Q → tLc (tI X.K W0 (wF T k) E it) (gTg X.K tg) (tCd X.K (wF T k) cond) (tX X.K emp (wF T k) Ef elt) ((ownS own).map (·.2)) σ H Q := fun σ H Q qq => by
        have z := imp_lc (wF_mono T k) h5 qq
        have e2 : (ownS own).map (·.2) = own.map (·.2) := by unfold ownS; rw [List.map_map]; rfl
        rw [e2]
        exact z
      have hp := PE.imp (pe_lc (pos := pos) c.calm c.nd hi ok hg ht he hs) imp
      refine ⟨hp, fun _ => PT.imp (pt_truth hp fun wh => isTrue_of rfl X.env wh) fun σ H Q qq => tT_plain (wF_mono T k) qq, fun _ z => (nomatch z), fun elt' gs scope' pos' z => ?_⟩
      cases z
      exact ⟨t, i, ifs, ownS own, _, _, _, _, rfl, hi, ok, hg, ht, he, hs, imp⟩
    · cases q
theorem sKs : ∀ (xs : MXs) (ks : List PyData) (X : Cx) (S : Sc) (keys : List (Option Expr)) (values : List Expr) (W0 : Wd) (E : MEx), CtxOk T X S k → Tk X W0 E → ∀ pos : Pos, kKeys ks keys = true → kXs xs S values = true → keys.length = values.length → PPs X pos keys values (trsOf X.K W0 (wF T k) E ks xs)
  | .nil, ks, X, S, keys, values, W0, E, c, tk, pos, q1, q2, hl => by
    unfold kXs at q2
    cases values with
    | nil =>
      cases keys with
      | nil =>
        cases ks with
        | nil => exact pps_nil
        | cons _ _ => simp [kKeys] at q1
      | cons _ _ => cases hl
    | cons _ _ => cases q2
  | .cons x xs, ks, X, S, keys, values, W0, E, c, tk, pos, q1, q2, hl => by
    unfold kXs at q2
    cases values with
    | nil => cases q2
    | cons e es =>
      simp only [Bool.and_eq_true] at q2
      cases keys with
      | nil => cases hl
      | cons ke keys =>
        cases ks with
        | nil => simp [kKeys] at q1
        | cons kd ks =>
          unfold kKeys at q1
          split at q1
          · rename_i h _; cases h
          · rename_i h1 h2
            cases h1; cases h2
            simp only [Bool.and_eq_true] at q1
            exact pps_cons (pe_cst (W0 := W0) (G := wF T k) (E := E) q1.1.2).2 (sX x X S _ W0 E c tk q2.1.2).pe (sKs xs ks X S keys es W0 E c tk pos q1.2 q2.2 (by simpa using hl))
          · cases q1
theorem sXs : ∀ (a : MXs) (X : Cx) (S : Sc) (es : List Expr) (W0 : Wd) (E : MEx), CtxOk T X S k → Tk X W0 E → kXs a S es = true → PA X es (tXs X.K W0 (wF T k) E a)
  | .nil, X, S, es, W0, E, c, tk, q => by
    unfold kXs at q
    cases es with
    | nil =>
      refine PA.imp pa_nil fun σ H Q qq => ?_
      obtain ⟨p, h, e, w, hw⟩ := qq
      unfold wXs at hw
      exact hw _ _ _ w.ok Ext.refl .nil
    | cons _ _ => cases q
  | .cons x xs, X, S, es, W0, E, c, tk, q => by
    unfold kXs at q
    cases es with
    | nil => cases q
    | cons e es =>
      simp only [Bool.and_eq_true] at q
      obtain ⟨⟨h1, h2⟩, h3⟩ := q
      refine PA.imp (pa_cons (sX x X S e W0 E c tk h2).pe (sXs xs X S es W0 E c tk h3) (star_cons h1 _ _)) fun σ H Q qq => ?_
      obtain ⟨p, h, e, w, hw⟩ := qq
      unfold wXs at hw
      exact tX_then (wF_mono T k) w hw fun d h1 p1 H1 v r w1 x1 rv => tXs_then (wF_mono T k) w1 r fun d2 h2 p2 H2 v2 r2 w2 x2 rv2 => r2 _ _ _ w2.ok (x1.trans x2) (.cons (x2 _ _ rv) rv2)
theorem sXs' : ∀ (a : MXs) (X : Cx) (S : Sc) (es : List Expr) (W0 : Wd) (E : MEx), CtxOk T X S k → Tk X W0 E → kXs a S es = true →
    (∀ {b : MX} {xs' : MXs} {e : Expr} {es' : List Expr}, a = .cons b xs' → es = e :: es' → PE X e (tX X.K W0 (wF T k) E b)) ∧
    (∀ {b d : MX} {xs' : MXs} {e f : Expr} {es' : List Expr}, a = .cons b (.cons d xs') → es = e :: f :: es' → PE X f (tX X.K W0 (wF T k) E d))
  | .nil, X, S, es, W0, E, c, tk, q => ⟨fun z => (nomatch z), fun z => (nomatch z)⟩
  | .cons x xs, X, S, es, W0, E, c, tk, q => by
    unfold kXs at q
    cases es with
    | nil => cases q
    | cons e es =>
      simp only [Bool.and_eq_true] at q
      obtain ⟨⟨h1, h2⟩, h3⟩ := q
      refine ⟨fun z1 z2 => ?_, fun z1 z2 => ?_⟩
      · cases z1
        cases z2
        exact (sX x X S e W0 E c tk h2).pe
      · have z3 := (MXs.cons.inj z1).2
        have z4 := (List.cons.inj z2).2
        exact (sXs' xs X S es W0 E c tk h3).1 z3 z4
theorem sO : ∀ (a : MXs) (X : Cx) (S : Sc) (e : Option Expr) (W0 : Wd) (E : MEx), CtxOk T X S k → Tk X W0 E → kO a S e = true → oneX a = true ∧ PO X e (tO X.K W0 (wF T k) E a)
  | .nil, X, S, e, W0, E, c, tk, q => by
    unfold kO at q
    cases e with
    | none => exact ⟨rfl, po_none⟩
    | some _ => cases q
  | .cons x xs, X, S, e, W0, E, c, tk, q => by
    unfold kO at q
    cases e with
    | none => cases q
    | some e =>
      simp only [Bool.and_eq_true] at q
      cases xs with
      | nil => exact ⟨rfl, po_some (sX x X S e W0 E c tk q.1).pe⟩
      | cons _ _ => exact absurd q.2 Bool.false_ne_true
theorem sTs : ∀ (a : MXs) (X : Cx) (S : Sc) (es : List Expr), CtxOk T X S k → kT a S es = true → PTs X es (tCd X.K (wF T k) a)
  | .nil, X, S, es, c, q => by
    unfold kT at q
    cases es with
    | nil => exact pts_nil
    | cons _ _ => cases q
  | .cons x xs, X, S, es, c, q => by
    unfold kT at q
    split at q
    · simp only [Bool.and_eq_true] at q
      exact pts_one ((sX x X S _ emp Ef c tk_ef q.1.1).pt q.1.2)
    · cases q
theorem sI : ∀ (a : MI) (X : Cx) (S : Sc) (t e : Expr) (W0 : Wd) (E : MEx), CtxOk T X S k → Tk X W0 E → kI a S t e = true → PI X t e (tI X.K W0 (wF T k) E a)
  | .seq a, X, S, t, e, W0, E, c, tk, q => by
    unfold kI at q
    exact PI.imp (pi_seq (sX a X S e W0 E c tk q).pe) fun σ H R qq => imp_seqI (wF_mono T k) qq
  | .rng xs, X, S, t, e, W0, E, c, tk, q => by
    unfold kI at q
    split at q
    · rename_i x xp es pos
      simp only [Bool.and_eq_true, decide_eq_true_eq] at q
      obtain ⟨⟨⟨h1, h2⟩, h3⟩, h4⟩ := q
      obtain ⟨eq, g, n, _, _⟩ := blt_of c h1
      subst eq
      have ihs := sXs xs X S es W0 E c tk h2
      have pl := kXs_plain h2
      have le := kXs_len h2
      match es, h3, h4, ihs, pl, le with
      | [e1], _, _, ihs, pl, le =>
        simp only [List.all_cons, Bool.and_eq_true] at pl
        refine PI.imp (pi_range1 g n ihs (star_cons pl.1 _ _)) fun σ H R qq => tXs_mono (wF_mono T k) (fun vs H1 z => ?_) (imp_rngI (wF_mono T k) qq)
        obtain ⟨zl, z | ⟨i, j, z, _⟩ | ⟨i, j, c, n, z, _⟩⟩ := z
        · exact z
        · rw [z, le] at zl; cases zl
        · rw [z, le] at zl; cases zl
      | [e1, e2], _, _, ihs, pl, le =>
        simp only [List.all_cons, Bool.and_eq_true] at pl
        refine PI.imp (pi_range2 g n ihs (by rw [star_cons pl.1, star_cons pl.2.1]; rfl) (star_cons pl.2.1 _ _)) fun σ H R qq => tXs_mono (wF_mono T k) (fun vs H1 z => ?_) (imp_rngI (wF_mono T k) qq)
        obtain ⟨zl, ⟨j, z, _⟩ | z | ⟨i, j, c, n, z, _⟩⟩ := z
        · rw [z, le] at zl; cases zl
        · exact z
        · rw [z, le] at zl; cases zl
      | [e1, e2, e3], _, _, ihs, pl, le =>
        simp only [List.all_cons, Bool.and_eq_true] at pl
        refine PI.imp (pi_range3 g n ihs (star_cons pl.1 _ _) (back_any (by rw [List.all_cons, List.all_cons, pl.2.1, pl.2.2.1]; rfl))) fun σ H R qq => tXs_mono (wF_mono T k) (fun vs H1 z => ?_) (imp_rngI (wF_mono T k) qq)
        obtain ⟨zl, ⟨j, z, _⟩ | ⟨i, j, z, _⟩ | z⟩ := z
        · rw [z, le] at zl; cases zl
        · rw [z, le] at zl; cases zl
        · exact z
      | [], h3, _, _, _, _ => exact absurd h3 (by decide)
      | _ :: _ :: _ :: _ :: _, _, h4, _, _, _ => simp at h4
    · cases q
  | .rev a, X, S, t, e, W0, E, c, tk, q => by
    unfold kI at q
    split at q
    · simp only [Bool.and_eq_true] at q
      obtain ⟨⟨h1, h2⟩, h3⟩ := q
      have B := blt_of c h1
      obtain ⟨eq, g, n, _, _⟩ := B
      subst eq
      exact PI.imp (RT.pi_revA g n (sX a X S _ W0 E c tk h3).pe (star_cons h2 _ _)) fun σ H R qq => imp_revI (wF_mono T k) qq
    · cases q
  | .rrg xs, X, S, t, e, W0, E, c, tk, q => by
    unfold kI at q
    split at q
    · rename_i x xp y yp es yq pos
      simp only [Bool.and_eq_true, decide_eq_true_eq] at q
      obtain ⟨⟨⟨⟨h1, h2⟩, h3⟩, h4⟩, h5⟩ := q
      obtain ⟨eq, g, n, _, _⟩ := blt_of c h1
      have B := blt_of c h2
      subst eq
      have hl : 1 ≤ lenXs xs ∧ lenXs xs ≤ 2 := by
        rw [kXs_len h3]
        exact ⟨h4, h5⟩
      have ihs := sXs' xs X S es W0 E c tk h3
      have rg := sRg (W0 := W0) (G := wF T k) (E := E) (yp := yp) (pos := yq) B hl ihs.1 ihs.2 (kXs_len h3) (kXs_plain h3)
      exact PI.imp (pi_revR g n rg (star_cons rfl _ _)) fun σ H R qq => imp_rrgI (wF_mono T k) hl qq
    · cases q
  | .enm a, X, S, t, e, W0, E, c, tk, q => by
    unfold kI at q
    split at q
    · simp only [Bool.and_eq_true] at q
      obtain ⟨⟨⟨h1, h2⟩, h3⟩, h4⟩ := q
      obtain ⟨eq, g, n, _, _⟩ := blt_of c h1
      subst eq
      cases t <;> first
        | exact PI.imp (pi_enumK g n (pa_cons (sX a X S _ W0 E c tk h3).pe pa_nil (star_cons h2 _ _)) (star_cons h2 _ _)) fun σ H R qq => imp_enmI (wF_mono T k) qq
        | exact absurd h4 Bool.false_ne_true
    · cases q
  | .zip a b, X, S, t, e, W0, E, c, tk, q => by
    unfold kI at q
    split at q
    · simp only [Bool.and_eq_true] at q
      obtain ⟨⟨⟨⟨⟨h1, h2⟩, h3⟩, h4⟩, h5⟩, h6⟩ := q
      obtain ⟨eq, g, n, _, _⟩ := blt_of c h1
      subst eq
      cases t <;> first
        | exact PI.imp (pi_zipK g n (pa_cons (sX a X S _ W0 E c tk h4).pe (pa_cons (sX b X S _ W0 E c tk h5).pe pa_nil (star_cons h3 _ _)) (star_cons h2 _ _)) (star_cons h2 _ _) (back_any (by rw [List.all_cons, h3]; rfl))) fun σ H R qq => imp_zipI (wF_mono T k) qq
        | exact absurd h6 Bool.false_ne_true
    · cases q
end
end
end Mini
end
section
set_option Elab.async false
set_option linter.all false
set_option maxRecDepth 100000
set_option maxHeartbeats 4000000
/-! Mini: soundness of statements. -/
namespace Mini
open PySem PySem.Spec PyProof.Rows L2

/-- what is wanted, seen from a world -/
def mdOf (K : PySem.W.Frag) (W : Wd) (D : Ends) : MD where
  nx := fun e' h' => ∀ p' H' σ', WOk K ⟨p', h', H'⟩ → RE K ⟨p', h', H'⟩ e' σ' → Ext K W ⟨p', h', H'⟩ → D.nx σ' H'
  rt := fun d h' => ∀ p' H' v, WOk K ⟨p', h', H'⟩ → Ext K W ⟨p', h', H'⟩ → RV K ⟨p', h', H'⟩ d v → D.rt v H'
  bk := fun e' h' => ∀ p' H' σ', WOk K ⟨p', h', H'⟩ → RE K ⟨p', h', H'⟩ e' σ' → Ext K W ⟨p', h', H'⟩ → D.bk σ' H'
  ct := fun e' h' => ∀ p' H' σ', WOk K ⟨p', h', H'⟩ → RE K ⟨p', h', H'⟩ e' σ' → Ext K W ⟨p', h', H'⟩ → D.ct σ' H'
theorem mdOf_ext {K : PySem.W.Frag} {W W' : Wd} {D : Ends} (x : Ext K W W') : MD.Le (mdOf K W D) (mdOf K W' D) :=
  ⟨fun _ _ q p' H' σ' a b c => q p' H' σ' a b (x.trans c), fun _ _ q p' H' v a b c => q p' H' v a (x.trans b) c, fun _ _ q p' H' σ' a b c => q p' H' σ' a b (x.trans c), fun _ _ q p' H' σ' a b c => q p' H' σ' a b (x.trans c)⟩
section
variable (K : PySem.W.Frag) (W0 : Wd) (G : MG) (E : MEx)
def tS (a : MS) : TS := fun D σ H => ∃ p h e, Wel K W0 p h H e σ ∧ wS G E a e h (mdOf K ⟨p, h, H⟩ D)
def tSs (a : MSs) : TS := fun D σ H => ∃ p h e, Wel K W0 p h H e σ ∧ wSs G E a e h (mdOf K ⟨p, h, H⟩ D)
end
section
variable {K : PySem.W.Frag} {W0 : Wd} {G : MG} {E : MEx} {p : Nat → Addr} {h : MH} {H : Hp} {e : MEnv} {σ : L2.St} {D : Ends}
theorem imp_set (mg : MonoG G G) {i : Nat} {a : MX} (q : tS K W0 G E (.set i a) D σ H) : tAsg (tX K W0 G E a) (gName i) D σ H := by
  obtain ⟨p, h, e, w, hw⟩ := q
  unfold wS at hw
  exact tX_then mg w hw fun d h1 p1 H1 v r w1 x1 rv => r _ _ _ w1.ok (w1.re.set rv) x1
theorem imp_setT (mg : MonoG G G) {is : List Nat} {a : MX} (q : tS K W0 G E (.setT is a) D σ H) : tAsg (tX K W0 G E a) (gTg K (.tup is)) D σ H := by
  obtain ⟨p, h, e, w, hw⟩ := q
  unfold wS at hw
  refine tX_then mg w hw fun d h1 p1 H1 v r w1 x1 rv => ?_
  split at r
  · exact tg_snd r rv w1.re fun e1 σ1 re c => c _ _ _ w1.ok re x1
  · exact r.elim
theorem imp_par (mg : MonoG G G) {i j : Nat} {a b : MX} (q : tS K W0 G E (.par i j a b) D σ H) : tPar i j (tCons (tX K W0 G E a) (tCons (tX K W0 G E b) tNil)) D σ H := by
  obtain ⟨p, h, e, w, hw⟩ := q
  unfold wS at hw
  exact tX_then mg w hw fun d h1 p1 H1 v r w1 x1 rv => tX_then mg w1 r fun d2 h2 p2 H2 v2 r2 w2 x2 rv2 => ⟨_, _, rfl, r2 _ _ _ w2.ok ((w2.re.set (x2 _ _ rv)).set rv2) (x1.trans x2)⟩
theorem imp_setI (mg : MonoG G G) {o i a : MX} (q : tS K W0 G E (.setI o i a) D σ H) : tAsg (tX K W0 G E a) (gSub (tX K W0 G E o) (tX K W0 G E i) rSetM) D σ H := by
  obtain ⟨p, h, e, w, hw⟩ := q
  unfold wS at hw
  refine tX_then mg w hw fun d h1 p1 H1 v r w1 x1 rv => tX_then mg w1 r fun d2 h2 p2 H2 v2 r2 w2 x2 rv2 => tX_then mg w2 r2 fun d3 h3 p3 H3 v3 r3 w3 x3 rv3 => ?_
  exact setI_snd w3.ok (x3 _ _ rv2) rv3 (x3 _ _ (x2 _ _ rv)) r3 fun h' H' c ok x => c _ _ _ ok (w3.re.ext x) (((x1.trans x2).trans x3).trans x)
theorem ip_mul' {X : Cx} : PIp X .Mult (fun x y H Q => False) := fun _ _ _ _ _ _ _ _ _ _ _ _ z => z.elim
def ipM : MOp → TIp
  | .add => ipI fun i j => i + j
  | .sub => ipI fun i j => i - j
  | _ => fun _ _ _ _ => False
def augOk : MOp → Bool
  | .add => true
  | .sub => true
  | _ => false
theorem pip_M {X : Cx} (op : MOp) : PIp X (opE op) (ipM op) := by
  cases op <;> first | exact ip_add | exact ip_sub | exact fun _ _ _ _ _ _ _ _ _ _ _ _ z => z.elim
theorem ip_snd {op : MOp} {i j : Int} {Qm : MQ} {Q : VK} (ok : WOk K ⟨p, h, H⟩) (ha : augOk op = true) (hw : wBin op (.d (.int i)) (.d (.int j)) h Qm) (fin : Fin K ⟨p, h, H⟩ Qm Q) : ipM op (.int i) (.int j) H Q := by
  cases op <;> first
    | exact absurd ha Bool.false_ne_true
    | exact ⟨_, _, rfl, rfl, fin_here ok fin hw (.int _)⟩
theorem two_int {x y : MV} {F : Int → Int → Prop} (q : match x, y with | .d (.int p), .d (.int q) => F p q | _, _ => False) : ∃ p q, x = .d (.int p) ∧ y = .d (.int q) ∧ F p q := by
  split at q
  · exact ⟨_, _, rfl, rfl, q⟩
  · exact q.elim
theorem imp_aug (mg : MonoG G G) {i : Nat} {op : MOp} {a : MX} (ha : augOk op = true) (q : tS K W0 G E (.aug i op a) D σ H) : tAug i (tX K W0 G E a) (ipM op) D σ H := by
  obtain ⟨p, h, e, w, hw⟩ := q
  unfold wS at hw
  split at hw
  · rename_i x ex
    obtain ⟨v, e1, r1⟩ := w.re.at_ i x ex
    refine ⟨v, e1, tX_then mg w hw fun d h1 p1 H1 v2 r w1 x1 rv => ?_⟩
    split at r
    · cases rv_int (x1 _ _ r1)
      cases rv_int rv
      refine ip_snd (K := K) w1.ok ha r fun d' h' p' H' v' q ok x rv' => ?_
      exact q _ _ _ ok ((w1.re.ext x).set rv') (x1.trans x)
    · exact r.elim
  · exact hw.elim
theorem imp_augI (mg : MonoG G G) {o i : MX} {op : MOp} {a : MX} (ha : augOk op = true) (q : tS K W0 G E (.augI o i op a) D σ H) : tAugS (tX K W0 G E o) (tX K W0 G E i) (tX K W0 G E a) (rIxL K) (ipM op) rSetM D σ H := by
  obtain ⟨p, h, e, w, hw⟩ := q
  unfold wS at hw
  refine tX_then mg w hw fun d h1 p1 H1 v r w1 x1 rv => tX_then mg w1 r fun d2 h2 p2 H2 v2 r2 w2 x2 rv2 => ?_
  split at r2
  · rename_i c
    have rv' := x2 _ _ rv
    unfold wIx at r2
    split at r2
    · rename_i z; cases z
    · rename_i z; cases z
    · rename_i z; cases z
    · cases rv_int rv2
      obtain ⟨vs, xs, ev, ei, ea, fa, r2⟩ := rv_cell w2.ok rv' r2
      cases ev
      obtain ⟨z, dd, ez, fz, r2⟩ := at_snd fa r2
      refine ⟨_, vs, _, z, rfl, rfl, SqL.of ea, ez, ?_⟩
      have rz : RV K ⟨p2, h2, H2⟩ (.d dd) z := fz
      refine tX_then mg w2 r2 fun d4 h4 p4 H4 v4 r4 w4 x4 rv4 => ?_
      obtain ⟨pp, qq, e1, e2, r4⟩ := two_int r4
      cases e1
      cases e2
      cases rv_int (x4 _ _ rz)
      cases rv_int rv4
      refine ip_snd (K := K) w4.ok ha r4 fun d5 h5 p5 H5 v5 q5 ok5 x5 rv5 => ?_
      have w5 := w4.to ok5 x5
      exact setI_snd ok5 (x5 _ _ (x4 _ _ rv')) (x5 _ _ (x4 _ _ rv2)) rv5 q5 fun h' H' c ok x => c _ _ _ ok (w5.re.ext x) ((((x1.trans x2).trans x4).trans x5).trans x)
    · exact r2.elim
  · exact r2.elim
theorem imp_iff (mg : MonoG G G) {c : MX} {a b : MSs} (q : tS K W0 G E (.iff c a b) D σ H) : tIfS (tT K W0 G E c) (tSs K W0 G E a) (tSs K W0 G E b) D σ H := by
  obtain ⟨p, h, e, w, hw⟩ := q
  unfold wS at hw
  refine tT_then mg w hw fun t h1 p1 H1 r w1 x1 => ?_
  cases t with
  | true => exact ⟨_, _, _, w1, wSs_mono mg (fun _ _ _ z => z) _ _ _ (mdOf_ext x1) r⟩
  | false => exact ⟨_, _, _, w1, wSs_mono mg (fun _ _ _ z => z) _ _ _ (mdOf_ext x1) r⟩
theorem imp_seq (mg : MonoG G G) {a : MS} {b : MSs} (q : tSs K W0 G E (.cons a b) D σ H) : tSeq (tS K W0 G E a) (tSs K W0 G E b) D σ H := by
  obtain ⟨p, h, e, w, hw⟩ := q
  unfold wSs at hw
  have le : MD.Le { mdOf K ⟨p, h, H⟩ D with nx := fun e1 h1 => wSs G E b e1 h1 (mdOf K ⟨p, h, H⟩ D) } (mdOf K ⟨p, h, H⟩ { D with nx := tSs K W0 G E b D }) :=
    ⟨fun e1 h1 r p1 H1 σ1 ok re x => ⟨p1, h1, e1, ⟨ok, re, w.ext.trans x⟩, wSs_mono mg (fun _ _ _ z => z) _ _ _ (mdOf_ext x) r⟩, fun _ _ z => z, fun _ _ z => z, fun _ _ z => z⟩
  exact ⟨p, h, e, w, wS_mono mg (fun _ _ _ z => z) a e h le hw⟩
/-- a turn's end -/
theorem turn_end {n : Nat} {W1 : Wd} {tr : Bool} {C : MEnv → MH → Prop} {P : L2.St → Hp → Prop} (hn : n = W1.h.length) (w1 : Ext K W0 W1)
    (fin : ∀ p' h' H' e' σ', Wel K W0 p' h' H' e' σ' → Ext K W1 ⟨p', h', H'⟩ → C e' h' → P σ' H') {e' : MEnv} {h' : MH} (q : trE tr n C e' h') {p' : Nat → Addr} {H' : Hp} {σ' : L2.St} (ok : WOk K ⟨p', h', H'⟩) (re : RE K ⟨p', h', H'⟩ e' σ') (x : Ext K W1 ⟨p', h', H'⟩) : P σ' H' := by
  unfold trE at q
  cases tr with
  | false => exact fin p' h' H' e' σ' ⟨ok, re, w1.trans x⟩ x q
  | true =>
    obtain ⟨a, b⟩ := wd_cut (n := n) ok x (by rw [hn]; exact Nat.le_refl _)
    have hl := x.len
    exact fin p' (h'.take n) H' (cutE n e') σ' ⟨a, re.cut (W₀ := W0) (by rw [hn]; exact hl), w1.trans b⟩ b q
theorem imp_whl (mg : MonoG G G) {tr : Bool} {c : MX} {b : MSs} (q : tS K W0 G E (.whl tr c b) D σ H) : tWhile (tT K W0 G E c) (tSs K W0 G E b) D σ H := by
  obtain ⟨p, h, e, w, hw⟩ := q
  unfold wS at hw
  obtain ⟨k, hw⟩ := hw
  refine ⟨fun m σc Hc => ∃ p' h' e', Wel K W0 p' h' Hc e' σc ∧ Ext K ⟨p, h, H⟩ ⟨p', h', Hc⟩ ∧
    whlN tr h.length (fun e1 h1 K' => wX G (fun x h' => E x e1 h') c e1 h1 fun x h2 => wTru x h2 fun t => K' t h2) (fun e1 h1 D1 => wSs G E b e1 h1 D1) (mdOf K ⟨p, h, H⟩ D) m e' h', ⟨k, p, h, e, w, Ext.refl, hw⟩, ?_⟩
  rintro m σc Hc ⟨p', h', e', w', x', q⟩
  cases m with
  | zero => exact q.elim
  | succ m =>
    unfold whlN at q
    refine tT_then mg w' q fun t h1 p1 H1 r w1 x1 => ?_
    have xx := x'.trans x1
    cases t with
    | false =>
      rw [if_neg Bool.false_ne_true] at r ⊢
      exact r _ _ _ w1.ok w1.re xx
    | true =>
      rw [if_pos rfl] at r ⊢
      refine ⟨fun σn Hn => ∃ p' h' e', Wel K W0 p' h' Hn e' σn ∧ Ext K ⟨p, h, H⟩ ⟨p', h', Hn⟩ ∧
        whlN tr h.length (fun e1 h1 K' => wX G (fun x h' => E x e1 h') c e1 h1 fun x h2 => wTru x h2 fun t => K' t h2) (fun e1 h1 D1 => wSs G E b e1 h1 D1) (mdOf K ⟨p, h, H⟩ D) m e' h',
        fun σn Hn z => ⟨m, Nat.lt_succ_self m, z⟩, p1, h1, _, w1, wSs_mono mg (fun _ _ _ z => z) _ _ _ ?_ r⟩
      have go : ∀ e2 h2, trE tr h.length (whlN tr h.length (fun e1 h1 K' => wX G (fun x h' => E x e1 h') c e1 h1 fun x h2 => wTru x h2 fun t => K' t h2) (fun e1 h1 D1 => wSs G E b e1 h1 D1) (mdOf K ⟨p, h, H⟩ D) m) e2 h2 →
          ∀ p' H' σ', WOk K ⟨p', h2, H'⟩ → RE K ⟨p', h2, H'⟩ e2 σ' → Ext K ⟨p1, h1, H1⟩ ⟨p', h2, H'⟩ → ∃ p'' h'' e'', Wel K W0 p'' h'' H' e'' σ' ∧ Ext K ⟨p, h, H⟩ ⟨p'', h'', H'⟩ ∧
            whlN tr h.length (fun e1 h1 K' => wX G (fun x h' => E x e1 h') c e1 h1 fun x h2 => wTru x h2 fun t => K' t h2) (fun e1 h1 D1 => wSs G E b e1 h1 D1) (mdOf K ⟨p, h, H⟩ D) m e'' h'' := fun e2 h2 q2 p' H' σ' ok re x =>
        turn_end (W1 := ⟨p, h, H⟩) (P := fun σ' H' => ∃ p'' h'' e'', Wel K W0 p'' h'' H' e'' σ' ∧ Ext K ⟨p, h, H⟩ ⟨p'', h'', H'⟩ ∧ whlN tr h.length (fun e1 h1 K' => wX G (fun x h' => E x e1 h') c e1 h1 fun x h2 => wTru x h2 fun t => K' t h2) (fun e1 h1 D1 => wSs G E b e1 h1 D1) (mdOf K ⟨p, h, H⟩ D) m e'' h'')
          rfl w.ext (fun p' h' H' e' σ' w x q => ⟨p', h', e', w, x, q⟩) q2 ok re (xx.trans x)
      exact ⟨fun e2 h2 q2 p' H' σ' ok re x => go e2 h2 q2 p' H' σ' ok re x, fun d h2 q2 p' H' v ok x rv => q2 p' H' v ok (xx.trans x) rv,
        fun e2 h2 q2 p' H' σ' ok re x => q2 p' H' σ' ok re (xx.trans x), fun e2 h2 q2 p' H' σ' ok re x => go e2 h2 q2 p' H' σ' ok re x⟩
theorem imp_for (mg : MonoG G G) {tr : Bool} {tg : MTg} {it : MI} {b : MSs} (q : tS K W0 G E (.forr tr tg it b) D σ H) : tFor (tI K W0 G E it) (gTg K tg) (tSs K W0 G E b) D σ H := by
  obtain ⟨p, h, e, w, hw⟩ := q
  unfold wS at hw
  refine ⟨p, h, e, w, wI_mono mg (fun _ _ z => z) it e h (fun xs g h1 hq p1 H1 J ok1 x1 io => ?_) hw⟩
  have w1 := w.to ok1 x1
  refine ⟨fun i m σc Hc => m = xs.length - i ∧ i ≤ xs.length ∧ ∃ p' h' e', Wel K W0 p' h' Hc e' σc ∧ Ext K ⟨p1, h1, H1⟩ ⟨p', h', Hc⟩ ∧
    forN tr h1.length tg g (fun e1 h2 D1 => wSs G E b e1 h2 D1) (mdOf K ⟨p, h, H⟩ D) (xs.drop i) e' h', ⟨_, rfl, Nat.zero_le _, p1, h1, e, w1, Ext.refl, by rw [List.drop_zero]; exact hq⟩, ?_⟩
  rintro i m σc Hc ⟨rfl, hi, p2, h2, e2, w2, x2, q⟩
  by_cases hlt : i < xs.length
  · rw [List.drop_eq_getElem_cons hlt] at q
    unfold forN at q
    obtain ⟨gd, q⟩ := q
    obtain ⟨go, yld⟩ := io.go i _ w2.ok x2 gd xs[i] (List.getElem?_eq_getElem hlt)
    refine .inr ⟨go, fun σn Hn => ∃ p' h' e', Wel K W0 p' h' Hn e' σn ∧ Ext K ⟨p1, h1, H1⟩ ⟨p', h', Hn⟩ ∧
      forN tr h1.length tg g (fun e1 h2 D1 => wSs G E b e1 h2 D1) (mdOf K ⟨p, h, H⟩ D) (xs.drop (i + 1)) e' h', fun σn Hn z => ⟨_, by omega, rfl, hlt, z⟩, fun x H' y => ?_⟩
    obtain ⟨ok3, x3, rv3⟩ := yld x H' y
    refine tg_snd q rv3 (w2.re.ext x3) fun e3 σ3 re3 q => ?_
    have w3 : Wel K W0 p2 h2 H' e3 σ3 := ⟨ok3, re3, w2.ext.trans x3⟩
    have xx := x2.trans x3
    refine ⟨p2, h2, e3, w3, wSs_mono mg (fun _ _ _ z => z) _ _ _ ?_ q⟩
    have go : ∀ e4 h4, trE tr h1.length (forN tr h1.length tg g (fun e1 h2 D1 => wSs G E b e1 h2 D1) (mdOf K ⟨p, h, H⟩ D) (xs.drop (i + 1))) e4 h4 →
        ∀ p' H'' σ', WOk K ⟨p', h4, H''⟩ → RE K ⟨p', h4, H''⟩ e4 σ' → Ext K ⟨p2, h2, H'⟩ ⟨p', h4, H''⟩ → ∃ p'' h'' e'', Wel K W0 p'' h'' H'' e'' σ' ∧ Ext K ⟨p1, h1, H1⟩ ⟨p'', h'', H''⟩ ∧
          forN tr h1.length tg g (fun e1 h2 D1 => wSs G E b e1 h2 D1) (mdOf K ⟨p, h, H⟩ D) (xs.drop (i + 1)) e'' h'' := fun e4 h4 q4 p' H'' σ' ok re x =>
      turn_end (W1 := ⟨p1, h1, H1⟩) (P := fun σ' H'' => ∃ p'' h'' e'', Wel K W0 p'' h'' H'' e'' σ' ∧ Ext K ⟨p1, h1, H1⟩ ⟨p'', h'', H''⟩ ∧ forN tr h1.length tg g (fun e1 h2 D1 => wSs G E b e1 h2 D1) (mdOf K ⟨p, h, H⟩ D) (xs.drop (i + 1)) e'' h'')
        rfl w1.ext (fun p' h' H' e' σ' w x q => ⟨p', h', e', w, x, q⟩) q4 ok re (xx.trans x)
    have back := x1.trans xx
    exact ⟨fun e4 h4 q4 p' H'' σ' ok re x => go e4 h4 q4 p' H'' σ' ok re x, fun d h4 q4 p' H'' v ok x rv => q4 p' H'' v ok (back.trans x) rv,
      fun e4 h4 q4 p' H'' σ' ok re x => q4 p' H'' σ' ok re (back.trans x), fun e4 h4 q4 p' H'' σ' ok re x => go e4 h4 q4 p' H'' σ' ok re x⟩
  · have hi2 : i = xs.length := by omega
    subst hi2
    rw [List.drop_length] at q
    unfold forN at q
    exact .inl ⟨io.stop _ _ w2.ok x2 q.1 (Nat.le_refl _), q.2 _ _ _ w2.ok w2.re (x1.trans x2)⟩
end
end Mini
end
section
set_option Elab.async false
set_option linter.all false
set_option maxRecDepth 100000
set_option maxHeartbeats 4000000
/-! Mini: an except clause with a name: what it asks of the refusal, what it takes of it. -/
namespace Mini
open PySem PySem.Spec PyProof.Rows L2
section
open PySem.W
variable {prog : Program} {w : World} {A : Around} {E : Value → Shared → Prop} {s : Shared} {K : Frag} {x D : Addr} {ox : Obj}
/-- e.__class__, e with a dict -/
theorem kin_classD {od : Obj} {Q : Option Value → Shared → Prop} (C : ExcC K D) (X : K.In s.heap) (I : InstAt s.heap x ox D (some od)) (h : Q (some (.ref D)) { s with toks := s.toks + 1 }) : wpAny (model prog w) A (getAttr? (.ref x) "__class__") Q E s := by
  have hf : findObj K D (some od) "__class__" = some (.bind (.builtin "getset_descriptor.__get__") (.builtin "object.__class__")) := findObj_data (by obtain ⟨cd, hc, _⟩ := any_some C.hd; rw [hc]; rfl) C.ha C.hn C.ht
  obtain ⟨hp, g, d, t, os⟩ := s
  have L0 := I.type (M := model prog w)
  have L1 := looks_findIn (M := model prog w) X C.hg
  have L2 := looks_findIn (M := model prog w) X C.hk
  have L3 := looks_find (M := model prog w) X I hf
  have sub : Looks (model prog w) hp (isInstance (.ref x) (.type "BaseException")) true := L0.andThen (looks_subIn X C.hs)
  have hx0 : (false && onTheHeap (Value.builtin "BaseException.__getattribute__")) = false := rfl
  have hx2 : (Value.builtin "BaseException.__getattribute__" == Value.builtin "object.__getattribute__") = false := by decide +kernel
  have hx1 : (onTheHeap (Value.ref D) && Value.builtin "BaseException.__getattribute__" == Value.builtin "object.__getattribute__") = false := by rw [hx2]; rfl
  unfold getAttr? getAttrBy? getAttrBy
  refine wpAny_bind (wpAny_mkText (wpAny_bind (wpAny_attempt (wpAny_holding (wpAny_bind (L0.at (wpAny_bind (L1.at ?_))))))))
  show wpAny _ _ (if (onTheHeap (Value.ref D) && Value.builtin "BaseException.__getattribute__" == Value.builtin "object.__getattribute__") = true then _ else _) _ _ _
  rw [hx1, if_neg Bool.false_ne_true]
  unfold getAttrByItsOwn hookBefore
  refine wpAny_bind ?_
  rw [if_pos (show onTheHeap (Value.ref D) = true from rfl)]
  refine L2.at ?_
  refine wpAny_bind (wpAny_attempt (wpAny_holding ?_))
  unfold callGetattribute
  rw [hx0, if_neg Bool.false_ne_true]
  unfold boundAndCalled
  rw [PySem.F.excAttr_ValueError.ga.bind (.ref x)]
  refine wpAny_bind (wpAny_pure ?_)
  show wpAny _ _ (call (.builtin "BaseException.__getattribute__") [.ref x, .str "__class__" t]) _ _ _
  refine wpAny_call (codeAny_call_builtin PySem.F.excAttr_ValueError.ga.plain PySem.F.entry_bexc_ga ?_)
  refine @check_slot (model prog w) _ _ ⟨hp, g, d, t + 1, os⟩ "BaseException.__getattribute__" "BaseException" "__getattribute__" (.ref x) [.str "__class__" t] [] _ (by decide +kernel) (by decide +kernel) sub (PySem.F.args_bexc_ga (.ref x) (.str "__class__" t)) ?_
  unfold Builtin.«object.__getattribute__»
  refine wpAny_bind (wpAny_of_eq (a := ((Value.ref x : Value), [Value.str "__class__" t])) (by first | rfl | (simp only [slotArgs]; rfl)) ?_)
  refine wpAny_bind (wpAny_pure (wpAny_bind (L0.at (wpAny_bind (L3.at ?_)))))
  show wpAny _ _ (holding [Value.builtin "object.__class__"] (call (.builtin "getset_descriptor.__get__") [.builtin "object.__class__", .ref x, .ref D]) >>= ret) _ _ _
  refine wpAny_bind (wpAny_holding (wpAny_call (class_get (s := ⟨hp, g, d, t + 1, os⟩) (ox := ox) (od := some od) X I C.hm ?_)))
  refine wpAny_pure ?_
  show wpAny _ _ (handedOut (.ref D)) _ _ _
  rw [handedOut_of (v := .ref D) rfl]
  first
    | exact wpAny_pure (wpAny_pure h)
    | exact wpAny_pure h
    | exact wpAny_pure (wpAny_bind (wpAny_pure (wpAny_pure h)))
theorem kitx_excD {od : Obj} (C : ExcC K D) : KitX K (.ref x) (.ref D) (fun h => InstAt h x ox D (some od)) where
  ty := fun _ _ _ I => I.type
  it := fun _ _ X _ => by
    obtain ⟨cdD, hcD, _⟩ := any_some C.hd
    unfold clsIn at hcD
    split at hcD
    · rename_i c' d' cd' sl' ho
      intro A' Q' E' s' k q
      unfold isType loadHead
      exact wpAny_bind (wpAny_loadPart (k _ _ (X _ _ ho)) (wpAny_pure q))
    · cases hcD
  ne := fun h tp dd its n sl X htp => by
    obtain ⟨cdD, hcD, _⟩ := any_some C.hd
    refine Bool.eq_false_iff.mpr fun q => ?_
    have e : D = tp := Value.ref.inj (beq_iff_eq.mp q)
    subst e
    unfold clsIn at hcD
    split at hcD
    · rename_i c' d' cd' sl' ho
      have z := (X _ _ ho).symm.trans htp
      cases z
    · cases hcD
  ca := fun X I k => kin_classD C X I k
end
/-- isinstance(e, c), isinstance(e, (c, ..)): e the refusal that the clause holds, its dict at dd -/
def rIsD (K : PySem.W.Frag) (D a dd : Addr) : List V → Hp → VK → Prop := fun xs H Q => ∃ (b : Bool) (fs : List (Str × V)), H dd = some (.xd fs) ∧ Q (.bl b) H ∧
  ((∃ c u, xs = [.ref a, c] ∧ ClsV c u ∧ PySem.W.kitOne K (.ref D) u = some b) ∨ ∃ tp cs us, xs = [.ref a, .ref tp] ∧ H tp = some (.tup cs) ∧ Paired ClsV cs us ∧ PySem.W.kitAny K (.ref D) us = some b)
theorem call_isD {X : Cx} {a D dd : Addr} {oe : Obj} {pn : List (Addr × Obj)} (C : ExcC X.K D) (hz : Zc (.ref D) (some dd) oe) (hf : ∃ vs, oe.data = .fields vs) : CallR (X.suite a ((a, oe) :: pn)) (.builtin "isinstance") (rIsD X.K D a dd) := by
  intro pins s σ H xs us Q I r h
  obtain ⟨b, fs, hd, q, h⟩ := h
  obtain ⟨hget, _⟩ := I.pin (a, oe) (List.mem_append.mpr (.inl List.mem_cons_self))
  obtain ⟨vs, hv⟩ := hf
  have hx : ObjOk X.prog X.w H s.heap dd (.xd fs) := I.hok dd _ hd
  obtain ⟨mA, hns, hr⟩ := hx
  obtain ⟨od, ho, hl⟩ := lookIn_ns hns
  have J : PySem.W.InstAt s.heap a oe D (some od) := ⟨hget, hz.1, by unfold PySem.W.notCls; rw [hv] <;> rfl, by rw [hz.2]; exact ho⟩
  rcases h with ⟨c, u, rfl, k, e⟩ | ⟨tp, cs, ws, rfl, hT, k, e⟩
  · obtain ⟨u1, u2, rfl, r1, r2⟩ := vals2 r
    cases (show u1 = Value.ref a from r1)
    have e2 := k.eq r2
    subst e2
    exact PySem.W.kia_one (kitx_excD C) I.kIn J e (fun z => nomatch z) fun tk => ⟨.bl b, H, I.kept (t' := tk) fun _ _ z => z, rfl, q⟩
  · obtain ⟨u1, u2, rfl, r1, r2⟩ := vals2 r
    cases (show u1 = Value.ref a from r1)
    cases (show u2 = Value.ref tp from r2)
    obtain ⟨_, its, rv, o, h1, h2, n, h3⟩ := (show ObjOk X.prog X.w H s.heap tp (.tup cs) from I.hok tp _ hT)
    have e3 := ClsV.all k rv
    subst e3
    obtain ⟨oc, od', dt, sl⟩ := o
    simp only at h2 h3
    subst h2 h3
    exact PySem.W.kia_tup (kitx_excD C) I.kIn J h1 e (fun z => nomatch z) fun tk => ⟨.bl b, H, I.kept (t' := tk) fun _ _ z => z, rfl, q⟩
/-- a slot that holds what the small language has no word for -/
theorem RE.setN {K : PySem.W.Frag} {W : Wd} {e : MEnv} {σ : L2.St} (r : RE K W e σ) {i : Nat} {v : Option V} : RE K W (e.set i none) (σ.set i v) := by
  refine ⟨by rw [List.length_set, List.length_set]; exact r.len, fun j c q => ?_⟩
  by_cases hj : i = j
  · subst hj
    by_cases hl : i < e.length
    · rw [List.getElem?_set_self hl] at q; simp at q
    · rw [List.getElem?_eq_none (by rw [List.length_set]; omega)] at q; cases q
  · rw [List.getElem?_set_ne hj] at q ⊢
    exact r.at_ j c q
/-! ### what the clause's suite does -/
theorem fzall_ext {K : PySem.W.Frag} {W W' : Wd} (x : Ext K W W') : ∀ {vs : List V} {ds : List PyData}, FzAll K (live W) W.H vs ds → FzAll K (live W') W'.H vs ds
  | _, _, .nil => .nil
  | _, _, .cons r t => .cons (show RV K W' (.d _) _ from x _ _ r) (fzall_ext x t)
structure HSt (cs : List String) (K : PySem.W.Frag) (mg : Str → Option Value) (W0 : Wd) (j : Nat) (a : Addr) (cls : Value) (d : Option Addr) (x : MExc) (p : Nat → Addr) (h : MH) (H : Hp) (e : MEnv) (σ : L2.St) : Prop where
  inC : cs.contains x.cls = true
  w : Wel K W0 p h H e σ
  sj : σ[j]? = some (some (.ref a))
  ej : ∀ v, e[j]? ≠ some (some v)
  xr : XR K mg ⟨p, h, H⟩ x cls d
section
variable {cs : List String} {K : PySem.W.Frag} {mg : Str → Option Value} {W0 : Wd} {j : Nat} {a : Addr} {cls : Value} {d : Option Addr} {x : MExc} {p : Nat → Addr} {h : MH} {H : Hp} {e : MEnv} {σ : L2.St}
theorem XR.upd {q : Addr} {o : HO} (r : XR K mg ⟨p, h, H⟩ x cls d) (ok : WOk K ⟨p, h, H⟩) (n : H q = none) : XR K mg ⟨p, h, upd H q o⟩ x cls d := by
  obtain ⟨C, dd, fs, h1, h2, h3, h4, h5, h6⟩ := r
  exact ⟨C, dd, fs, h1, h2, h3, by show L2.upd H q o dd = _; rw [upd_ne (ne_of_none h4 n)]; exact h4, h5, fzall_ext (K := K) (wd_gar ok n).2 h6⟩
theorem HSt.upd {q : Addr} {o : HO} (s : HSt cs K mg W0 j a cls d x p h H e σ) (n : H q = none) : HSt cs K mg W0 j a cls d x p h (L2.upd H q o) e σ ∧ Ext K ⟨p, h, H⟩ ⟨p, h, L2.upd H q o⟩ := by
  obtain ⟨ok, ex⟩ := wd_gar (K := K) (o := o) s.w.ok n
  exact ⟨⟨s.inC, s.w.to ok ex, s.sj, s.ej, s.xr.upd s.w.ok n⟩, ex⟩
theorem fld_at {B : Addr → Prop} {f : String} {v : PyData} : ∀ {fs : List (Str × V)} {l : List (String × PyData)}, fs.map (·.1) = l.map (fun q => nm q.1) → FzAll K B H (fs.map (·.2)) (l.map (·.2)) →
    (l.find? fun q => Str.ofString q.1 == Str.ofString f).map (·.2) = some v → ∃ u, fs.lookup (nm f) = some u ∧ Fz K B H u v
  | [], [], _, _, z => by simp at z
  | [], _ :: _, z, _, _ => by simp at z
  | _ :: _, [], z, _, _ => by simp at z
  | (g, u) :: fs, (k, y) :: l, e1, e2, z => by
    simp only [List.map_cons, List.cons.injEq] at e1
    cases e2 with
    | cons r t =>
      rw [List.find?_cons] at z
      rw [List.lookup_cons]
      have eg : g = nm k := e1.1
      by_cases hk : (Str.ofString k == Str.ofString f) = true
      · have z1 : (Str.ofString k == Str.ofString f) = true := hk
        simp only [z1] at z
        have e3 : (nm f == g) = true := by
          rw [eg]
          have := beq_iff_eq.mp hk
          show (nm f == nm k) = true
          rw [show nm k = nm f from this]
          exact beq_self_eq_true _
        rw [e3]
        simp at z
        subst z
        exact ⟨u, rfl, r⟩
      · have z1 : (Str.ofString k == Str.ofString f) = false := by simpa using hk
        simp only [z1] at z
        have e3 : (nm f == g) = false := by
          rw [eg]
          refine Bool.eq_false_iff.mpr fun q => hk ?_
          have := beq_iff_eq.mp q
          show (nm k == nm f) = true
          rw [show nm k = nm f from this.symm]
          exact beq_self_eq_true _
        rw [e3]
        exact fld_at e1.2 t z
end
def tLs : List V → TA
  | [] => tNil
  | v :: vs => tCons (tC v) (tLs vs)
theorem tLs_at {σ : L2.St} {H : Hp} : ∀ {vs : List V} {Q : List V → Hp → Prop}, Q vs H → tLs vs σ H Q
  | [], Q, q => q
  | v :: vs, Q, q => tLs_at (vs := vs) (Q := fun ws H1 => Q (v :: ws) H1) q
section
variable (cs : List String) (K : PySem.W.Frag) (mg : Str → Option Value) (W0 : Wd) (j : Nat) (a : Addr) (cls : Value) (d : Option Addr)
def tHc (c : MHc) : TT := fun σ H Q => ∃ p h e x, HSt cs K mg W0 j a cls d x p h H e σ ∧ ∀ H', HSt cs K mg W0 j a cls d x p h H' e σ → Ext K ⟨p, h, H⟩ ⟨p, h, H'⟩ → Q (hcV x c) H'
def tHv (v : MHv) : TE := fun σ H Q => ∃ p h e x y, HSt cs K mg W0 j a cls d x p h H e σ ∧ hvV x v = some y ∧ ∀ H' u, HSt cs K mg W0 j a cls d x p h H' e σ → Ext K ⟨p, h, H⟩ ⟨p, h, H'⟩ → RV K ⟨p, h, H'⟩ (.d y) u → Q u H'
def tHa (v : MHa) : TE := fun σ H Q => ∃ p h e x y, HSt cs K mg W0 j a cls d x p h H e σ ∧ haV x v = some y ∧ ∀ u, RV K ⟨p, h, H⟩ (.d y) u → Q u H
def tHas (vs : List MHa) : TA := fun σ H Q => ∃ p h e x ys, HSt cs K mg W0 j a cls d x p h H e σ ∧ hasV x vs = some ys ∧ ∀ us, FzAll K (live ⟨p, h, H⟩) H us ys → Q us H
def tHs (b : MHs) : TS := fun D σ H => ∃ p h e x, HSt cs K mg W0 j a cls d x p h H e σ ∧ wHs x b e fun e' => ∀ H' σ', HSt cs K mg W0 j a cls d x p h H' e' σ' → Ext K ⟨p, h, H⟩ ⟨p, h, H'⟩ → D.nx σ' H'
end
section
variable {T : List MF} {k : Nat} {X : Cx} {S : Sc} {W0 : Wd} {j : Nat} {a : Addr} {cls : Value} {d : Option Addr} {oe : Obj} {pn : List (Addr × Obj)} {cs : List String}
theorem cst_rvH {K : PySem.W.Frag} {W : Wd} {c : PyData} {k : Const} (h : cstB c k = true) : RV K W (.d c) (cV c) := by
  unfold cstB at h
  split at h
  · exact .non
  · exact .bl _
  · exact .int _
  · exact .str _
  · cases h
/-- a class's name within the clause -/
theorem pe_cl (c : CtxOk T X S k) (ne : cs.isEmpty = false) {q : String × Bool} {e : Expr} (h : kCl S cs q e = true) : plainE e = true ∧ ∃ (v : V) (u : Value), ClsV v u ∧ PE (X.suite a ((a, oe) :: pn)) e (tC v) ∧
    ∀ z, cs.contains z = true → ∀ C, X.mg (nm z) = some (.ref C) → PySem.W.kitOne X.K (.ref C) u = some (hqV z q) := by
  unfold kCl at h
  split at h
  · rename_i x pos
    simp only [Bool.and_eq_true, decide_eq_true_eq] at h
    obtain ⟨⟨rfl, h2⟩, h3⟩ := h
    have key : ∀ z, cs.contains z = true → IsoOk X.K X.mg (z, q.1, hqV z q) := fun z hz => by
      have := List.all_eq_true.mp h3 z (by simpa using hz)
      obtain ⟨w, hw, h9⟩ := List.any_eq_true.mp this
      rw [of_decide_eq_true h9] at hw
      exact c.iso _ hw
    refine ⟨rfl, ?_⟩
    by_cases hv : q.1 = "ValueError"
    · rw [if_pos hv] at h2
      have D := blt_of c h2
      have hn : X.mg (nm q.1) = none := D.no
      have hy : bootBuiltins (nm q.1) = some (.type "ValueError") := by rw [hv]; decide +kernel
      refine ⟨.ty "ValueError", .type "ValueError", .ty _, pe_bltn (X := X.suite a ((a, oe) :: pn)) D.gl D.no hy rfl D.nn D.db, fun z hz C hC => ?_⟩
      obtain ⟨A1, m1, ⟨_, r⟩ | ⟨A2, m2, _⟩⟩ := key z hz
      · cases hC.symm.trans m1
        exact r
      · rw [hn] at m2; cases m2
    · rw [if_neg hv] at h2
      obtain ⟨g, dd⟩ := gl_of c.sc h2
      obtain ⟨z0, hz0⟩ : ∃ z, cs.contains z = true := by
        cases cs with
        | nil => cases ne
        | cons z r => exact ⟨z, by simp⟩
      obtain ⟨_, _, ⟨z1, _⟩ | ⟨A2, m2, _⟩⟩ := key z0 hz0
      · exact absurd z1 hv
      · refine ⟨.ref A2, .ref A2, .own _, pe_glob (X := X.suite a ((a, oe) :: pn)) g m2 (show RelV (.ref A2) (.ref A2) from rfl) (nm_dbg dd).1, fun z hz C hC => ?_⟩
        obtain ⟨A1, m1, ⟨z1, _⟩ | ⟨A3, m3, r⟩⟩ := key z hz
        · exact absurd z1 hv
        · cases hC.symm.trans m1
          cases m2.symm.trans m3
          exact r
  · cases h
theorem pa_cls (c : CtxOk T X S k) (ne : cs.isEmpty = false) : ∀ {qs : List (String × Bool)} {es : List Expr}, kCls S cs qs es = true → ∃ (vs : List V) (us : List Value), Paired ClsV vs us ∧ vs.length = es.length ∧ PA (X.suite a ((a, oe) :: pn)) es (tLs vs) ∧
    ∀ z, cs.contains z = true → ∀ C, X.mg (nm z) = some (.ref C) → PySem.W.kitAny X.K (.ref C) us = some (qs.any (hqV z))
  | [], es, h => by
    unfold kCls at h
    cases es with
    | nil => exact ⟨[], [], .nil, rfl, pa_nil, fun _ _ _ _ => rfl⟩
    | cons _ _ => cases h
  | q :: qs, es, h => by
    unfold kCls at h
    cases es with
    | nil => cases h
    | cons e es =>
      rw [Bool.and_eq_true] at h
      obtain ⟨pl, v, u, k1, p1, r1⟩ := pe_cl (a := a) (oe := oe) (pn := pn) c ne h.1
      obtain ⟨vs, us, k2, l2, p2, r2⟩ := pa_cls c ne h.2
      refine ⟨v :: vs, u :: us, .cons k1 k2, by simp [l2], pa_cons p1 p2 (star_cons pl _ _), fun z hz C hC => ?_⟩
      unfold PySem.W.kitAny
      rw [r1 z hz C hC, List.any_cons]
      cases hqV z q with
      | true => rfl
      | false => exact r2 z hz C hC
/-- what the slot's reading needs -/
theorem tvar_at {σ : L2.St} {H : Hp} {Q : VK} (s : σ[j]? = some (some (.ref a))) (q : Q (.ref a) H) : tVar j σ H Q := ⟨_, s, q⟩
theorem pe_visH {x : Str} {pos : Pos} (c : CtxOk T X S k) (q : visB S j x = true) : PE (X.suite a ((a, oe) :: pn)) (.Name x pos) (tVar j) := by
  unfold visB at q
  simp only [Bool.and_eq_true, decide_eq_true_eq] at q
  obtain ⟨⟨h1, h2⟩, h3⟩ := q
  obtain ⟨d1, d2, _⟩ := nm_dbg (by simpa using h3 : dbgB x = false)
  have vis : Vis X.env.scope x := by
    rw [c.sc]
    split at h2
    · rename_i z; exact .inl z
    · rename_i z; exact .inr (.inl z)
    · rename_i z; exact .inr (.inr z)
    · cases h2
  exact pe_var (X := X.suite a ((a, oe) :: pn)) (show X.N[j]? = some x by rw [c.N]; exact h1) vis d1 d2
theorem pt_hc (c : CtxOk T X S k) (ne : cs.isEmpty = false) (ex : ∀ z, cs.contains z = true → ∃ C, X.mg (nm z) = some (.ref C) ∧ ExcC X.K C) (hz : Zc cls d oe) (hf : ∃ vs, oe.data = .fields vs) :
    ∀ {h : MHc} {e : Expr}, kHc S cs j h e = true → PT (X.suite a ((a, oe) :: pn)) e (tHc cs X.K X.mg W0 j a cls d h)
  | .one q, e, h => by
    unfold kHc at h
    split at h
    · rename_i x xp y yp e2 pos
      simp only [Bool.and_eq_true] at h
      obtain ⟨⟨h1, h2⟩, h3⟩ := h
      refine ⟨fun pins s σ H Q I ⟨p, hh, ee, xx, hs, K⟩ => ?_⟩
      obtain ⟨C, dd, fs, m, rfl, rfl, r1, r2, r3⟩ := hs.xr
      obtain ⟨C', m', EC⟩ := ex _ hs.inC
      cases m.symm.trans m'
      have B := blt_of c h1
      have hv : bootBuiltins x = some (.builtin "isinstance") := by rw [B.eq]; exact boot_isinstance
      obtain ⟨pl, v, u, kv, pv, rv⟩ := pe_cl (a := a) (oe := oe) (pn := pn) c ne h3
      have pa : PA (X.suite a ((a, oe) :: pn)) [.Name y yp, e2] (tCons (tVar j) (tCons (tC v) tNil)) := pa_cons (pe_visH c h2) (pa_cons pv pa_nil (star_cons pl _ _)) (star_cons rfl _ _)
      have pc := pe_callB (X := X.suite a ((a, oe) :: pn)) (p := xp) (pos := pos) (call_isD EC hz hf) B.gl B.no hv pa B.nn B.db (star_cons rfl _ _) (back_any (by rw [List.all_cons, pl]; rfl))
      exact (pt_truth pc fun wh => isTrue_of rfl _ wh).run pins s σ H Q I (tvar_at hs.sj ⟨hqV xx.cls q, fs, r1, ⟨hqV xx.cls q, rfl, K H hs Ext.refl⟩, .inl ⟨v, u, rfl, kv, rv _ hs.inC _ m⟩⟩)
    · cases h
  | .any qs, e, h => by
    unfold kHc at h
    split at h
    · rename_i x xp y yp es tk tp pos
      simp only [Bool.and_eq_true, decide_eq_true_eq] at h
      obtain ⟨⟨⟨h1, h2⟩, h3⟩, h4⟩ := h
      refine ⟨fun pins s σ H Q I ⟨p, hh, ee, xx, hs, K⟩ => ?_⟩
      obtain ⟨C, dd, fs, m, rfl, rfl, r1, r2, r3⟩ := hs.xr
      obtain ⟨C', m', EC⟩ := ex _ hs.inC
      cases m.symm.trans m'
      have B := blt_of c h1
      have hv : bootBuiltins x = some (.builtin "isinstance") := by rw [B.eq]; exact boot_isinstance
      obtain ⟨vs, us, kv, lv, pv, rv⟩ := pa_cls (a := a) (oe := oe) (pn := pn) c ne h3
      have pt : PE (X.suite a ((a, oe) :: pn)) (.Tuple es tk tp) (tTup (tLs vs)) := pe_tup pv
      have pa : PA (X.suite a ((a, oe) :: pn)) [.Name y yp, .Tuple es tk tp] (tCons (tVar j) (tCons (tTup (tLs vs)) tNil)) := pa_cons (pe_visH c h2) (pa_cons pt pa_nil (star_cons rfl _ _)) (star_cons rfl _ _)
      have pc := pe_callB (X := X.suite a ((a, oe) :: pn)) (p := xp) (pos := pos) (call_isD EC hz hf) B.gl B.no hv pa B.nn B.db (star_cons rfl _ _) (back_any rfl)
      refine (pt_truth pc fun wh => isTrue_of rfl _ wh).run pins s σ H Q I ?_
      refine ⟨_, hs.sj, ?_⟩
      refine tLs_at (vs := vs) ?_
      refine ⟨?_, fun q nq => ?_⟩
      · have := sizeLine_eq; omega
      · obtain ⟨hs', x'⟩ := hs.upd (o := .tup vs) nq
        refine ⟨qs.any (hqV xx.cls), fs, ?_, ⟨_, rfl, K _ hs' x'⟩, .inr ⟨q, vs, us, rfl, upd_same, kv, rv _ hs.inC _ m⟩⟩
        rw [upd_ne (ne_of_none r1 nq)]
        exact r1
    · cases h
  | .nt g, e, h => by
    unfold kHc at h
    split at h
    · refine PT.imp (pt_not (pt_hc c ne ex hz hf h)) fun σ H Q ⟨p, hh, ee, xx, hs, K⟩ => ?_
      exact ⟨p, hh, ee, xx, hs, fun H' s' x' => K H' s' x'⟩
    · cases h
  | .and f g, e, h => by
    unfold kHc at h
    split at h
    · rename_i e1 e2 pos
      rw [Bool.and_eq_true] at h
      refine PT.imp (pw_and (pos := pos) (pt_hc c ne ex hz hf h.1) (pw_and1 (pt_hc c ne ex hz hf h.2))).pt fun σ H Q ⟨p, hh, ee, xx, hs, K⟩ => ?_
      refine ⟨p, hh, ee, xx, hs, fun H' s' x' => ?_⟩
      cases hc : hcV xx f with
      | true =>
        rw [if_pos rfl]
        refine ⟨p, hh, ee, xx, s', fun H2 s2 x2 => ?_⟩
        have := K H2 s2 (x'.trans x2)
        simp only [hcV, hc, Bool.true_and] at this
        exact this
      | false =>
        rw [if_neg Bool.false_ne_true]
        have := K H' s' x'
        simp only [hcV, hc, Bool.false_and] at this
        exact this
    · cases h
theorem pe_ha (c : CtxOk T X S k) (hz : Zc cls d oe) (hf : ∃ vs, oe.data = .fields vs) {v : MHa} {e : Expr} (h : kHa S cs j v e = true) : plainE e = true ∧ PE (X.suite a ((a, oe) :: pn)) e (tHa cs X.K X.mg W0 j a cls d v) := by
  cases v with
  | cst y =>
    simp only [kHa] at h
    split at h
    · refine ⟨rfl, PE.imp (pe_cst (X := X.suite a ((a, oe) :: pn)) (W0 := W0) (G := wF T k) (E := fun _ _ _ => True) h).2 fun σ H Q ⟨p, hh, ee, xx, y', hs, hy, K⟩ => ?_⟩
      cases hy
      exact K _ (cst_rvH (K := X.K) h)
    · cases h
  | fld f =>
    simp only [kHa] at h
    split at h
    · rename_i y yp z pos
      simp only [Bool.and_eq_true, decide_eq_true_eq] at h
      obtain ⟨⟨h1, rfl⟩, h3⟩ := h
      refine ⟨rfl, ⟨fun pins s σ H Q I ⟨p, hh, ee, xx, y', hs, hy, K⟩ => ?_⟩⟩
      obtain ⟨C, dd, fs, m, rfl, rfl, r1, r2, r3⟩ := hs.xr
      have := List.all_eq_true.mp h3 xx.cls (by simpa using hs.inC)
      obtain ⟨w, hw, h9⟩ := List.any_eq_true.mp this
      simp only [Bool.and_eq_true, decide_eq_true_eq] at h9
      obtain ⟨C', m', EC, fz⟩ := c.exf _ hw
      rw [h9.1] at m'
      cases m.symm.trans m'
      obtain ⟨u, hu, ru⟩ := fld_at r2 r3 hy
      exact (pe_xf ⟨EC.hg, EC.hk, EC.hs, EC.hd⟩ (fz f (by simpa using h9.2)) hz hf (pe_visH c h1)).run pins s σ H Q I (tvar_at hs.sj ⟨rfl, rfl, dd, fs, u, rfl, r1, hu, K _ ru⟩)
    · cases h
theorem pa_has (c : CtxOk T X S k) (hz : Zc cls d oe) (hf : ∃ vs, oe.data = .fields vs) : ∀ {vs : List MHa} {es : List Expr}, kHas S cs j vs es = true → PA (X.suite a ((a, oe) :: pn)) es (tHas cs X.K X.mg W0 j a cls d vs)
  | [], es, h => by
    unfold kHas at h
    cases es with
    | nil => exact PA.imp pa_nil fun σ H Q ⟨p, hh, ee, xx, y', hs, hy, K⟩ => by cases hy; exact K [] .nil
    | cons _ _ => cases h
  | v :: vs, es, h => by
    unfold kHas at h
    cases es with
    | nil => cases h
    | cons e es =>
      rw [Bool.and_eq_true] at h
      obtain ⟨pl, p1⟩ := pe_ha (a := a) (oe := oe) (pn := pn) (W0 := W0) c hz hf h.1
      refine PA.imp (pa_cons p1 (pa_has c hz hf h.2) (star_cons pl _ _)) fun σ H Q ⟨p, hh, ee, xx, y', hs, hy, K⟩ => ?_
      unfold hasV at hy
      split at hy
      · rename_i y1 ys h1 h2
        cases hy
        exact ⟨p, hh, ee, xx, y1, hs, h1, fun u r => ⟨p, hh, ee, xx, ys, hs, h2, fun us rs => K (u :: us) (.cons r rs)⟩⟩
      · cases hy
theorem has_len {x : MExc} : ∀ {vs : List MHa} {ys : List PyData}, hasV x vs = some ys → ys.length = vs.length
  | [], ys, h => by cases h; rfl
  | v :: vs, ys, h => by
    unfold hasV at h
    split at h
    · rename_i h2
      cases h
      rw [List.length_cons, List.length_cons, has_len h2]
    · cases h
theorem has_es {vs : List MHa} : ∀ {es : List Expr}, kHas S cs j vs es = true → vs.length = es.length := by
  induction vs with
  | nil => intro es h; unfold kHas at h; cases es with | nil => rfl | cons _ _ => cases h
  | cons v vs ih =>
    intro es h
    unfold kHas at h
    cases es with
    | nil => cases h
    | cons e es => rw [Bool.and_eq_true] at h; rw [List.length_cons, List.length_cons, ih h.2]
theorem pe_hv (c : CtxOk T X S k) (hz : Zc cls d oe) (hf : ∃ vs, oe.data = .fields vs) {v : MHv} {e : Expr} (h : kHv S cs j v e = true) : PE (X.suite a ((a, oe) :: pn)) e (tHv cs X.K X.mg W0 j a cls d v) := by
  cases v with
  | one v =>
    refine PE.imp (pe_ha (a := a) (oe := oe) (pn := pn) (W0 := W0) c hz hf (show kHa S cs j v e = true from h)).2 fun σ H Q ⟨p, hh, ee, xx, y', hs, hy, K⟩ => ?_
    exact ⟨p, hh, ee, xx, y', hs, hy, fun u r => K H u hs Ext.refl r⟩
  | tup vs =>
    simp only [kHv] at h
    split at h
    · rename_i es tk tp
      simp only [Bool.and_eq_true, decide_eq_true_eq] at h
      refine PE.imp (pe_tup (pa_has (a := a) (oe := oe) (pn := pn) (W0 := W0) c hz hf h.1)) fun σ H Q ⟨p, hh, ee, xx, y', hs, hy, K⟩ => ?_
      simp only [hvV] at hy
      cases hys : hasV xx vs with
      | none => rw [hys] at hy; cases hy
      | some ys =>
        rw [hys] at hy
        cases hy
        refine ⟨p, hh, ee, xx, ys, hs, hys, fun us r => ⟨?_, fun q nq => ?_⟩⟩
        · have h1 := r.length
          have h2 := has_len hys
          have h3 := has_es h.1
          have := sizeLine_eq
          omega
        · obtain ⟨ok2, x2, r2⟩ := wd_tup (K := X.K) hs.w.ok nq r
          obtain ⟨hs', x'⟩ := hs.upd (o := .tup us) nq
          exact K _ _ hs' x' r2
    · cases h
/-- a suite's walk -/
theorem pss_hs (c : CtxOk T X S k) (ne : cs.isEmpty = false) (ex : ∀ z, cs.contains z = true → ∃ C, X.mg (nm z) = some (.ref C) ∧ ExcC X.K C) (hz : Zc cls d oe) (hf : ∃ vs, oe.data = .fields vs) :
    ∀ {b : MHs} {ss : List Stmt}, kHs S cs j b ss = true → PSs (X.suite a ((a, oe) :: pn)) ss (tHs cs X.K X.mg W0 j a cls d b)
  | .nil, ss, h => by
    unfold kHs at h
    cases ss with
    | nil => exact PSs.imp pss_nil fun D σ H ⟨p, hh, ee, xx, hs, K⟩ => K H σ hs Ext.refl
    | cons _ _ => cases h
  | .set i v r, ss, h => by
    unfold kHs at h
    cases ss with
    | nil => cases h
    | cons s ss =>
      rw [Bool.and_eq_true] at h
      obtain ⟨h1, h2⟩ := h
      split at h1
      · rename_i y yp e pos
        simp only [Bool.and_eq_true, decide_eq_true_eq] at h1
        obtain ⟨⟨⟨h3, h4⟩, h5⟩, h6⟩ := h1
        obtain ⟨n1, n2, n3⟩ := st_of c.N c.sc c.fn h3
        refine PSs.imp (pss_cons (ps_set (X := X.suite a ((a, oe) :: pn)) c.nd n1 n2 (pe_hv (a := a) (oe := oe) (pn := pn) (W0 := W0) c hz hf h5) (sw_plain (by simpa using h6) _ _ _) n3) (pss_hs c ne ex hz hf h2)) fun D σ H ⟨p, hh, ee, xx, hs, K⟩ => ?_
        unfold wHs at K
        split at K
        · rename_i y' hy
          refine ⟨p, hh, ee, xx, y', hs, hy, fun H' u hs' x' r' => ?_⟩
          refine ⟨p, hh, _, xx, ⟨hs'.inC, ⟨hs'.w.ok, hs'.w.re.set r', hs'.w.ext⟩, ?_, ?_, hs'.xr⟩, wHs_mono (fun e1 q H2 σ2 s2 x2 => q H2 σ2 s2 (x'.trans x2)) K⟩
          · rw [List.getElem?_set_ne h4]; exact hs'.sj
          · intro w; rw [List.getElem?_set_ne h4]; exact hs'.ej w
        · exact K.elim
      · cases h1
  | .iff g b r, ss, h => by
    unfold kHs at h
    cases ss with
    | nil => cases h
    | cons s ss =>
      rw [Bool.and_eq_true] at h
      obtain ⟨h1, h2⟩ := h
      split at h1
      · rename_i t xb pos
        simp only [Bool.and_eq_true] at h1
        refine PSs.imp (pss_cons (ps_if (pt_hc (a := a) (oe := oe) (pn := pn) (W0 := W0) c ne ex hz hf h1.1) (pss_hs c ne ex hz hf h1.2) pss_nil) (pss_hs c ne ex hz hf h2)) fun D σ H ⟨p, hh, ee, xx, hs, K⟩ => ?_
        unfold wHs at K
        refine ⟨p, hh, ee, xx, hs, fun H' hs' x' => ?_⟩
        cases hc : hcV xx g with
        | true =>
          rw [if_pos hc] at K
          rw [if_pos rfl]
          refine ⟨p, hh, ee, xx, hs', wHs_mono (fun e1 q H2 σ2 s2 x2 => ?_) K⟩
          exact ⟨p, hh, e1, xx, s2, wHs_mono (fun e2 q2 H3 σ3 s3 x3 => q2 H3 σ3 s3 ((x'.trans x2).trans x3)) q⟩
        | false =>
          rw [if_neg (by rw [hc]; exact Bool.false_ne_true)] at K
          rw [if_neg Bool.false_ne_true]
          exact ⟨p, hh, ee, xx, hs', wHs_mono (fun e1 q H2 σ2 s2 x2 => q H2 σ2 s2 (x'.trans x2)) K⟩
      · cases h1
end
end Mini
end
section
set_option Elab.async false
set_option linter.all false
set_option maxRecDepth 100000
set_option maxHeartbeats 4000000
/-! Mini: soundness of statements, the induction; defs; the top. -/
namespace Mini
open PySem PySem.Spec PyProof.Rows L2

theorem sw_par {x y : Str} {px py pt pt2 : Pos} {kt k2 : Nat} {a b : Expr} {env : Env} (hk : env.scope.kind = .function) (hx : env.scope.names.lookup x = some .local) (hy : env.scope.names.lookup y = some .local) (hl : (px.line == py.line) = true)
    (ne : x ≠ y) (h1 : plainE a = true) (h2 : plainE b = true) (hf : (foldedForSure 8 a && foldedForSure 8 b) = false) (hc : (constantsAlone 8 a && constantsAlone 8 b) = false) :
    swappedStores [.Tuple [.Name x px, .Name y py] kt pt] (.Tuple [a, b] k2 pt2) env = pure (some [x, y]) := by
  have kx : env.kindOf x = some .local := hx
  have ky : env.kindOf y = some .local := hy
  have hb : env.blockKind = .function := by unfold Env.blockKind; rw [hk]; rfl
  have hl2 : (py.line == px.line) = true := by
    rw [beq_iff_eq] at hl ⊢
    exact hl.symm
  have e2 : py.line = px.line := by simpa using hl2
  have er : ([x, y] : List Str).eraseDups.length = 2 := by
    have : ([x, y] : List Str).eraseDups = [x, y] := by
      rw [List.eraseDups_cons, List.filter_cons]
      have : (!(y == x)) = true := by simpa using (fun z : y = x => ne z.symm)
      rw [this]
      simp [List.eraseDups_cons]
    rw [this]; rfl
  unfold swappedStores
  simp [hb, kx, ky, e2, Expr.pos, hf, hc, er, List.filterMap_cons]
  intro z
  rcases z with z | z
  · cases a <;> first | exact absurd h1 Bool.false_ne_true | exact absurd z Bool.false_ne_true
  · cases b <;> first | exact absurd h2 Bool.false_ne_true | exact absurd z Bool.false_ne_true
theorem sw_none {is : List Nat} {es : List Expr} {k : Nat} {p : Pos} {S : Sc} {e : Expr} {env : Env} (ht : tgN S is es = true) (h : foldT e = true) : swappedStores [.Tuple es k p] e env = pure none := by
  cases e
  case Tuple vs k2 p2 =>
    have hv : vs.all (foldedForSure 8) = true := h
    unfold swappedStores
    simp [hv]
  all_goals rfl

theorem sw_cell {es : List Expr} {k : Nat} {p : Pos} {S : Sc} {e : Expr} {env : Env} (hn : ∀ x, env.scope.names.lookup x = S.sc.names.lookup x) (h : cellT S es = true) : swappedStores [.Tuple es k p] e env = pure none := by
  cases e
  case Tuple vs k2 p2 =>
    have key : ∀ (line : Nat) (es : List Expr), cellT S es = true → (es.filterMap fun | .Name id pos => if env.kindOf id == some .local && pos.line == line then some id else none | _ => none).length ≠ es.length := by
      intro line es
      have le := fun (l : List Expr) => List.length_filterMap_le (fun | .Name id pos => if env.kindOf id == some .local && pos.line == line then some id else none | _ => none) l
      induction es with
      | nil => intro h; exact absurd h (by simp [cellT])
      | cons a r ih =>
        intro h
        have l1 := le r
        rw [List.filterMap_cons]
        split
        · rw [List.length_cons]; omega
        · rename_i b hb
          rw [List.length_cons, List.length_cons]
          refine fun z => ih ?_ (by omega)
          cases a
          case Name x pos =>
            unfold cellT at h
            rw [Bool.or_eq_true] at h
            rcases h with h | h
            · exfalso
              have hk : env.kindOf x = S.sc.names.lookup x := hn x
              dsimp only at hb
              rw [hk] at hb
              split at h
              · cases h
              · rename_i w
                have : (S.sc.names.lookup x == some .local) = false := by
                  cases hq : S.sc.names.lookup x with
                  | none => rfl
                  | some v => cases v <;> first | rfl | exact absurd hq w
                rw [this] at hb
                cases hb
            · exact h
          all_goals first | exact h | cases hb
    unfold swappedStores
    dsimp only
    split
    · rfl
    · split
      · rfl
      · have := key ((es.head?.map (·.pos.line)).getD 0) es h
        rw [if_pos]
        rw [Bool.or_eq_true]
        exact .inl (bne_iff_ne.mpr this)
  all_goals rfl
theorem kX_set (S : Sc) (elt : Expr) (g : List Comprehension) (sc : Scope) (p : Pos) : ∀ a : MX, kX a S (.SetComp elt g sc p) = false
  | .frz a => by unfold kX; rw [kX_set S elt g sc p a, Bool.and_false]
  | .var _ => by simp only [kX]
  | .cst _ => by simp only [kX]
  | .glo _ _ => by simp only [kX]
  | .bin _ _ _ => by simp only [kX]
  | .neg _ => by simp only [kX]
  | .nott _ => by simp only [kX]
  | .andd _ _ => by simp only [kX]
  | .orr _ _ => by simp only [kX]
  | .cmp _ _ _ => by simp only [kX]
  | .chn _ _ _ _ _ => by simp only [kX]
  | .isC _ _ _ => by simp only [kX]
  | .ite _ _ _ => by simp only [kX]
  | .tup _ => by simp only [kX]
  | .lst _ => by simp only [kX]
  | .ix _ _ => by simp only [kX]
  | .sl _ _ _ => by simp only [kX]
  | .revL _ => by simp only [kX]
  | .rgv _ _ => by simp only [kX]
  | .call _ _ => by simp only [kX]
  | .blt _ _ => by simp only [kX]
  | .isi _ _ => by simp only [kX]
  | .mth _ _ _ => by simp only [kX]
  | .lc _ _ _ _ _ => by simp only [kX]
  | .pick _ _ => by simp only [kX]
  | .maxD _ _ => by simp only [kX]
  | .dnew _ => by simp only [kX]
  | .lenSet _ => by simp only [kX]
  | .alt _ _ => by simp only [kX]
  | .srtSet _ => by simp only [kX]
  | .dgetD _ _ _ => by simp only [kX]
  | .idxOf _ _ => by simp only [kX]
  | .dlit _ _ => by simp only [kX]
theorem kX_dct (S : Sc) (elt v : Expr) (g : List Comprehension) (sc : Scope) (p : Pos) : ∀ a : MX, kX a S (.DictComp elt v g sc p) = false
  | .frz a => by unfold kX; rw [kX_dct S elt v g sc p a, Bool.and_false]
  | .var _ => by simp only [kX]
  | .cst _ => by simp only [kX]
  | .glo _ _ => by simp only [kX]
  | .bin _ _ _ => by simp only [kX]
  | .neg _ => by simp only [kX]
  | .nott _ => by simp only [kX]
  | .andd _ _ => by simp only [kX]
  | .orr _ _ => by simp only [kX]
  | .cmp _ _ _ => by simp only [kX]
  | .chn _ _ _ _ _ => by simp only [kX]
  | .isC _ _ _ => by simp only [kX]
  | .ite _ _ _ => by simp only [kX]
  | .tup _ => by simp only [kX]
  | .lst _ => by simp only [kX]
  | .ix _ _ => by simp only [kX]
  | .sl _ _ _ => by simp only [kX]
  | .revL _ => by simp only [kX]
  | .rgv _ _ => by simp only [kX]
  | .call _ _ => by simp only [kX]
  | .blt _ _ => by simp only [kX]
  | .isi _ _ => by simp only [kX]
  | .mth _ _ _ => by simp only [kX]
  | .lc _ _ _ _ _ => by simp only [kX]
  | .pick _ _ => by simp only [kX]
  | .maxD _ _ => by simp only [kX]
  | .dnew _ => by simp only [kX]
  | .lenSet _ => by simp only [kX]
  | .alt _ _ => by simp only [kX]
  | .srtSet _ => by simp only [kX]
  | .dgetD _ _ _ => by simp only [kX]
  | .idxOf _ _ => by simp only [kX]
  | .dlit _ _ => by simp only [kX]
theorem not_true_of {b : Bool} (h : (!b) = true) : b = false := by cases b <;> first | rfl | cases h
theorem sw_sole {e : Expr} (h : compE e = false) (t : Expr) (l : Nat) (env : Env) : swapsWithSole [t] e l env = pure false := sw_plain h (some t) l env
theorem pget_list {X : Cx} : PGet X (rIxL X.K) := by
  intro pins s σ H o i ov iv Q I ro ri h
  obtain ⟨p, xs, i, z, rfl, rfl, hq, he, q⟩ := h
  cases ro
  obtain ⟨t, rfl⟩ := ri
  obtain ⟨its, r, pl, hz⟩ := I.list hq
  obtain ⟨j, h1, h2, h3, h4, h5⟩ := atI_get he
  obtain ⟨w, ew, rw'⟩ := r.get h2
  have hl := r.length
  have hn := line63
  by_cases h0 : 0 ≤ i
  · have hj : i.toNat = j := Option.some.inj ((seqIndex_of h0 h5).symm.trans h1)
    exact wpAny_getItem_list pl.isList h0 (by omega) (by rw [hj]; simpa using ew) ⟨z, H, I, rw', q⟩
  · have hj : (i + (xs.length : Int)).toNat = j := Option.some.inj ((seqIndex_neg (by omega) h4).symm.trans h1)
    exact wpAny_getItem_list_neg pl.isList (by omega) (by rw [List.size_toArray, ← hl]; omega) (by omega) (by rw [List.size_toArray, ← hl, hj]; simpa using ew) ⟨z, H, I, rw', q⟩
theorem asg_sub {o i : Expr} {pos : Pos} {env : Env} (h : plainI i = true) (v : Value) : assign (.Subscript o i pos) env v = (do
      let ov ← holding [v] (eval o env)
      let iv ← holding [v, ov] (eval i env)
      standAt pos
      holding [v, ov, iv] (setItem ov iv v)
      release [v, ov, iv] []) := by
  cases i <;> first | rfl | exact absurd h Bool.false_ne_true
theorem aug_sub {i : Expr} (h : plainI i = true) (ov iv new : Value) : augStore i ov iv new = (do holding [new, ov, iv] (setItem ov iv new); release [new, ov, iv] []; pure .next) := by
  cases i <;> first | rfl | exact absurd h Bool.false_ne_true
/-- an exception of a try's body, as the clause takes it -/
def eW (K : PySem.W.Frag) (mg : Str → Option Value) (W0 : Wd) (W : WX) : MEx := fun x e h => ∀ p H σ cls d, Wel K W0 p h H e σ → XR K mg ⟨p, h, H⟩ x cls d → W cls d σ H
theorem cst_rv {K : PySem.W.Frag} {W : Wd} {c : PyData} {k : Const} (h : cstB c k = true) : RV K W (.d c) (cV c) := by
  unfold cstB at h
  split at h
  · exact .non
  · exact .bl _
  · exact .int _
  · exact .str _
  · cases h
theorem all_fz {K : PySem.W.Frag} {W : Wd} : ∀ {vs : List MV} {ds : List PyData} {us : List V}, allD vs = some ds → RVs K W vs us → FzAll K (live W) W.H us ds ∧ us.length = ds.length
  | [], ds, us, e, r => by
    cases r
    cases e
    exact ⟨.nil, rfl⟩
  | v :: vs, ds, us, e, r => by
    cases r with
    | cons r1 r2 =>
      cases v with
      | d x =>
        unfold allD at e
        split at e
        · rename_i ds' e'
          cases e
          obtain ⟨a, b⟩ := all_fz e' r2
          exact ⟨.cons r1 a, congrArg (· + 1) b⟩
        · cases e
      | r i => cases e
      | m i => cases e
      | s ns => cases e
theorem names_rev {fs : List String} {us : List V} {ds : List PyData} (h1 : fs.length = us.length) (h2 : fs.length = ds.length) : (((fs.map nm).zip us).reverse).map (·.1) = ((fs.zip ds).reverse).map (fun q => nm q.1) := by
  rw [List.map_reverse, List.map_reverse]
  congr 1
  induction fs generalizing us ds with
  | nil => rfl
  | cons f fs ih =>
    cases us with
    | nil => exact absurd h1 (by simp)
    | cons u us =>
      cases ds with
      | nil => exact absurd h2 (by simp)
      | cons d ds =>
        simp only [List.map_cons, List.zip_cons_cons]
        rw [ih (by simpa using h1) (by simpa using h2)]
theorem vals_rev {K : PySem.W.Frag} {W : Wd} {fs : List String} {us : List V} {ds : List PyData} (f : FzAll K (live W) W.H us ds) (h1 : fs.length = us.length) (h2 : fs.length = ds.length) :
    FzAll K (live W) W.H ((((fs.map nm).zip us).reverse).map (·.2)) (((fs.zip ds).reverse).map (·.2)) := by
  rw [List.map_reverse, List.map_reverse, List.map_snd_zip (by rw [List.length_map]; omega), List.map_snd_zip (by omega)]
  exact f.reverse
section
variable (T : List MF) (k : Nat)
mutual
theorem sS : ∀ (a : MS) (X : Cx) (S : Sc) (st : Stmt) (W0 : Wd) (E : MEx), CtxOk T X S k → Tk X W0 E → PassesOwn (model X.prog X.w) X.A X.env X.xe → kS a S st = true → PS X st (tS X.K W0 (wF T k) E a)
  | .ex a, X, S, st, W0, E, c, tk, po, q => by
    unfold kS at q
    split at q
    · simp only [Bool.and_eq_true] at q
      refine PS.imp (ps_expr (sX T k a X S _ W0 E c tk q.1).pe (sw_plain (by simpa using q.2) _ _ _)) fun D σ H qq => ?_
      obtain ⟨p, h, e, w, hw⟩ := qq
      unfold wS at hw
      exact tX_then (wF_mono T k) w hw fun d h1 p1 H1 v r w1 x1 rv => r _ _ _ w1.ok w1.re x1
    · cases q
  | .set i a, X, S, st, W0, E, c, tk, po, q => by
    unfold kS at q
    split at q
    · rename_i x pp e pos
      simp only [Bool.and_eq_true] at q
      obtain ⟨⟨h1, h2⟩, h3⟩ := q
      have ih := sX T k a X S e W0 E c tk h2
      obtain ⟨n1, n2, n3⟩ := st_of c.N c.sc c.fn h1
      have plain : swapsWith e (some (.Name x pp)) pos.line X.env = pure false → PS X (.Assign [.Name x pp] e pos) (tS X.K W0 (wF T k) E (.set i a)) := fun hs =>
        PS.imp (ps_set c.nd n1 n2 ih.pe hs n3) fun D σ H qq => imp_set (wF_mono T k) qq
      cases hc : compE e with
      | false => exact plain (sw_plain hc _ _ _)
      | true =>
        cases e <;> first | exact absurd hc Bool.false_ne_true | skip
        case ListComp elt gs scope p2 =>
          obtain ⟨tg, iter, ifs, own, wi, g, tt, te, rfl, hi, ok, hg, ht, he, hs, imp⟩ := ih.lc _ _ _ _ rfl
          have sw : swapsWith (.ListComp elt [⟨tg, iter, ifs, 0⟩] scope p2) (some (.Name x pp)) pos.line X.env = pure (X.env.blockKind == .function && X.env.kindOf x == some .local && pp.line == p2.line && !(scope.names.any fun (n, k) => n == x && (k == .local || k == .cell))) := rfl
          cases hb : (X.env.blockKind == .function && X.env.kindOf x == some .local && pp.line == p2.line && !(scope.names.any fun (n, k) => n == x && (k == .local || k == .cell))) with
          | false => exact plain (by rw [sw, hb])
          | true =>
            have hl : X.env.scope.names.lookup x = some .local := by
              simp only [Bool.and_eq_true, beq_iff_eq] at hb
              exact hb.1.1.2
            exact PS.imp (ps_setLc c.calm c.nd n1 hl (by rw [sw, hb]) hi ok hg ht he hs) fun D σ H qq => imp _ _ _ (imp_set (wF_mono T k) qq)
        case SetComp => rw [kX_set] at h2; cases h2
        case DictComp => rw [kX_dct] at h2; cases h2
    · cases q
  | .setT is a, X, S, st, W0, E, c, tk, po, q => by
    unfold kS at q
    split at q
    · rename_i es kk p2 e pos
      simp only [Bool.and_eq_true] at q
      obtain ⟨⟨⟨h1, h2⟩, h3⟩, h4⟩ := q
      have hg : PG X (.Tuple es kk p2) (gTg X.K (.tup is)) := pg_tg c.N c.nd c.sc c.fn c.calm (tg := .tup is) h1
      have hsw : swappedStores [.Tuple es kk p2] e X.env = pure none := by
        rw [Bool.or_eq_true] at h4
        rcases h4 with h4 | h4
        · exact sw_none h1 h4
        · exact sw_cell (S := S) (fun x => by rw [c.sc]) h4
      refine PS.imp (ps_asg (sX T k a X S _ W0 E c tk h2).pe hg ?_ hsw rfl) fun D σ H qq => imp_setT (wF_mono T k) qq
      exact sw_sole (by simpa using h3) _ _ _
    · cases q
  | .par i j a b, X, S, st, W0, E, c, tk, po, q => by
    unfold kS at q
    split at q
    · rename_i x px y py kt pt e1 e2 k2 p2 pos
      simp only [Bool.and_eq_true, decide_eq_true_eq] at q
      obtain ⟨⟨⟨⟨⟨⟨⟨⟨⟨⟨h1, h2⟩, h3⟩, h4⟩, h5⟩, h6⟩, h7⟩, h8⟩, h9⟩, h10⟩, h11⟩ := q
      obtain ⟨a1, _, _⟩ := st_of c.N c.sc c.fn h1
      obtain ⟨b1, _, _⟩ := st_of c.N c.sc c.fn h2
      have loc : X.env.scope.names.lookup x = some .local ∧ X.env.scope.names.lookup y = some .local := by
        rw [c.sc]
        split at h3
        · rename_i u v; exact ⟨u, v⟩
        · cases h3
      have ne : x ≠ y := fun z => h4 (nodup_ix c.nd a1 (by rw [z]; exact b1))
      have pa : PA X [e1, e2] (tCons (tX X.K W0 (wF T k) E a) (tCons (tX X.K W0 (wF T k) E b) tNil)) := pa_cons (sX T k a X S _ W0 E c tk h7).pe (pa_cons (sX T k b X S _ W0 E c tk h8).pe pa_nil (star_cons h6 _ _)) (star_cons h5 _ _)
      exact PS.imp (ps_par c.calm c.nd a1 b1 h4 loc.1 loc.2 pa (sw_par (by rw [c.sc]; exact c.kd) loc.1 loc.2 h9 ne h5 h6 (not_true_of h10) (not_true_of h11)) rfl) fun D σ H qq => imp_par (wF_mono T k) qq
    · cases q
  | .setI o i a, X, S, st, W0, E, c, tk, po, q => by
    unfold kS at q
    split at q
    · simp only [Bool.and_eq_true] at q
      obtain ⟨⟨⟨⟨h1, h2⟩, h3⟩, h4⟩, h5⟩ := q
      refine PS.imp (ps_asg (sX T k a X S _ W0 E c tk h4).pe (pg_sub (sX T k o X S _ W0 E c tk h1).pe (sX T k i X S _ W0 E c tk h2).pe (set_M (by have := units_of c; omega)) (asg_sub h3)) ?_ ?_ rfl) fun D σ H qq => imp_setI (wF_mono T k) qq
      · exact sw_sole (by simpa using h5) _ _ _
      · rfl
    · cases q
  | .aug i op a, X, S, st, W0, E, c, tk, po, q => by
    unfold kS at q
    split at q
    · simp only [Bool.and_eq_true, decide_eq_true_eq] at q
      obtain ⟨⟨⟨h1, rfl⟩, h3⟩, h4⟩ := q
      obtain ⟨n1, n2, n3⟩ := st_of c.N c.sc c.fn h1
      exact PS.imp (ps_aug c.nd n1 n2 (sX T k a X S _ W0 E c tk h3).pe (pip_M op) n3) fun D σ H qq => imp_aug (wF_mono T k) (by cases op <;> first | rfl | exact h4) qq
    · cases q
  | .augI o i op a, X, S, st, W0, E, c, tk, po, q => by
    unfold kS at q
    split at q
    · simp only [Bool.and_eq_true, decide_eq_true_eq] at q
      obtain ⟨⟨⟨⟨⟨h1, h2⟩, h3⟩, rfl⟩, h5⟩, h6⟩ := q
      exact PS.imp (ps_augS (sX T k o X S _ W0 E c tk h1).pe (sX T k i X S _ W0 E c tk h2).pe pget_list (sX T k a X S _ W0 E c tk h5).pe (pip_M op) (set_M (by have := units_of c; omega)) (aug_sub h3)) fun D σ H qq => imp_augI (wF_mono T k) (by cases op <;> first | rfl | exact h6) qq
    · cases q
  | .ret a, X, S, st, W0, E, c, tk, po, q => by
    unfold kS at q
    split at q
    · refine PS.imp (ps_ret (sX T k a X S _ W0 E c tk q).pe) fun D σ H qq => ?_
      obtain ⟨p, h, e, w, hw⟩ := qq
      unfold wS at hw
      exact ⟨p, h, e, w, hw⟩
    · cases q
  | .retN, X, S, st, W0, E, c, tk, po, q => by
    unfold kS at q
    split at q
    · refine PS.imp ps_retN fun D σ H qq => ?_
      obtain ⟨p, h, e, w, hw⟩ := qq
      unfold wS at hw
      exact hw _ _ _ w.ok Ext.refl .non
    · cases q
  | .iff cc a b, X, S, st, W0, E, c, tk, po, q => by
    unfold kS at q
    split at q
    · simp only [Bool.and_eq_true] at q
      obtain ⟨⟨⟨h1, h2⟩, h3⟩, h4⟩ := q
      exact PS.imp (ps_if ((sX T k cc X S _ W0 E c tk h1).pt h2) (sSs a X S _ W0 E c tk po h3) (sSs b X S _ W0 E c tk po h4)) fun D σ H qq => imp_iff (wF_mono T k) qq
    · cases q
  | .whl tr cc b, X, S, st, W0, E, c, tk, po, q => by
    unfold kS at q
    split at q
    · simp only [Bool.and_eq_true] at q
      obtain ⟨⟨h1, h2⟩, h3⟩ := q
      exact PS.imp (ps_while po ((sX T k cc X S _ W0 E c tk h1).pt h2) (sSs b X S _ W0 E c tk po h3)) fun D σ H qq => imp_whl (wF_mono T k) qq
    · cases q
  | .forr tr tg it b, X, S, st, W0, E, c, tk, po, q => by
    unfold kS at q
    split at q
    · simp only [Bool.and_eq_true] at q
      obtain ⟨⟨⟨h1, h2⟩, h3⟩, h4⟩ := q
      exact PS.imp (ps_for po c.calm (sI T k it X S _ _ W0 E c tk h1) (pg_tg c.N c.nd c.sc c.fn c.calm h3) (sSs b X S _ W0 E c tk po h4) (folded_of (by simpa using h2) _)) fun D σ H qq => imp_for (wF_mono T k) qq
    · cases q
  | .pass, X, S, st, W0, E, c, tk, po, q => by
    unfold kS at q
    split at q
    · refine PS.imp ps_pass fun D σ H qq => ?_
      obtain ⟨p, h, e, w, hw⟩ := qq
      unfold wS at hw
      exact hw _ _ _ w.ok w.re Ext.refl
    · cases q
  | .brk, X, S, st, W0, E, c, tk, po, q => by
    unfold kS at q
    split at q
    · refine PS.imp ps_break fun D σ H qq => ?_
      obtain ⟨p, h, e, w, hw⟩ := qq
      unfold wS at hw
      exact hw _ _ _ w.ok w.re Ext.refl
    · cases q
  | .cont, X, S, st, W0, E, c, tk, po, q => by
    unfold kS at q
    split at q
    · refine PS.imp ps_continue fun D σ H qq => ?_
      obtain ⟨p, h, e, w, hw⟩ := qq
      unfold wS at hw
      exact hw _ _ _ w.ok w.re Ext.refl
    · cases q
  | .stuck, X, S, st, W0, E, c, tk, po, q => ⟨fun pins s σ H D I qq => by
      obtain ⟨p, h, e, w, hw⟩ := qq
      unfold wS at hw
      exact hw.elim⟩
  | .raise C fs xs, X, S, st, W0, E, c, tk, po, q => by
    unfold kS at q
    split at q
    · simp only [Bool.and_eq_true, decide_eq_true_eq] at q
      obtain ⟨⟨⟨⟨⟨rfl, h2⟩, h3⟩, h4⟩, h5⟩, h6⟩ := q
      obtain ⟨w, hw, h7⟩ := List.any_eq_true.mp h3
      rw [of_decide_eq_true h7] at hw
      obtain ⟨g, d⟩ := gl_of c.sc h2
      obtain ⟨Ca, m, T', hfd, ps⟩ := ps_raiseM c.calm tk (show ExAt X.prog X.w X.K X.mg X.base C fs from c.exc _ hw) (c.room.room.mono (by omega)) g (nm_dbg d).1 (sXs T k xs X S _ W0 E c tk h6) (star_cons h4 _ _) (back_any h5)
      refine PS.imp ps fun D σ H qq => ?_
      obtain ⟨p, h, e, w, hw⟩ := qq
      unfold wS at hw
      refine tXs_then (wF_mono T k) w hw fun vs h1 p1 H1 us r w1 x1 rv => ?_
      unfold wRaise at r
      split at r
      · rename_i ds hds
        obtain ⟨⟨hl, hn⟩, hE⟩ := r
        obtain ⟨fz, hul⟩ := all_fz hds rv
        refine raise_k T' hfd (by omega) hn fun dd nd => ?_
        obtain ⟨ok2, x2⟩ := wd_gar (K := X.K) (o := .xd ((fs.map nm).zip us).reverse) w1.ok nd
        refine ⟨⟨C, (fs.zip ds).reverse⟩, p1, h1, e, w1.to ok2 x2, ⟨Ca, dd, _, m, rfl, rfl, upd_same, ?_, ?_⟩, hE⟩
        · exact names_rev (by omega) (by omega)
        · exact vals_rev (K := X.K) (all_fz hds (rv.ext x2)).1 (by omega) (by omega)
      · exact r.elim
    · cases q
  | .tryy b all C cs hd, X, S, st, W0, E, c, tk, po, q => by
    unfold kS at q
    split at q
    · rename_i body x np y yp kc kn kp apos hpos pos i cc
      simp only [Bool.and_eq_true, decide_eq_true_eq] at q
      obtain ⟨⟨⟨⟨⟨⟨⟨rfl, h2⟩, h3⟩, h4⟩, h5⟩, h6⟩, h8⟩, h7⟩ := q
      obtain ⟨g, d⟩ := gl_of c.sc h2
      obtain ⟨n1, n2, n3⟩ := st_of c.N c.sc c.fn h4
      have exm : ∀ z, cs.contains z = true → ∃ A1 A2, X.mg (nm z) = some (.ref A1) ∧ X.mg (nm C) = some (.ref A2) ∧ PySem.W.exmOne X.K (.ref A1) (.ref A2) = some (all || z == C) := fun z hz => by
        have := List.all_eq_true.mp h7 z (by simpa using hz)
        obtain ⟨w, hw, h9⟩ := List.any_eq_true.mp this
        rw [of_decide_eq_true h9] at hw
        exact c.exm _ hw
      obtain ⟨cA, hcA⟩ : ∃ cA : Addr, X.mg (nm C) = some (.ref cA) := by
        cases cs with
        | nil => exact absurd h8 (by simp)
        | cons z cs =>
          obtain ⟨_, A2, _, m2, _⟩ := exm z (by simp)
          exact ⟨A2, m2⟩
      refine PS.imp (ps_try_only (tb := fun W D σ H => ∃ p h e, Wel X.K W0 p h H e σ ∧ wSs (wF T k) (eW X.K X.mg ⟨p, h, H⟩ W) b e h (mdOf X.K ⟨p, h, H⟩ D)) (ts := fun _ _ _ => tSeq (tAsg (tC (cV cc)) (gName i)) tNext) (Wout := wExc X.K X.mg W0 E) (c := .ref cA)
        (c.stk h3) (c.frm h3) ⟨g, (nm_dbg d).1, .inl hcA⟩ tk (fun W pn xe tk' po' => ?_) (fun a oe cls dd pn hz hf => ?_)) fun D σ H qq => ?_
      · have c' : CtxOk T (X.tr pn xe) S k := ⟨c.N, c.nd, c.sc, c.kd, c.fn, c.room, c.calm, c.blt, c.cons, c.inT, c.fns, c.exc, c.exm, c.iso, c.exf, c.stk, c.frm⟩
        refine ⟨fun pins s σ H D I ⟨p, h, e, w, hw⟩ => (sSs b (X.tr pn xe) S body ⟨p, h, H⟩ (eW X.K X.mg ⟨p, h, H⟩ W) c' ?_ po' h6).run pins s σ H D I ⟨p, h, e, ⟨w.ok, w.re, Ext.refl⟩, hw⟩⟩
        exact tk'.imp fun cls d σ H ⟨x, p, h, e, wl, xr, q⟩ => q p H σ cls d wl xr
      · exact pss_cons (ps_set (X := X.suite a ((a, oe) :: pn)) c.nd n1 n2 (pe_cst (W0 := W0) (G := wF T k) (E := E) h5).2 (sw_plain rfl _ _ _) n3) pss_nil
      · obtain ⟨p, h, e, w, hw⟩ := qq
        unfold wS at hw
        refine ⟨p, h, e, w, wSs_mono (wF_mono T k) (fun x e' h' q p' H' σ' cls dd wl xr => ?_) b e h ⟨fun _ _ z => z, fun _ _ z => z, fun _ _ z => z, fun _ _ z => z⟩ hw⟩
        obtain ⟨q1, q2⟩ := q
        obtain ⟨A1, A2, m1, m2, ex⟩ := exm x.cls q1
        obtain ⟨Cx, dx, fs, mx, rfl, r⟩ := id xr
        cases m1.symm.trans mx
        cases m2.symm.trans hcA
        refine ⟨_, ex, fun hb a na => ?_, fun hb => ?_⟩
        · rw [if_pos hb] at q2
          exact q2 p' H' _ wl.ok (wl.re.set (cst_rv (K := X.K) h5)) wl.ext
        · rw [if_neg (by rw [hb]; exact Bool.false_ne_true)] at q2
          exact ⟨x, p', h', e', ⟨wl.ok, wl.re, w.ext.trans wl.ext⟩, xr, q2⟩
    · rename_i body x np n s0 suite hpos pos jj hb
      simp only [Bool.and_eq_true, decide_eq_true_eq] at q
      obtain ⟨⟨⟨⟨⟨⟨⟨⟨⟨rfl, h2⟩, h3⟩, h4⟩, h4'⟩, h10⟩, h5⟩, h6⟩, h8⟩, h7⟩ := q
      obtain ⟨g, d⟩ := gl_of c.sc h2
      have hln : X.env.kindOf n = some .local := by
        show X.env.scope.names.lookup n = some .local
        rw [c.sc]
        split at h4'
        · assumption
        · cases h4'
      have hNn : X.N[jj]? = some n := by rw [c.N]; exact h4
      have exm : ∀ z, cs.contains z = true → ∃ A1 A2, X.mg (nm z) = some (.ref A1) ∧ X.mg (nm C) = some (.ref A2) ∧ PySem.W.exmOne X.K (.ref A1) (.ref A2) = some (all || z == C) := fun z hz => by
        have := List.all_eq_true.mp h7 z (by simpa using hz)
        obtain ⟨w, hw, h9⟩ := List.any_eq_true.mp this
        rw [of_decide_eq_true h9] at hw
        exact c.exm _ hw
      have ex : ∀ z, cs.contains z = true → ∃ C, X.mg (nm z) = some (.ref C) ∧ ExcC X.K C := fun z hz => by
        have := List.all_eq_true.mp h10 z (by simpa using hz)
        obtain ⟨w, hw, h9⟩ := List.any_eq_true.mp this
        obtain ⟨A, m, EC, _⟩ := c.exf _ hw
        rw [of_decide_eq_true h9] at m
        exact ⟨A, m, EC⟩
      obtain ⟨cA, hcA⟩ : ∃ cA : Addr, X.mg (nm C) = some (.ref cA) := by
        cases cs with
        | nil => exact absurd h8 (by simp)
        | cons z cs =>
          obtain ⟨_, A2, _, m2, _⟩ := exm z (by simp)
          exact ⟨A2, m2⟩
      have ne : cs.isEmpty = false := by simpa using h8
      refine PS.imp (ps_try_as (tb := fun W D σ H => ∃ p h e, Wel X.K W0 p h H e σ ∧ wSs (wF T k) (eW X.K X.mg ⟨p, h, H⟩ W) b e h (mdOf X.K ⟨p, h, H⟩ D)) (ts := fun a cls dd => tHs cs X.K X.mg W0 jj a cls dd hb) (Wout := wExc X.K X.mg W0 E) (c := .ref cA) (i := jj)
        (c.stk h3) (c.frm h3) c.nd hNn hln ⟨g, (nm_dbg d).1, .inl hcA⟩ tk (fun W pn xe tk' po' => ?_) (fun a oe cls dd pn hz hf => ?_)) fun D σ H qq => ?_
      · have c' : CtxOk T (X.tr pn xe) S k := ⟨c.N, c.nd, c.sc, c.kd, c.fn, c.room, c.calm, c.blt, c.cons, c.inT, c.fns, c.exc, c.exm, c.iso, c.exf, c.stk, c.frm⟩
        refine ⟨fun pins s σ H D I ⟨p, h, e, w, hw⟩ => (sSs b (X.tr pn xe) S body ⟨p, h, H⟩ (eW X.K X.mg ⟨p, h, H⟩ W) c' ?_ po' h6).run pins s σ H D I ⟨p, h, e, ⟨w.ok, w.re, Ext.refl⟩, hw⟩⟩
        exact tk'.imp fun cls d σ H ⟨x, p, h, e, wl, xr, q⟩ => q p H σ cls d wl xr
      · exact pss_hs (W0 := W0) c ne ex hz hf h5
      · obtain ⟨p, h, e, w, hw⟩ := qq
        unfold wS at hw
        refine ⟨p, h, e, w, wSs_mono (wF_mono T k) (fun x e' h' q p' H' σ' cls dd wl xr => ?_) b e h ⟨fun _ _ z => z, fun _ _ z => z, fun _ _ z => z, fun _ _ z => z⟩ hw⟩
        obtain ⟨q1, q2⟩ := q
        obtain ⟨A1, A2, m1, m2, ex1⟩ := exm x.cls q1
        obtain ⟨Cx, dx, fs, mx, rfl, r⟩ := id xr
        cases m1.symm.trans mx
        cases m2.symm.trans hcA
        refine ⟨_, ex1, fun hb1 a na => ?_, fun hb1 => ?_⟩
        · rw [if_pos hb1] at q2
          have hjl : jj < σ'.length := by
            rw [← wl.re.len]
            exact q2.1
          refine ⟨p', h', e'.set jj none, x, ⟨q1, ⟨wl.ok, wl.re.setN, w.ext.trans wl.ext⟩, ?_, ?_, xr⟩, wHs_mono (fun e1 q3 H2 σ2 s2 x2 => ?_) q2.2⟩
          · rw [List.getElem?_set_self hjl]
          · intro v
            by_cases hl : jj < e'.length
            · rw [List.getElem?_set_self hl]; simp
            · rw [List.getElem?_eq_none (by rw [List.length_set]; omega)]; simp
          · exact q3 p' H2 _ s2.w.ok (RE.setN s2.w.re) (wl.ext.trans x2)
        · rw [if_neg (by rw [hb1]; exact Bool.false_ne_true)] at q2
          exact ⟨x, p', h', e', ⟨wl.ok, wl.re, w.ext.trans wl.ext⟩, xr, q2⟩
    · cases q
theorem sSs : ∀ (a : MSs) (X : Cx) (S : Sc) (st : List Stmt) (W0 : Wd) (E : MEx), CtxOk T X S k → Tk X W0 E → PassesOwn (model X.prog X.w) X.A X.env X.xe → kSs a S st = true → PSs X st (tSs X.K W0 (wF T k) E a)
  | .nil, X, S, st, W0, E, c, tk, po, q => by
    unfold kSs at q
    cases st with
    | nil =>
      refine PSs.imp pss_nil fun D σ H qq => ?_
      obtain ⟨p, h, e, w, hw⟩ := qq
      unfold wSs at hw
      exact hw _ _ _ w.ok w.re Ext.refl
    | cons _ _ => cases q
  | .cons x xs, X, S, st, W0, E, c, tk, po, q => by
    unfold kSs at q
    cases st with
    | nil => cases q
    | cons s ss =>
      simp only [Bool.and_eq_true] at q
      exact PSs.imp (pss_cons (sS x X S s W0 E c tk po q.1) (sSs xs X S ss W0 E c tk po q.2)) fun D σ H qq => imp_seq (wF_mono T k) qq
end
end
end Mini
end
section
set_option Elab.async false
set_option linter.all false
set_option maxRecDepth 100000
set_option maxHeartbeats 4000000
/-! Mini: defs, the law. -/
namespace Mini
open PySem PySem.Spec PyProof.Rows L2

/-- what stands in a table's text -/
structure Tb where
  blt : List String
  cons : List (String × PyData)
  fns : List String
  exc : List (String × List String)
  exm : List (String × String × Bool)
  iso : List (String × String × Bool) := []
  exf : List (String × List String) := []
def Tb.sc (B : Tb) (F : MF) (st : Stmt) : Sc := ⟨F.names.map nm, defScope st, true, B.blt, B.cons, B.fns, B.exc, B.exm, B.iso, B.exf⟩
/-- a def's text is its term's -/
structure StOk (B : Tb) (F : MF) (st : Stmt) : Prop where
  scope : FnScope (F.names.map nm) (psF F) (defScope st)
  chk : kSs F.body (B.sc F st) (defBody st) = true
  np : F.np ≤ F.names.length
  bind : ∀ (kV doc pm : Value) (an : Option Addr) (cdv ct : Value) (us : List Value), us.length = (psF F).length → bindArgs (PySem.W.fnOf (nm F.own) (nm F.own) (defArgs st) (defBody st) (defScope st) .none kV doc pm an cdv ct) ⟨us, []⟩ = pure ((psF F).zip us)
/-- it stands at a global -/
def DefAt (K : PySem.W.Frag) (mg : Str → Option Value) (x y : String) (st : Stmt) : Prop := ∃ fa fd, mg (nm x) = some (.ref fa) ∧ Fun K (nm y) (nm y) st fa fd
theorem defAt {K : PySem.W.Frag} {h : Heap} {mg : Str → Option Value} {x y : String} {st : Stmt} {f : Addr} {oc kV dc pm cd ct : Value} {od an : Option Addr} {sl : Array (Option Value)} (X : K.In h) (G : h.Ns mainGlobals mg)
    (a : PySem.W.nsIn K mainGlobals (Str.ofString x) = some (some (.ref f)))
    (l : K.lookup f = some ⟨oc, od, .func (PySem.W.fnOf (Str.ofString y) (Str.ofString y) (defArgs st) (defBody st) (defScope st) .none kV dc pm an cd ct), sl⟩)
    (c : PySem.W.codeIn K cd (Str.ofString y) = true) (k : PySem.W.keepIn K (.ref f) = true) : DefAt K mg x y st := ⟨f, _, PySem.W.mg_of X G a, fun_mk (st := st) l c k⟩
theorem withDef {K : PySem.W.Frag} {h : Heap} {mg : Str → Option Value} {x y : String} {st : Stmt} {f : Addr} {oc kV dc pm cd ct : Value} {od an : Option Addr} {sl : Array (Option Value)} {C : Prop} (X : K.In h) (G : h.Ns mainGlobals mg)
    (a : PySem.W.nsIn K mainGlobals (Str.ofString x) = some (some (.ref f)))
    (l : K.lookup f = some ⟨oc, od, .func (PySem.W.fnOf (Str.ofString y) (Str.ofString y) (defArgs st) (defBody st) (defScope st) .none kV dc pm an cd ct), sl⟩)
    (c : PySem.W.codeIn K cd (Str.ofString y) = true) (k : PySem.W.keepIn K (.ref f) = true) (q : DefAt K mg x y st → C) : C := q (defAt X G a l c k)
theorem bltAt {K : PySem.W.Frag} {h : Heap} {mg : Str → Option Value} {x : String} (X : K.In h) (G : h.Ns mainGlobals mg) (a : PySem.W.nsIn K mainGlobals (Str.ofString x) = some none) : mg (nm x) = none := PySem.W.mg_none_of X G a
theorem conAt {K : PySem.W.Frag} {h : Heap} {mg : Str → Option Value} {x : String} {u : Value} {c : PyData} (X : K.In h) (G : h.Ns mainGlobals mg) (a : PySem.W.nsIn K mainGlobals (Str.ofString x) = some (some u)) (r : RelC K c u) : ∃ u, mg (nm x) = some u ∧ RelC K c u := ⟨u, PySem.W.mg_of X G a, r⟩
def DefOk (K : PySem.W.Frag) (mg : Str → Option Value) (B : Tb) (F : MF) : Prop := ∃ st, DefAt K mg F.name F.own st ∧ StOk B F st
def DefsOk (K : PySem.W.Frag) (mg : Str → Option Value) (B : Tb) : List MF → Prop
  | [] => True
  | F :: r => DefOk K mg B F ∧ DefsOk K mg B r
def BltsOk (mg : Str → Option Value) : List String → Prop
  | [] => True
  | b :: r => mg (nm b) = none ∧ BltsOk mg r
def ConsOk (K : PySem.W.Frag) (mg : Str → Option Value) : List (String × PyData) → Prop
  | [] => True
  | q :: r => (∃ u, mg (nm q.1) = some u ∧ RelC K q.2 u) ∧ ConsOk K mg r
theorem BltsOk.at_ {mg : Str → Option Value} : ∀ {l : List String}, BltsOk mg l → ∀ b, l.contains b = true → mg (nm b) = none
  | [], _, b, h => by simp at h
  | c :: r, q, b, h => by
    rw [List.contains_cons, Bool.or_eq_true] at h
    rcases h with h | h
    · rw [beq_iff_eq] at h
      rw [h]; exact q.1
    · exact BltsOk.at_ q.2 b h
theorem ConsOk.at_ {K : PySem.W.Frag} {mg : Str → Option Value} : ∀ {l : List (String × PyData)}, ConsOk K mg l → ∀ q ∈ l, ∃ u, mg (nm q.1) = some u ∧ RelC K q.2 u
  | c :: r, q, b, h => by
    rcases List.mem_cons.mp h with rfl | h
    · exact q.1
    · exact ConsOk.at_ q.2 b h
theorem DefsOk.at_ {K : PySem.W.Frag} {mg : Str → Option Value} {B : Tb} : ∀ {l : List MF}, DefsOk K mg B l → ∀ F ∈ l, DefOk K mg B F
  | c :: r, q, b, h => by
    rcases List.mem_cons.mp h with rfl | h
    · exact q.1
    · exact DefsOk.at_ q.2 b h
theorem find_in {T : List MF} {f : String} {F : MF} (h : findF T f = some F) : F ∈ T ∧ F.name = f := by
  unfold findF at h
  exact ⟨List.mem_of_find?_eq_some h, by simpa using List.find?_some h⟩
/-! ### classes of refusals -/
def kAsg (S : Sc) : Nat → List Str → List Stmt → Bool
  | _, [], [] => true
  | i, f :: fs, s :: r => (match s with
      | .Assign [.Attribute (.Name o _) g _] (.Name v _) _ => decide (g = f) && visB S 0 o && visB S i v
      | _ => false) && kAsg S (i + 1) fs r
  | _, _, _ => false
def kIni (S : Sc) (fs : List Str) (body : List Stmt) : Bool := match body with
  | .Expr (.Call (.Attribute (.Name b _) m ap) [.Name s _, .Constant (.str _) _ _] [] cp) _ :: r => (ap.endLine == cp.line) && decide (b = "RestError") && decide (m = "__init__") && visB S 0 s && glB S "RestError" && kAsg S 1 fs r
  | _ => false
theorem vis_of {X : Cx} {S : Sc} {i : Nat} {x : Str} {pos : Pos} (N : X.N = S.N) (sc : X.env.scope = S.sc) (q : visB S i x = true) : PE X (.Name x pos) (tVar i) := by
  unfold visB at q
  simp only [Bool.and_eq_true, decide_eq_true_eq] at q
  obtain ⟨⟨h1, h2⟩, h3⟩ := q
  obtain ⟨d1, d2, _⟩ := nm_dbg (by simpa using h3 : dbgB x = false)
  have vis : Vis X.env.scope x := by
    rw [sc]
    split at h2
    · rename_i z; exact .inl z
    · rename_i z; exact .inr (.inl z)
    · rename_i z; exact .inr (.inr z)
    · cases h2
  exact pe_var (i := i) (by rw [N]; exact h1) vis d1 d2
theorem asg_ok {X : Cx} {S : Sc} (N : X.N = S.N) (sc : X.env.scope = S.sc) : ∀ (fs : List Str) (i : Nat) (r : List Stmt), kAsg S i fs r = true → PSs X r (tIni X.K i fs)
  | [], i, [], _ => pss_nil
  | [], i, _ :: _, q => by unfold kAsg at q; cases q
  | _ :: _, i, [], q => by unfold kAsg at q; cases q
  | f :: fs, i, s :: r, q => by
    unfold kAsg at q
    rw [Bool.and_eq_true] at q
    obtain ⟨q1, q2⟩ := q
    split at q1
    · simp only [Bool.and_eq_true, decide_eq_true_eq] at q1
      obtain ⟨⟨rfl, h1⟩, h2⟩ := q1
      exact pss_cons (ps_ost (vis_of N sc h1) (vis_of N sc h2) (sw_plain rfl _ _ _)) (asg_ok N sc fs (i + 1) r q2)
    · cases q1
theorem mcl {o : Expr} {m : Str} {ap cp : Pos} {env : Env} {ov : Value} {n : Nat} {args : List (Bool × Sem Value)} {kws : List (Option Str × Sem Value)} (hf : methodCallForm n args kws = true) (hl : (ap.endLine == cp.line) = true) :
    methodCall o m ap cp env ov n args kws = (do let (f, first) ← holding [ov] (getMethod ov m (do return (← importBound o env).getD true)); callWith cp f first args kws) := by
  have e1 : calleeOf (methodCallForm n args kws) o env ov m = getMethod ov m (do return (← importBound o env).getD true) := by rw [hf]; rfl
  have e2 : methodCallPos (methodCallForm n args kws) o env ap cp = pure cp := by
    unfold methodCallPos
    exact if_pos (by rw [hl, Bool.or_true])
  unfold methodCall
  rw [e1, e2]
  first | rfl | simp only [pure_bind]
theorem base_call {b m : Str} {p1 ap cp : Pos} {args : List Expr} {env : Env} (hf : methodCallForm (args.length + 0) (backTo cp (starEach args env)) (backToKw cp (keywordEach [] env)) = true) (hl : (ap.endLine == cp.line) = true) :
    eval (.Call (.Attribute (.Name b p1) m ap) args [] cp) env = (do let ov ← eval (.Name b p1) env; standAt ap.atName; let (f, first) ← holding [ov] (getMethod ov m (do return (← importBound (.Name b p1) env).getD true)); callWith cp f first (backTo cp (starEach args env)) (backToKw cp (keywordEach [] env))) :=
  congrArg (fun f : Value → Sem Value => (do let ov ← eval (.Name b p1) env; standAt ap.atName; f ov)) (funext fun ov => mcl hf hl)
theorem ini_ok {X : Cx} {S : Sc} {fs : List Str} {body : List Stmt} {B : Addr} (N : X.N = S.N) (sc : X.env.scope = S.sc) (m : X.mg "RestError" = some (.ref B))
    (ga : PySem.W.specialIn X.K (.ref B) "__getattribute__" = some (some (.builtin "type.__getattribute__"))) (rd : PySem.W.readsIn X.K B (.type "type") = true)
    (vV : PySem.W.findCls X.K (.ref B) (.type "type") "__init__" = some (.val (.builtin "ValueError.__init__"))) (q : kIni S fs body = true) :
    ∃ x : Str, PSs X body (tSeq (tDrop (tVeI X.K (tCons (tVar 0) (tCons (tC (.str x)) tNil)))) (tIni X.K 1 fs)) := by
  unfold kIni at q
  split at q
  · simp only [Bool.and_eq_true, decide_eq_true_eq] at q
    obtain ⟨⟨⟨⟨⟨h0, rfl⟩, rfl⟩, h1⟩, h2⟩, h3⟩ := q
    obtain ⟨g, d⟩ := gl_of sc h2
    rename_i x _ _ _ _ _
    refine ⟨x, pss_cons (ps_expr (pe_oinit g m (nm_dbg d).1 ga rd vV (pa_cons (vis_of N sc h1) (pa_cons pe_str pa_nil rfl) rfl) (base_call rfl h0) rfl rfl) (sw_plain rfl _ _ _)) (asg_ok N sc _ _ _ h3)⟩
  · cases q
/-- a class that the text defines: the written part's facts -/
def ExD (K : PySem.W.Frag) (mg : Str → Option Value) (x : String) (fs : List String) : Prop :=
  ∃ C B fI fd qual st, mg (nm x) = some (.ref C) ∧ OexC K C ∧ (∀ f ∈ fs.map nm, PySem.W.findIn K (.ref C) f = some none) ∧ PySem.W.findIn K (.ref C) "__init__" = some (some (.ref fI)) ∧ PySem.W.typeIn K (.ref fI) = some (.type "function") ∧
    Fun K "__init__" qual st fI fd ∧ mg "RestError" = some (.ref B) ∧ PySem.W.specialIn K (.ref B) "__getattribute__" = some (some (.builtin "type.__getattribute__")) ∧ PySem.W.readsIn K B (.type "type") = true ∧
    PySem.W.findCls K (.ref B) (.type "type") "__init__" = some (.val (.builtin "ValueError.__init__")) ∧ fs ≠ [] ∧ fs.length ≤ 800 ∧
    kIni ⟨nm "self" :: fs.map nm, defScope st, true, [], [], [], [], [], [], []⟩ (fs.map nm) (defBody st) = true ∧ FnScope (nm "self" :: fs.map nm) (nm "self" :: fs.map nm) (defScope st) ∧
    ∀ (kV doc pm : Value) (an : Option Addr) (cdv ct : Value) (us : List Value), us.length = (nm "self" :: fs.map nm).length → bindArgs (PySem.W.fnOf "__init__" qual (defArgs st) (defBody st) (defScope st) .none kV doc pm an cdv ct) ⟨us, []⟩ = pure ((nm "self" :: fs.map nm).zip us)
theorem start_at {N : List Str} {vs : List V} {j : Nat} {v : V} (h : vs[j]? = some v) : (L2.start N vs)[j]? = some (some v) := by
  have hl := (List.getElem?_eq_some_iff.mp h).1
  unfold L2.start
  rw [List.getElem?_append_left (by rw [List.length_map]; exact hl), List.getElem?_map, h]; rfl
theorem exd_exat {K : PySem.W.Frag} {mg : Str → Option Value} {x : String} {fs : List String} (e : ExD K mg x fs) (P : Program) (w : World) (base : Heap) : ExAt P w K mg base x fs := by
  obtain ⟨C, B, fI, fd, qual, st, m, T, hf, iC, tI, F, mB, ga, rd, vV, ne, hn, ki, S, bi⟩ := e
  refine ⟨C, fI, fd, m, T, hf, iC, tI, F.ok S (fun vs H Q E ⟨a, C, ws, z, hl, _⟩ => by rw [z, List.length_cons, List.length_cons, hl]) (fun cdv A outer s H vs Q E hr sp => ?_), F.binds bi⟩
  obtain ⟨a, C2, ws, rfl, hl, T2, hf2, ea, q⟩ := sp
  obtain ⟨msg, ss⟩ := ini_ok (X := (cxOf CX0 P w K mg base (nm "self" :: fs.map nm) qual (defScope st) fI cdv A outer s H E).nox) (S := ⟨nm "self" :: fs.map nm, defScope st, true, [], [], [], [], [], [], []⟩) rfl rfl mB ga rd vV ki
  refine ⟨_, ss, .ref a, start_at rfl, a, C2, [.str msg], rfl, by simp, T2, ea, ?_⟩
  obtain ⟨f, fs', rfl⟩ := List.exists_cons_of_ne_nil ne
  cases ws with
  | nil => exact absurd hl (by simp)
  | cons w0 ws =>
    refine ini_new T2 _ _ w0 ws 1 _ _ _ hf2 (start_at rfl) (fun j u hu => ?_) (by simpa using hl) ea (by simp at hn ⊢; omega) q
    rw [Nat.add_comm]
    exact start_at (by simpa using hu)
/-- one class catches another -/
def ExmOk (K : PySem.W.Frag) (mg : Str → Option Value) (q : String × String × Bool) : Prop := ∃ A1 A2, mg (nm q.1) = some (.ref A1) ∧ mg (nm q.2.1) = some (.ref A2) ∧ PySem.W.exmOne K (.ref A1) (.ref A2) = some q.2.2
def ExcsOk (K : PySem.W.Frag) (mg : Str → Option Value) : List (String × List String) → Prop
  | [] => True
  | q :: r => ExD K mg q.1 q.2 ∧ ExcsOk K mg r
def ExmsOk (K : PySem.W.Frag) (mg : Str → Option Value) : List (String × String × Bool) → Prop
  | [] => True
  | q :: r => ExmOk K mg q ∧ ExmsOk K mg r
theorem ExcsOk.at_ {K : PySem.W.Frag} {mg : Str → Option Value} : ∀ {l : List (String × List String)}, ExcsOk K mg l → ∀ q ∈ l, ExD K mg q.1 q.2
  | c :: r, q, b, h => by
    rcases List.mem_cons.mp h with rfl | h
    · exact q.1
    · exact ExcsOk.at_ q.2 b h
theorem ExmsOk.at_ {K : PySem.W.Frag} {mg : Str → Option Value} : ∀ {l : List (String × String × Bool)}, ExmsOk K mg l → ∀ q ∈ l, ExmOk K mg q
  | c :: r, q, b, h => by
    rcases List.mem_cons.mp h with rfl | h
    · exact q.1
    · exact ExmsOk.at_ q.2 b h
def AllsOk {α : Type} (P : α → Prop) : List α → Prop
  | [] => True
  | q :: r => P q ∧ AllsOk P r
theorem AllsOk.at_ {α : Type} {P : α → Prop} : ∀ {l : List α}, AllsOk P l → ∀ q ∈ l, P q
  | c :: r, q, b, h => by
    rcases List.mem_cons.mp h with rfl | h
    · exact q.1
    · exact AllsOk.at_ q.2 b h
structure ProgOk (K : PySem.W.Frag) (mg : Str → Option Value) (T : List MF) (B : Tb) : Prop where
  blts : BltsOk mg B.blt
  cons : ConsOk K mg B.cons
  defs : DefsOk K mg B T
  fns : B.fns = T.map (·.name)
  excs : ExcsOk K mg B.exc
  exms : ExmsOk K mg B.exm
  isos : AllsOk (IsoOk K mg) B.iso
  exfs : AllsOk (ExfOk K mg) B.exf
theorem inT_of {T : List MF} {f : String} (h : (T.map (·.name)).contains f = true) : ∃ F, findF T f = some F := by
  cases e : findF T f with
  | some F => exact ⟨F, rfl⟩
  | none =>
    unfold findF at e
    rw [List.find?_eq_none] at e
    rw [List.contains_iff_mem, List.mem_map] at h
    obtain ⟨F, hF, en⟩ := h
    exact absurd (by rw [en]; simp) (e F hF)
theorem RVs.at_ {K : PySem.W.Frag} {W : Wd} : ∀ {ms : List MV} {vs : List V} {i : Nat} {d : MV}, RVs K W ms vs → ms[i]? = some d → ∃ v, vs[i]? = some v ∧ RV K W d v
  | _, _, _, _, .nil, e => by simp at e
  | _, _, 0, _, .cons r _, e => by simp at e; subst e; exact ⟨_, rfl, r⟩
  | _, _, i + 1, d, .cons _ t, e => by
    obtain ⟨v, h1, h2⟩ := RVs.at_ (i := i) (d := d) t (by simpa using e)
    exact ⟨v, by simpa using h1, h2⟩
theorem psF_len {F : MF} (h : F.np ≤ F.names.length) : (psF F).length = F.np := by
  unfold psF
  rw [List.length_map, List.length_take]
  omega
theorem re_start {K : PySem.W.Frag} {W : Wd} {F : MF} {ms : List MV} {vs : List V} (r : RVs K W ms vs) (hl : ms.length = F.np) : RE K W (startE F ms) (L2.start (F.names.map nm) vs) := by
  have h2 := r.length
  refine ⟨?_, fun i d e => ?_⟩
  · unfold startE L2.start
    simp only [List.length_append, List.length_map, List.length_replicate]
    omega
  · unfold startE at e
    by_cases hi : i < ms.length
    · rw [List.getElem?_append_left (by simpa using hi), List.getElem?_map] at e
      cases em : ms[i]? with
      | none => rw [em] at e; cases e
      | some m =>
        rw [em] at e
        cases e
        obtain ⟨v, e1, r1⟩ := r.at_ em
        refine ⟨v, ?_, r1⟩
        unfold L2.start
        rw [List.getElem?_append_left (by rw [List.length_map]; omega), List.getElem?_map, e1]
        rfl
    · rw [List.getElem?_append_right (by simpa using hi), List.getElem?_replicate] at e
      split at e <;> cases e
theorem XR.cut {K : PySem.W.Frag} {mg : Str → Option Value} {p : Nat → Addr} {h : MH} {H : Hp} {n : Nat} {x : MExc} {cls : Value} {d : Option Addr} (r : XR K mg ⟨p, h, H⟩ x cls d) : XR K mg ⟨p, h.take n, H⟩ x cls d := by
  obtain ⟨C, dd, fs, a, b, c, e, f, g⟩ := r
  have lv : ∀ a, live ⟨p, h.take n, H⟩ a → live ⟨p, h, H⟩ a := fun a ⟨j, ys, e1, e2⟩ => ⟨j, ys, (take_get e1).1, e2⟩
  exact ⟨C, dd, fs, a, b, c, e, f, FzAll.mono (fun a xs na e => ⟨fun z => na (lv a z), e⟩) (fun _ _ q => q) _ _ g⟩
theorem fns_ok {P : Program} {w : World} {K : PySem.W.Frag} {mg : Str → Option Value} {T : List MF} {B : Tb} (O : ProgOk K mg T B) (base : Heap) : ∀ (k : Nat) (F : MF), findF T F.name = some F →
    ∀ (st : Stmt) (fa : Addr) (fd : FuncData), Fun K (nm F.own) (nm F.own) st fa fd → StOk B F st → FnG P w K mg base k fa fd (psF F) (spM K mg T k F.name) := by
  intro k
  induction k with
  | zero =>
    intro F hf st fa fd fn so
    exact ⟨fun vs H Q E ⟨_, _, _, _, _, z⟩ => z.elim, fun A outer s H args us vs Q E _ _ _ _ ⟨_, _, _, _, _, z⟩ => z.elim⟩
  | succ k ih =>
    intro F hf st fa fd fn so
    refine fnG_of fn so.scope (fun vs H Q E sp => ?_) fun cdv A outer s H vs Q E hr sp => ?_
    · obtain ⟨p, h, ms, ok, rv, q⟩ := sp
      unfold wF at q
      rw [hf] at q
      rw [psF_len so.np, ← rv.length]
      exact q.1
    · obtain ⟨p, h, ms, ok, rv, q⟩ := sp
      unfold wF at q
      rw [hf] at q
      obtain ⟨hl, q⟩ := q
      have re := re_start rv hl
      generalize hX : cxOf (L2.CX P w) P w K mg base (F.names.map nm) (nm F.own) (defScope st) fa cdv A outer s H E = X
      have c : CtxOk T X (B.sc F st) k := by
        subst hX
        refine ⟨rfl, so.scope.nd, rfl, so.scope.kind, fun _ _ => rfl, hr, rfl, O.blts.at_, O.cons.at_, fun g hg => inT_of (by rw [← O.fns]; exact hg), fun g G hG => ?_, fun q hq => exd_exat (O.excs.at_ q hq) P w base, fun q hq => O.exms.at_ q hq, fun q hq => O.isos.at_ q hq, fun q hq => O.exfs.at_ q hq, fun _ => rfl, fun _ => rfl⟩
        obtain ⟨hG2, rfl⟩ := find_in hG
        obtain ⟨st2, ⟨fa2, fd2, m2, fn2⟩, so2⟩ := O.defs.at_ G hG2
        exact ⟨fa2, fd2, m2, fn2.kp, fn2.binds so2.bind, ih G hG st2 fa2 fd2 fn2 so2⟩
      have Eh : MEx := fun x _ h' => ∀ p' H' cls d, WOk K ⟨p', h'.take h.length, H'⟩ → Ext K ⟨p, h, H⟩ ⟨p', h'.take h.length, H'⟩ → XR K mg ⟨p', h'.take h.length, H'⟩ x cls d → E cls d H'
      have tk : Tk X ⟨p, h, H⟩ (fun x _ h' => ∀ p' H' cls d, WOk K ⟨p', h'.take h.length, H'⟩ → Ext K ⟨p, h, H⟩ ⟨p', h'.take h.length, H'⟩ → XR K mg ⟨p', h'.take h.length, H'⟩ x cls d → E cls d H') := by
        subst hX
        refine (takes_of (E := E) rfl rfl rfl rfl).imp fun cls d σ H' z => ?_
        obtain ⟨x, p', h', e, wl, xr, q⟩ := z
        obtain ⟨a, b⟩ := wd_cut (n := h.length) wl.ok wl.ext (Nat.le_refl _)
        exact q p' H' cls d a b xr.cut
      have po : PassesOwn (model X.prog X.w) X.A X.env X.xe := by
        subst hX
        exact passes_of rfl
      have ss := sSs T k F.body X (B.sc F st) (defBody st) ⟨p, h, H⟩ _ c tk po so.chk
      have eK : X.K = K := by subst hX; rfl
      rw [eK] at ss
      refine ⟨_, ss, p, h, startE F ms, ⟨ok, re, Ext.refl⟩, wSs_mono (wF_mono T k) (fun _ _ _ z => z) _ _ _ ⟨fun e1 h1 r p1 H1 σ1 ok1 re1 x1 => ?_, fun d h1 r0 p1 H1 v ok1 x1 rv1 => ?_, fun _ _ z => False.elim z, fun _ _ z => False.elim z⟩ q⟩
      · obtain ⟨a, b⟩ := wd_cut (n := h.length) ok1 x1 (Nat.le_refl _)
        exact r p1 H1 .non a b .non
      · have r : retW h.length (fun d h' => ∀ p' H' v, WOk K ⟨p', h', H'⟩ → Ext K ⟨p, h, H⟩ ⟨p', h', H'⟩ → RV K ⟨p', h', H'⟩ d v → Q v H') d h1 := r0
        clear r0
        obtain ⟨a, b⟩ := wd_cut (n := h.length) ok1 x1 (Nat.le_refl _)
        have lv : ∀ a, live ⟨p1, h1.take h.length, H1⟩ a → live ⟨p1, h1, H1⟩ a := fun a ⟨j, ys, e1, e2⟩ => ⟨j, ys, (take_get e1).1, e2⟩
        unfold retW at r
        split at r
        · rename_i i
          by_cases hi : i < h.length
          · rw [if_pos hi] at r
            refine r p1 H1 v a b ⟨⟨?_, (kd_take hi).trans rv1.1.2⟩, rv1.2⟩
            show i < (h1.take h.length).length
            have := rv1.1.1
            rw [List.length_take]
            exact Nat.lt_min.mpr ⟨hi, this⟩
          · rw [if_neg hi] at r
            obtain ⟨vs', xs, ev, ei, ea, fa', r⟩ := rv_cell ok1 rv1 r
            obtain ⟨a2, b2, c2, _⟩ := wd_move ok1 x1 rfl (Nat.le_of_not_lt hi) ei
            rw [ev]
            exact r _ H1 _ a2 b2 (c2 (fz_nd fa'))
        · rename_i i
          by_cases hi : i < h.length
          · rw [if_pos hi] at r
            refine r p1 H1 v a b ⟨⟨?_, (kd_take hi).trans rv1.1.2⟩, rv1.2⟩
            show i < (h1.take h.length).length
            have := rv1.1.1
            rw [List.length_take]
            exact Nat.lt_min.mpr ⟨hi, this⟩
          · rw [if_neg hi] at r
            have ei := List.getElem?_eq_getElem rv1.1.1
            unfold cellW at r
            rw [show h1[i]? = some (h1[i]'rv1.1.1) from ei] at r
            obtain ⟨a2, b2, _, c2⟩ := wd_move ok1 x1 rfl (Nat.le_of_not_lt hi) ei
            rw [show v = .ref (p1 i) from rv1.2]
            exact r _ H1 _ a2 b2 (c2 ((kd_of ei).symm.trans rv1.1.2))
        · rename_i hn hm
          refine r p1 H1 v a b ?_
          cases d with
          | d y => exact Fz.mono (fun a xs na e => ⟨fun z => na (lv a z), e⟩) (fun _ _ q => q) _ _ rv1
          | r i => exact absurd rfl (hn i)
          | m i => exact absurd rfl (hm i)
          | s ns => exact rv1

/-- the law's promise -/
def spLaw (n : Nat) (K : PySem.W.Frag) : Sp := fun vs H Q E => ∃ a ns, vs = [.ref a] ∧ ScrOk K H a ns ∧ ns.length ≤ n ∧ ∀ H', Q (.bl true) H'
theorem law_ok {P : Program} {w : World} {K : PySem.W.Frag} {mg : Str → Option Value} {T : List MF} {B : Tb} (O : ProgOk K mg T B) {n k : Nat} {x : String} {F : MF} (hf : findF T "law" = some F) (hp : psF F = [nm x])
    (law : ∀ ns : List Int, ns.length ≤ n → ∀ (Q : MQ) (E : ME), (∀ h', Q (.d (.bool true)) h') → wF T k "law" [.s ns] [] Q E) {fa : Addr} (hfa : mg "law" = some (.ref fa)) :
    ∃ fd : FuncData, (∀ (s : Shared) (u : Value), BindsTo s fd ⟨[u], []⟩ [(nm x, u)]) ∧ ∀ base : Heap, K.In base → base.Ns mainGlobals mg → FnG P w K mg base k fa fd [nm x] (spLaw n K) := by
  obtain ⟨st, ⟨fa', fd, m, fn⟩, so⟩ := O.defs.at_ F (find_in hf).1
  have en := (find_in hf).2
  refine ⟨fd, fun s u => ?_, fun base _ _ => ?_⟩
  · obtain ⟨oc, od, kV, doc, pm, an, cdv, ct, osl, rfl, lk, hcd⟩ := fn.ex
    have z := so.bind kV doc pm an cdv ct [u] (by rw [hp]; rfl)
    rw [hp] at z
    exact .of_eq z
  · have e2 : fa' = fa := by
      have z : mg (nm F.name) = some (.ref fa) := by rw [en]; exact hfa
      have z2 := m.symm.trans z
      cases z2; rfl
    subst e2
    have G := fns_ok (P := P) (w := w) O base k F (by rw [en]; exact hf) st fa' fd fn so
    rw [hp] at G
    refine ⟨fun vs H Q E ⟨a, ns, z, _⟩ => by rw [z]; rfl, fun A outer s H args us vs Q E r0 e0 bt va sp => G.go A outer s H args us vs Q E r0 e0 bt va ?_⟩
    obtain ⟨a, ns, rfl, sc, hl, q⟩ := sp
    refine ⟨fun _ => 0, [], [.s ns], ⟨fun i xs e => by simp at e, fun i j xs ys e => by simp at e⟩, .cons ⟨a, rfl, sc⟩ .nil, ?_⟩
    rw [en]
    refine law ns hl _ _ fun h' p' H' v ok x rv => ?_
    cases rv_bool rv
    exact q H'
/-- the goal behind k_head -/
theorem walkM {l : PySem.W.OpenLaw} {n : Nat} (k : Nat) {q : Program} {loose : List Str} {XP : (Str → Option Value) → Heap → Prop}
    {YP : World → Heap → Prop} {d : DefRec} {K : Params → PySem.W.Frag} (T : List MF) (B : Tb) (x : String) (F : MF)
    (hn : l.most = some n) (hn2 : n ≤ 1000) (hdf : d.params.defaults = []) (hk : k ≤ 48) (hd : d.name = "law")
    (hf : findF T "law" = some F) (hp : psF F = [nm x])
    (law : ∀ ns : List Int, ns.length ≤ n → ∀ (Q : MQ) (E : ME), (∀ h', Q (.d (.bool true)) h') → wF T k "law" [.s ns] [] Q E)
    (hY : ∀ (w : World) (h : Heap), YP w h → (K w.params).In h)
    (O : ∀ (w : World) (mg : Str → Option Value) (h : Heap), (K w.params).In h → h.Ns mainGlobals mg → ProgOk (K w.params) mg T B) :
    PySem.W.WalkO q loose XP YP l.row.toRowW d [] (fun f vs => PySem.call f vs) := by
  have c1 : 1 + claimMargin + 3 * 50 + 5 < recursionLimit := by decide
  have c2 : 4 + 16 * 50 + 200 < cLine := by decide
  have room : Room (k + 2) callerA := ⟨rfl, Nat.lt_of_le_of_lt (show 1 + claimMargin + 3 * (k + 2) + 5 ≤ 1 + claimMargin + 3 * 50 + 5 by omega) c1, Nat.lt_of_le_of_lt (show 4 + 16 * (k + 2) + 200 ≤ 4 + 16 * 50 + 200 by omega) c2⟩
  refine walkG (sp := spLaw n) (x := nm x) hn (by rw [line24]; omega) hdf room hY (fun w mg fa h X G hm => ?_) fun K H a ns hl sc => ⟨a, ns, rfl, sc, hl, fun _ => rfl⟩
  rw [hd] at hm
  exact law_ok (O w mg h X G) hf hp law hm
end Mini
end
section
set_option Elab.async false
set_option linter.all false
set_option maxRecDepth 100000
/-! Mini: one step at a time. -/
namespace Mini
open PySem

def X1 (G : MG) (E : ME) : MX → MEnv → MH → MQ → Prop
  | .var i, e, h, Q => (match e[i]? with | some (some v) => Q v h | _ => False)
  | .cst c, _, h, Q => Q (.d c) h
  | .glo _ c, _, h, Q => Q (.d c) h
  | .bin op a b, e, h, Q => wX G E a e h fun x h1 => wX G E b e h1 fun y h2 => wBin op x y h2 Q
  | .neg a, e, h, Q => wX G E a e h fun x h1 => wNeg x h1 Q
  | .nott a, e, h, Q => wX G E a e h fun x h1 => wTru x h1 fun t => Q (.d (.bool (!t))) h1
  | .andd a b, e, h, Q => wX G E a e h fun x h1 => wTru x h1 fun t => if t then wX G E b e h1 Q else Q x h1
  | .orr a b, e, h, Q => wX G E a e h fun x h1 => wTru x h1 fun t => if t then Q x h1 else wX G E b e h1 Q
  | .cmp op a b, e, h, Q => wX G E a e h fun x h1 => wX G E b e h1 fun y h2 => wCmp op x y h2 fun t => Q (.d (.bool t)) h2
  | .chn op op' a b c, e, h, Q => wX G E a e h fun x h1 => wX G E b e h1 fun y h2 => wCmp op x y h2 fun t =>
      if t then wX G E c e h2 fun z h3 => wCmp op' y z h3 fun t' => Q (.d (.bool t')) h3 else Q (.d (.bool false)) h2
  | .isC neg a c, e, h, Q => wX G E a e h fun x h1 => wIs x c fun t => Q (.d (.bool (neg != t))) h1
  | .ite c a b, e, h, Q => wX G E c e h fun x h1 => wTru x h1 fun t => if t then wX G E a e h1 Q else wX G E b e h1 Q
  | .tup xs, e, h, Q => wXs G E xs e h fun vs h1 => wTup vs h1 Q
  | .lst xs, e, h, Q => wXs G E xs e h fun vs h1 => wLst vs h1 Q
  | .frz a, e, h, Q => wX G E a e h fun v h1 => wFrz h.length v h1 Q
  | .ix a i, e, h, Q => wX G E a e h fun x h1 => wX G E i e h1 fun y h2 => wIx x y h2 Q
  | .sl a lo hi, e, h, Q => wX G E a e h fun x h1 => wXs G E lo e h1 fun l h2 => wBound l fun lo' => wXs G E hi e h2 fun u h3 => wBound u fun hi' => wSl x lo' hi' h3 Q
  | .revL a, e, h, Q => wX G E a e h fun x h1 => wRev x h1 Q
  | .alt k a, e, h, Q => wX G E a e h fun x h1 => wAlt k x h1 Q
  | .rgv t xs, e, h, Q => wXs G E xs e h fun vs h1 => wRgv t vs h1 Q
  | .call f xs, e, h, Q => wXs G E xs e h fun vs h1 => G f vs h1 Q E
  | .blt b xs, e, h, Q => wXs G E xs e h fun vs h1 => wBlt b vs h1 Q
  | .isi a t, e, h, Q => wX G E a e h fun x h1 => wIsi x t h1 Q
  | .mth m o xs, e, h, Q => wX G E o e h fun x h1 => (match x with | .r _ => wXs G E xs e h1 fun vs h2 => wMth m x vs h2 Q | _ => False)
  | .lc elt tg it cond own, e, h, Q => wX G E (.lc elt tg it cond own) e h Q
  | .maxD a d, e, h, Q => wX G E a e h fun v h1 => wMaxD v d h1 Q
  | .lenSet a, e, h, Q => wX G E a e h fun v h1 => wLenSet v h1 Q
  | .srtSet a, e, h, Q => wX G E a e h fun v h1 => wSrtSet v h1 Q
  | .dgetD o k x, e, h, Q => wX G E o e h fun ov h1 => (match ov with | .m _ => wX G E k e h1 fun kv h2 => wX G E x e h2 fun xv h3 => wDgetD ov kv xv h3 Q | _ => False)
  | .idxOf o x, e, h, Q => wX G E o e h fun ov h1 => lstW ov h1 fun _ => wX G E x e h1 fun xv h2 => wIdx ov xv h2 Q
  | .dnew t, _, h, Q => Q (.m h.length) (h ++ [dcell t []])
  | .dlit ks xs, e, h, Q => wXs G E xs e h fun vs h1 => wDlit ks vs h1 Q
  | .pick xs i, e, h, Q => wXs G E xs e h fun vs h1 => wX G E i e h1 fun y h2 => wPick vs y h2 Q
def Xs1 (G : MG) (E : ME) : MXs → MEnv → MH → (List MV → MH → Prop) → Prop
  | .nil, _, h, Q => Q [] h
  | .cons x xs, e, h, Q => wX G E x e h fun v h1 => wXs G E xs e h1 fun vs h2 => Q (v :: vs) h2
def I1 (G : MG) (E : ME) : MI → MEnv → MH → MK → Prop
  | .seq a, e, h, K => wX G E a e h fun v h1 => wSeqI v h1 id K
  | .rng xs, e, h, K => wXs G E xs e h fun vs h1 => wRng vs h1 K
  | .rev a, e, h, K => wX G E a e h fun v h1 => wSeqI v h1 List.reverse K
  | .rrg xs, e, h, K => wXs G E xs e h fun vs h1 => wRrg vs h1 K
  | .enm a, e, h, K => wX G E a e h fun v h1 => wSeqI v h1 (enmL 0) K
  | .zip a b, e, h, K => wX G E a e h fun v h1 => wX G E b e h1 fun u h2 => wSeqI v h2 id fun xs g1 h3 => wSeqI u h3 id fun ys g2 h4 => g1 = none ∧ g2 = none ∧ K (zipL xs ys) none h4
def S1 (G : MG) (E : MExc → MEnv → MH → Prop) : MS → MEnv → MH → MD → Prop
  | .ex a, e, h, D => wX G (fun x h' => E x e h') a e h fun _ h1 => D.nx e h1
  | .set i a, e, h, D => wX G (fun x h' => E x e h') a e h fun v h1 => D.nx (e.set i (some v)) h1
  | .setT is a, e, h, D => wX G (fun x h' => E x e h') a e h fun v h1 => (match v with | .d x => tgW (.tup is) x e fun e1 => D.nx e1 h1 | _ => False)
  | .par i j a b, e, h, D => wX G (fun x h' => E x e h') a e h fun v h1 => wX G (fun x h' => E x e h') b e h1 fun u h2 => D.nx ((e.set i (some v)).set j (some u)) h2
  | .setI o i a, e, h, D => wX G (fun x h' => E x e h') a e h fun v h1 => wX G (fun x h' => E x e h') o e h1 fun ov h2 => wX G (fun x h' => E x e h') i e h2 fun iv h3 => wSetI ov iv v h3 fun h4 => D.nx e h4
  | .ret a, e, h, D => wX G (fun x h' => E x e h') a e h D.rt
  | .retN, e, h, D => D.rt (.d .none) h
  | .iff c a b, e, h, D => wX G (fun x h' => E x e h') c e h fun x h1 => wTru x h1 fun t => if t then wSs G E a e h1 D else wSs G E b e h1 D
  | .pass, e, h, D => D.nx e h
  | .brk, e, h, D => D.bk e h
  | .cont, e, h, D => D.ct e h
  | .forr tr tg it b, e, h, D => wI G (fun x h' => E x e h') it e h fun xs g h1 => forN tr h1.length tg g (fun e1 h2 D1 => wSs G E b e1 h2 D1) D xs e h1
  | .raise C fs xs, e, h, _ => wXs G (fun x h' => E x e h') xs e h fun vs h1 => wRaise C fs vs e h1 E
  | .tryy b all C cs hd, e, h, D => wSs G (wCat all C cs hd E D) b e h D
  | x, e, h, D => wS G E x e h D
def Ss1 (G : MG) (E : MExc → MEnv → MH → Prop) : MSs → MEnv → MH → MD → Prop
  | .nil, e, h, D => D.nx e h
  | .cons x xs, e, h, D => wS G E x e h { D with nx := fun e1 h1 => wSs G E xs e1 h1 D }
section
variable {G : MG} {E : ME} {E' : MExc → MEnv → MH → Prop} {e : MEnv} {h : MH}
def okX : MX → Bool
  | .lc .. => false
  | _ => true
def okS : MS → Bool
  | .whl .. => false
  | .aug .. => false
  | .augI .. => false
  | _ => true
theorem toX {a : MX} {Q : MQ} (ok : okX a = true) (q : X1 G E a e h Q) : wX G E a e h Q := by
  cases a <;> first | exact q | (unfold wX; exact q)
theorem toXs {a : MXs} {Q : List MV → MH → Prop} (q : Xs1 G E a e h Q) : wXs G E a e h Q := by
  cases a <;> (unfold wXs; exact q)
theorem toI {a : MI} {Q : MK} (q : I1 G E a e h Q) : wI G E a e h Q := by
  cases a <;> (unfold wI; exact q)
theorem toS {a : MS} {D : MD} (ok : okS a = true) (q : S1 G E' a e h D) : wS G E' a e h D := by
  cases a <;> first | exact q | (unfold wS; exact q)
theorem toSs {a : MSs} {D : MD} (q : Ss1 G E' a e h D) : wSs G E' a e h D := by
  cases a <;> (unfold wSs; exact q)
end
theorem toF {T : List MF} {k : Nat} {f : String} {F : MF} {vs : List MV} {h : MH} {Q : MQ} {E : ME} (hf : findF T f = some F) (hn : vs.length = F.np)
    (q : wSs (wF T k) (fun x _ h' => E x (h'.take h.length)) F.body (startE F vs) h { nx := fun _ h' => retW h.length Q (.d .none) h', rt := retW h.length Q, bk := fun _ _ => False, ct := fun _ _ => False }) : wF T (k + 1) f vs h Q E := by
  unfold wF
  rw [hf]
  exact ⟨hn, q⟩
theorem ite_dec {p : Prop} [Decidable p] {A B : Prop} (a : p → A) (b : ¬ p → B) : if decide p = true then A else B := by
  by_cases h : p
  · rw [decide_eq_true h, if_pos rfl]; exact a h
  · rw [decide_eq_false h, if_neg Bool.false_ne_true]; exact b h
theorem ite_bool {t : Bool} {A B : Prop} (a : t = true → A) (b : t = false → B) : if t = true then A else B := by
  cases t
  · exact b rfl
  · exact a rfl

theorem le_turn {tr : Bool} {n : Nat} {K K' : MEnv → MH → Prop} {rt : MQ} {bk : MEnv → MH → Prop} (m : ∀ e h, K e h → K' e h) : MD.Le ⟨trE tr n K, rt, bk, trE tr n K⟩ ⟨trE tr n K', rt, bk, trE tr n K'⟩ :=
  ⟨fun e h => trE_mono m e h, fun _ _ z => z, fun _ _ z => z, fun e h => trE_mono m e h⟩
section
variable {T : List MF} {k : Nat} {E : MExc → MEnv → MH → Prop} {D : MD} {α : Type}
/-- a while, by states -/
theorem whl_st {tr : Bool} {c : MX} {b : MSs} (st : α → MEnv) (hp : α → MH) (P : α → Prop) (m : α → Nat) {e : MEnv} {h : MH} (a0 : α) (he : e = st a0) (hh : h = hp a0) (p0 : P a0)
    (step : ∀ a, P a → wX (wF T k) (fun x h' => E x (st a) h') c (st a) (hp a) fun x h1 => wTru x h1 fun t => if t then wSs (wF T k) E b (st a) h1 { nx := trE tr h.length fun e' h' => ∃ a', e' = st a' ∧ h' = hp a' ∧ P a' ∧ m a' < m a, ct := trE tr h.length fun e' h' => ∃ a', e' = st a' ∧ h' = hp a' ∧ P a' ∧ m a' < m a, bk := D.nx, rt := D.rt } else D.nx (st a) h1) :
    wS (wF T k) E (.whl tr c b) e h D := by
  unfold wS
  have go : ∀ n, ∀ a, P a → m a < n → whlN tr h.length (fun e1 h1 K => wX (wF T k) (fun x h' => E x e1 h') c e1 h1 fun x h2 => wTru x h2 fun t => K t h2) (fun e1 h1 D1 => wSs (wF T k) E b e1 h1 D1) D n (st a) (hp a) := by
    intro n
    induction n with
    | zero => intro a _ h; exact absurd h (Nat.not_lt_zero _)
    | succ n ih =>
      intro a pa ha
      unfold whlN
      refine wX_mono (wF_mono T k) (fun _ _ z => z) c _ _ (fun x h1 q => wTru_mono (fun t => ?_) q) (step a pa)
      cases t with
      | false => exact id
      | true =>
        refine wSs_mono (wF_mono T k) (fun _ _ _ z => z) b _ _ (le_turn ?_)
        rintro e1 h1 ⟨a', rfl, rfl, p, l⟩; exact ih a' p (by omega)
  subst he hh
  exact ⟨_, go _ a0 p0 (Nat.lt_succ_self _)⟩
/-- a for, by states -/
theorem for_st {tr : Bool} {n : Nat} {tg : MTg} {g : MGd} {b : MSs} {xs : List PyData} (st : α → MEnv) (hp : α → MH) (P : Nat → α → Prop) {e : MEnv} {h : MH} (a0 : α) (he : e = st a0) (hh : h = hp a0) (p0 : P 0 a0)
    (step : ∀ i a x, xs[i]? = some x → P i a → gdOk g (hp a) ∧ tgW tg x (st a) fun e1 => wSs (wF T k) E b e1 (hp a) { nx := trE tr n fun e' h' => ∃ a', e' = st a' ∧ h' = hp a' ∧ P (i + 1) a', ct := trE tr n fun e' h' => ∃ a', e' = st a' ∧ h' = hp a' ∧ P (i + 1) a', bk := D.nx, rt := D.rt })
    (fin : ∀ a, P xs.length a → gdOk g (hp a) ∧ D.nx (st a) (hp a)) :
    forN tr n tg g (fun e1 h2 D1 => wSs (wF T k) E b e1 h2 D1) D xs e h := by
  subst he hh
  have go : ∀ (l : List PyData) (i : Nat) (a : α), xs.drop i = l → i ≤ xs.length → P i a → forN tr n tg g (fun e1 h2 D1 => wSs (wF T k) E b e1 h2 D1) D l (st a) (hp a) := by
    intro l
    induction l with
    | nil =>
      intro i a hl hi p
      have : i = xs.length := by
        have := congrArg List.length hl
        rw [List.length_drop, List.length_nil] at this
        omega
      subst this
      unfold forN
      exact fin a p
    | cons x l ih =>
      intro i a hl hi p
      have hlt : i < xs.length := by
        have := congrArg List.length hl
        rw [List.length_drop, List.length_cons] at this
        omega
      rw [List.drop_eq_getElem_cons hlt] at hl
      have hx : xs[i]? = some x := by rw [List.getElem?_eq_getElem hlt, (List.cons.inj hl).1]
      obtain ⟨q1, q2⟩ := step i a x hx p
      unfold forN
      refine ⟨q1, tgW_mono (fun e1 => wSs_mono (wF_mono T k) (fun _ _ _ z => z) b _ _ (le_turn ?_)) q2⟩
      rintro e1 h1 ⟨a', rfl, rfl, p⟩; exact ih (i + 1) a' (List.cons.inj hl).2 hlt p
  exact go xs 0 a0 List.drop_zero (Nat.zero_le _) p0
/-- a comprehension, by states: hp the heap without the new list -/
theorem lc_st {E : ME} {elt : MX} {tg : MTg} {it : MI} {cond : MXs} {own : List (String × Nat)} {e : MEnv} {h : MH} {Q : MQ} 
    (q : wI (wF T k) E it e h fun xs g h1 => ∃ (hp : Nat → MH) (f : Nat → List PyData), hp 0 = h1 ∧ f 0 = [] ∧ (∀ i, i ≤ xs.length → (hp i).length = h1.length) ∧
      (∀ i x, xs[i]? = some x → gdOk g (hp i ++ [f i]) ∧ tgW tg x (wipeE e own) fun e1 => wT (wF T k) cond e1 (hp i ++ [f i]) fun t h2 =>
        if t then wX (wF T k) (fun _ _ => False) elt e1 h2 fun v h3 => (match v with | .d y => h3 = hp (i + 1) ++ [f i] ∧ f (i + 1) = f i ++ [y] ∧ (f i).length < 16777216 | _ => False) else h2 = hp (i + 1) ++ [f i] ∧ f (i + 1) = f i) ∧
      gdOk g (hp xs.length ++ [f xs.length]) ∧ Q (.r h1.length) (hp xs.length ++ [f xs.length])) : wX (wF T k) E (.lc elt tg it cond own) e h Q := by
  unfold wX
  refine wI_mono (wF_mono T k) (fun _ _ z => z) it e h ?_ q
  rintro xs g h1 ⟨hp, f, e0, f0, hl, step, gd, fin⟩
  have go : ∀ (l : List PyData) (i : Nat), xs.drop i = l → i ≤ xs.length → lcN h1.length tg g (fun e1 h2 K => wT (wF T k) cond e1 h2 K) (fun e1 h2 Q' => wX (wF T k) (fun _ _ => False) elt e1 h2 Q') (wipeE e own) (fun h2 => Q (.r h1.length) h2) l (hp i ++ [f i]) := by
    intro l
    induction l with
    | nil =>
      intro i hl hi
      have : i = xs.length := by
        have := congrArg List.length hl
        rw [List.length_drop, List.length_nil] at this
        omega
      subst this
      unfold lcN
      exact ⟨gd, fin⟩
    | cons x l ih =>
      intro i hl' hi
      have hlt : i < xs.length := by
        have := congrArg List.length hl'
        rw [List.length_drop, List.length_cons] at this
        omega
      rw [List.drop_eq_getElem_cons hlt] at hl'
      have hx : xs[i]? = some x := by rw [List.getElem?_eq_getElem hlt, (List.cons.inj hl').1]
      obtain ⟨q1, q2⟩ := step i x hx
      have ih' := ih (i + 1) (List.cons.inj hl').2 hlt
      have l1 : (hp (i + 1)).length = h1.length := hl (i + 1) hlt
      unfold lcN
      refine ⟨q1, tgW_mono (fun e1 => wT_mono (wF_mono T k) cond e1 _ (fun t h2 => ?_)) q2⟩
      cases t with
      | false =>
        show (h2 = _ ∧ _) → lcN _ _ _ _ _ _ _ _ _
        rintro ⟨rfl, e2⟩
        have : (hp (i + 1) ++ [f i]).take (h1.length + 1) = hp (i + 1) ++ [f (i + 1)] := by
          rw [e2, List.take_of_length_le (by rw [List.length_append, List.length_singleton]; omega)]
        rw [this]
        exact ih'
      | true =>
        show wX _ _ _ _ _ _ → wX _ _ _ _ _ _
        refine wX_mono (wF_mono T k) (fun _ _ z => z) elt _ _ fun v h3 => ?_
        cases v with
        | d y =>
          rintro ⟨rfl, e2, e3⟩
          show cellW _ _ _
          unfold cellW
          have eg : (hp (i + 1) ++ [f i])[h1.length]? = some (f i) := by
            rw [List.getElem?_append_right (by omega), l1, Nat.sub_self]; rfl
          rw [eg]
          refine ⟨e3, ?_⟩
          have : ((hp (i + 1) ++ [f i]).set h1.length (f i ++ [y])).take (h1.length + 1) = hp (i + 1) ++ [f (i + 1)] := by
            rw [List.take_of_length_le (by rw [List.length_set, List.length_append, List.length_singleton]; omega), List.set_append_right _ _ (by omega), l1, Nat.sub_self, e2]
            rfl
          rw [this]
          exact ih'
        | r _ => exact id
        | s _ => exact id
        | m _ => exact id
  have z := go xs 0 List.drop_zero (Nat.zero_le _)
  rw [e0, f0] at z
  exact z
end
end Mini
end
section
set_option Elab.async false
set_option linter.all false
set_option maxRecDepth 100000
/-! Mini: small facts for proofs over the terms. -/
namespace Mini
open PySem

theorem sh_none : SeqAt.shaped .none = true := rfl
theorem sh_bool (b : Bool) : SeqAt.shaped (.bool b) = true := rfl
theorem sh_int (i : Int) : SeqAt.shaped (.int i) = true := rfl
theorem sh2_int (i j : Int) : SeqAt.shaped (.int i) = true ∧ SeqAt.shaped (.int j) = true := ⟨rfl, rfl⟩
theorem eqv_int (a b : Int) : PyData.eqv (.int a) (.int b) = decide (a = b) := by
  unfold PyData.eqv
  exact Bool.beq_eq_decide_eq a b
theorem ite_not {p : Prop} [Decidable p] {A B : Prop} (a : ¬ p → A) (b : p → B) : if (!decide p) = true then A else B := by
  by_cases h : p
  · rw [decide_eq_true h]; exact b h
  · rw [decide_eq_false h]; exact a h
/-- two texts that are the same -/
theorem ite_neS {α : Type} {a b : α} [Decidable (a = b)] {A B : Prop} (h : a = b) (q : B) : if (!decide (a = b)) = true then A else B :=
  ite_not (fun z => absurd h z) (fun _ => q)
theorem repr_int {i : Int} (h : i.natAbs < 2 ^ 1900) : PyData.showable (.int i) = true ∧ (PyData.int i).depth ≤ 64 ∧ (PyData.int i).shown.length ≤ 16777216 := by
  have hl : i.natAbs.log2 < 1920 := by
    by_cases hz : i.natAbs = 0
    · rw [hz]; decide
    · exact Nat.lt_of_lt_of_le ((Nat.log2_lt hz).mpr h) (by decide)
  refine ⟨by simp [PyData.showable, hl], by simp [PyData.depth], ?_⟩
  have z := PySem.int_text_fits hl
  rw [sizeLine_eq] at z
  simpa [PyData.shown] using z
theorem small_of {i : Int} (h1 : -1000000000000000000000 ≤ i) (h2 : i ≤ 1000000000000000000000) : i.natAbs < 2 ^ 1900 := by
  have : (1000000000000000000000 : Nat) < 2 ^ 1900 := by decide +kernel
  omega
theorem take_all {h : MH} : h.take h.length = h := List.take_length
theorem take_set {h : MH} {i : Nat} {x : MCell} : (h.set i x).take h.length = h.set i x := List.take_of_length_le (by simp)
theorem take_app {h g : MH} : (h ++ g).take h.length = h := by simp
theorem get_new {h : MH} {x : MCell} : (h ++ [x])[h.length]? = some x := by simp
theorem set_new {h : MH} {x y : MCell} : (h ++ [x]).set h.length y = h ++ [y] := by simp
theorem get_old {h g : MH} {i : Nat} {x : MCell} (e : h[i]? = some x) : (h ++ g)[i]? = some x := by
  rw [List.getElem?_append_left (List.getElem?_eq_some_iff.mp e).1]; exact e
theorem set_old {h g : MH} {i : Nat} {x y : MCell} (e : h[i]? = some x) : (h ++ g).set i y = h.set i y ++ g := by
  rw [List.set_append_left _ _ (List.getElem?_eq_some_iff.mp e).1]
theorem get_set {h : MH} {i : Nat} {x y : MCell} (e : h[i]? = some x) : (h.set i y)[i]? = some y := by
  rw [List.getElem?_set_self (List.getElem?_eq_some_iff.mp e).1]
theorem cell_at {h : MH} {i : Nat} {xs : List PyData} {K : List PyData → Prop} (e : h[i]? = some xs) (q : K xs) : cellW h i K := by
  unfold cellW; rw [e]; exact q
theorem at_nat {xs : List PyData} {j : Nat} {v : PyData} {K : PyData → Prop} (e : xs[j]? = some v) (q : K v) : atW xs (j : Int) K := by
  unfold atW; rw [L2.atI_nat e]; exact q
theorem at_int {xs : List PyData} {i : Int} {v : PyData} {K : PyData → Prop} (h0 : 0 ≤ i) (e : xs[i.toNat]? = some v) (q : K v) : atW xs i K := by
  have : i = (i.toNat : Int) := by omega
  rw [this]; exact at_nat e q
theorem wFrz_d (n : Nat) (x : PyData) (h : MH) (Q : MQ) : wFrz n (.d x) h Q = Q (.d x) h := rfl
theorem retW_d (n : Nat) (Q : MQ) (x : PyData) (h : MH) : retW n Q (.d x) h = Q (.d x) (h.take n) := rfl
theorem frz_new {n : Nat} {h : MH} {xs : List PyData} {Q : MQ} (e : h.length = n) (q : Q (.d (.list xs)) h) : wFrz n (.r h.length) (h ++ [xs]) Q := by
  subst e
  refine ⟨Nat.le_refl _, cell_at get_new ?_⟩
  rw [take_app]; exact q
theorem ret_new {n : Nat} {h : MH} {xs : List PyData} {Q : MQ} (e : h.length = n) (q : Q (.r n) (h ++ [xs])) : retW n Q (.r h.length) (h ++ [xs]) := by
  subst e
  unfold retW
  dsimp only
  rw [if_neg (Nat.lt_irrefl _)]
  refine cell_at get_new ?_
  rw [take_app]; exact q
theorem take_n {n : Nat} {h : MH} {Q : MQ} {v : MV} (e : h.length = n) (q : Q v h) : Q v (h.take n) := by
  rw [List.take_of_length_le (by omega)]; exact q
theorem setI_at {h : MH} {a : Nat} {k : Int} {j : Nat} {x : PyData} {xs : List PyData} {K : MH → Prop} (e : h[a]? = some xs) (l : L2.ixN xs.length k = some j) (q : K (h.set a (xs.set j x))) : wSetI (.r a) (.d (.int k)) (.d x) h K := by
  show cellW _ _ _
  refine cell_at e ?_
  rw [l]; exact q
theorem at_lit {xs : List PyData} {i : Int} {v : PyData} {K : PyData → Prop} (e : L2.atI xs i = some v) (q : K v) : atW xs i K := by
  unfold atW; rw [e]; exact q
def allI (p : Int → Bool) : List PyData → Bool
  | [] => true
  | .int v :: r => p v && allI p r
  | _ :: _ => false
theorem at_all {p : Int → Bool} : ∀ {xs : List PyData} (_ : allI p xs = true) {i : Int} (_ : 0 ≤ i) (_ : i < xs.length) {K : PyData → Prop} (_ : ∀ v, p v = true → K (.int v)), atW xs i K := by
  intro xs a i h0 h1 K q
  have : ∀ (xs : List PyData), allI p xs = true → ∀ j, j < xs.length → ∃ v, xs[j]? = some (.int v) ∧ p v = true := by
    intro xs
    induction xs with
    | nil => intro _ j hj; exact absurd hj (Nat.not_lt_zero _)
    | cons x r ih =>
      intro a j hj
      cases x <;> try exact absurd a Bool.false_ne_true
      unfold allI at a
      rw [Bool.and_eq_true] at a
      cases j with
      | zero => exact ⟨_, rfl, a.1⟩
      | succ j => exact ih a.2 j (Nat.lt_of_succ_lt_succ hj)
  obtain ⟨v, e, pv⟩ := this xs a i.toNat (by omega)
  exact at_int h0 e (q v pv)
/-- the script answers -/
theorem at_s {ns : List Int} {i : Int} {K : Int → Prop} (h0 : 0 ≤ i) (h1 : i < ns.length) (q : ∀ v, K v) : match L2.atI ns i with | some v => K v | none => False := by
  have hn : i.toNat < ns.length := by omega
  have : L2.atI ns i = some ns[i.toNat] := by
    unfold L2.atI L2.ixN
    rw [if_pos h0, if_pos h1]
    simp [hn]
  rw [this]; exact q _
theorem rgL_get {a b : Int} {i : Nat} {x : PyData} (e : (rgL a b)[i]? = some x) : x = .int (a + i) ∧ i < (b - a).toNat := by
  unfold rgL at e
  rw [List.getElem?_map] at e
  by_cases h : i < (b - a).toNat
  · rw [List.getElem?_range h] at e
    exact ⟨(Option.some.inj e).symm, h⟩
  · rw [List.getElem?_eq_none (by rw [List.length_range]; omega)] at e
    exact absurd e (by simp)
theorem rgL_n {a b : Int} : (rgL a b).length = (b - a).toNat := by
  unfold rgL; rw [List.length_map, List.length_range]
theorem in62_of {i : Int} (h : -4611686018427387904 ≤ i) (h' : i < 4611686018427387904) : in62 i := ⟨h, h'⟩
theorem iabs_of {i : Int} : iabs i = i.natAbs := by
  unfold iabs; split <;> omega
theorem iabs_nn {i : Int} : 0 ≤ iabs i := by rw [iabs_of]; omega
theorem mulOk_l {a b : Int} (h : a.natAbs < 2 ^ 64) : mulOk a b := Or.inl (Or.inl h)
theorem mulOk_r {a b : Int} (h : b.natAbs < 2 ^ 64) : mulOk a b := Or.inl (Or.inr h)
theorem log2_lt {n k : Nat} (h : n < 2 ^ k) (hk : 0 < k) : n.log2 < k := by
  by_cases hz : n = 0
  · subst hz; simpa using hk
  · exact (Nat.log2_lt hz).mpr h
theorem log9 {i : Int} (h0 : -1000000000000000000000 ≤ i) (h : i ≤ 1000000000000000000000) : i.natAbs.log2 < 9000 :=
  Nat.lt_of_lt_of_le (log2_lt (k := 80) (by have : (1000000000000000000000:Nat) < 2 ^ 80 := by decide
                                            omega) (by decide)) (by decide)
end Mini
end
section
set_option Elab.async false
set_option linter.all false
set_option maxRecDepth 100000
/-! plain numbers: factorials, tops. -/
namespace Mini
open PySem

def fac : Nat → Nat
  | 0 => 1
  | n + 1 => fac n * (n + 1)
theorem fac_pos : ∀ n, 0 < fac n
  | 0 => Nat.one_pos
  | n + 1 => Nat.mul_pos (fac_pos n) (Nat.succ_pos n)
theorem dvd_fac : ∀ {n m : Nat}, 0 < m → m ≤ n → m ∣ fac n
  | 0, m, h0, h => by omega
  | n + 1, m, h0, h => by
    by_cases e : m = n + 1
    · subst e; exact Nat.dvd_mul_left _ _
    · exact Nat.dvd_trans (dvd_fac h0 (by omega)) (Nat.dvd_mul_right _ _)
/-- the modulus at place k -/
def topN (m k : Nat) : Nat := m / Nat.gcd m (fac k)
theorem topN_zero {m : Nat} : topN m 0 = m := by
  unfold topN fac; rw [Nat.gcd_one_right, Nat.div_one]
theorem topN_succ {m : Nat} (hm : 0 < m) (k : Nat) : topN m k / Nat.gcd (topN m k) (k + 1) = topN m (k + 1) := by
  unfold topN
  have hg : 0 < Nat.gcd m (fac k) := Nat.gcd_pos_of_pos_left _ hm
  have hc := Nat.coprime_div_gcd_div_gcd hg
  obtain ⟨l, hl⟩ := Nat.gcd_dvd_left m (fac k)
  obtain ⟨f, hf⟩ := Nat.gcd_dvd_right m (fac k)
  generalize hgg : Nat.gcd m (fac k) = g at *
  have e1 : m / g = l := by rw [hl]; exact Nat.mul_div_cancel_left _ hg
  have e2 : fac k / g = f := by rw [hf]; exact Nat.mul_div_cancel_left _ hg
  rw [e1, e2] at hc
  rw [e1]
  have : Nat.gcd m (fac (k + 1)) = g * Nat.gcd l (k + 1) := by
    show Nat.gcd m (fac k * (k + 1)) = _
    rw [hf, hl, Nat.mul_assoc, Nat.gcd_mul_left, Nat.Coprime.gcd_mul_left_cancel_right _ hc.symm]
  rw [this, ← Nat.div_div_eq_div_mul, e1]
theorem topN_pos {m : Nat} (hm : 0 < m) (k : Nat) : 0 < topN m k :=
  Nat.div_pos (Nat.gcd_le_left _ hm) (Nat.gcd_pos_of_pos_left _ hm)
theorem topN_le {m : Nat} (k : Nat) : topN m k ≤ m := Nat.div_le_self _ _
theorem topN_one {m : Nat} (hm : 0 < m) (k : Nat) : topN m k ≤ 1 ↔ m ∣ fac k := by
  constructor
  · intro h
    have hp := topN_pos hm k
    have : topN m k = 1 := by omega
    have hd := Nat.div_mul_cancel (Nat.gcd_dvd_left m (fac k))
    rw [show m / Nat.gcd m (fac k) = 1 from this, Nat.one_mul] at hd
    exact Nat.gcd_eq_left_iff_dvd.mp hd
  · intro h
    unfold topN
    rw [Nat.gcd_eq_left h, Nat.div_self hm]
    exact Nat.le_refl _
def topsL (m n : Nat) : List PyData := (List.range n).map fun k => .int (topN m k)
theorem topsL_succ (m n : Nat) : topsL m (n + 1) = topsL m n ++ [.int (topN m n)] := by
  unfold topsL; rw [List.range_succ, List.map_append]; rfl
theorem topsL_len {m n : Nat} : (topsL m n).length = n := by
  unfold topsL; rw [List.length_map, List.length_range]
theorem topsL_get {m n k : Nat} (h : k < n) : (topsL m n)[k]? = some (.int (topN m k)) := by
  unfold topsL; rw [List.getElem?_map, List.getElem?_range h]; rfl
/-- the first place where the factorial is nought -/
def IsHigh (m n : Nat) : Prop := m ∣ fac n ∧ ∀ j, j < n → ¬ m ∣ fac j
theorem high_uniq {m a b : Nat} (h : IsHigh m a) (h' : IsHigh m b) : a = b := by
  rcases Nat.lt_trichotomy a b with z | z | z
  · exact absurd h.1 (h'.2 a z)
  · exact z
  · exact absurd h'.1 (h.2 b z)
theorem gcd_step {x y : Int} (h1 : 0 ≤ x) (h2 : 0 < y) : Int.gcd y (x % y) = Int.gcd x y := by
  rw [Int.gcd_comm x y]
  have hx : ((x.toNat : Nat) : Int) = x := Int.toNat_of_nonneg h1
  have hy : ((y.toNat : Nat) : Int) = y := Int.toNat_of_nonneg (by omega)
  rw [← hx, ← hy, ← Int.natCast_emod]
  simp only [Int.gcd_natCast_natCast]
  exact (Nat.gcd_comm _ _).trans (Nat.gcd_rec _ _).symm
end Mini
end
section
set_option Elab.async false
set_option linter.all false
set_option maxRecDepth 100000
/-! Mini: comprehensions by an invariant. -/
namespace Mini
open PySem
section
variable {T : List MF} {k : Nat} {E : ME}
theorem lc_iv {elt : MX} {tg : MTg} {it : MI} {cond : MXs} {own : List (String × Nat)} {e : MEnv} {h : MH} {Q : MQ}
    (q : wI (wF T k) E it e h fun xs g h1 => ∃ I : Nat → MH → List PyData → Prop, I 0 h1 [] ∧ (∀ i h acc, I i h acc → h.length = h1.length) ∧
      (∀ i x h acc, xs[i]? = some x → I i h acc → gdOk g (h ++ [acc]) ∧ tgW tg x (wipeE e own) fun e1 => wT (wF T k) cond e1 (h ++ [acc]) fun t h2 =>
        if t then wX (wF T k) (fun _ _ => False) elt e1 h2 fun v h3 => (match v with | .d y => acc.length < 16777216 ∧ ∃ h', h3.take (h1.length + 1) = h' ++ [acc] ∧ I (i + 1) h' (acc ++ [y]) | _ => False) else ∃ h', h2.take (h1.length + 1) = h' ++ [acc] ∧ I (i + 1) h' acc) ∧
      ∀ h acc, I xs.length h acc → gdOk g (h ++ [acc]) ∧ Q (.r h1.length) (h ++ [acc])) : wX (wF T k) E (.lc elt tg it cond own) e h Q := by
  unfold wX
  refine wI_mono (wF_mono T k) (fun _ _ z => z) it e h ?_ q
  rintro xs g h1 ⟨I, i0, hl, step, fin⟩
  have go : ∀ (l : List PyData) (i : Nat) (hh : MH) (acc : List PyData), xs.drop i = l → i ≤ xs.length → I i hh acc → lcN h1.length tg g (fun e1 h2 K => wT (wF T k) cond e1 h2 K) (fun e1 h2 Q' => wX (wF T k) (fun _ _ => False) elt e1 h2 Q') (wipeE e own) (fun h2 => Q (.r h1.length) h2) l (hh ++ [acc]) := by
    intro l
    induction l with
    | nil =>
      intro i hh acc hl' hi ii
      have : i = xs.length := by
        have := congrArg List.length hl'
        rw [List.length_drop, List.length_nil] at this
        omega
      subst this
      unfold lcN
      exact fin _ _ ii
    | cons x l ih =>
      intro i hh acc hl' hi ii
      have hlt : i < xs.length := by
        have := congrArg List.length hl'
        rw [List.length_drop, List.length_cons] at this
        omega
      rw [List.drop_eq_getElem_cons hlt] at hl'
      have hx : xs[i]? = some x := by rw [List.getElem?_eq_getElem hlt, (List.cons.inj hl').1]
      obtain ⟨q1, q2⟩ := step i x hh acc hx ii
      unfold lcN
      refine ⟨q1, tgW_mono (fun e1 => wT_mono (wF_mono T k) cond e1 _ (fun t h2 => ?_)) q2⟩
      cases t with
      | false =>
        show (∃ h', _ ∧ _) → lcN _ _ _ _ _ _ _ _ _
        rintro ⟨h', e1, i1⟩
        rw [e1]
        exact ih (i + 1) h' acc (List.cons.inj hl').2 hlt i1
      | true =>
        show wX _ _ _ _ _ _ → wX _ _ _ _ _ _
        refine wX_mono (wF_mono T k) (fun _ _ z => z) elt _ _ fun v h3 => ?_
        cases v with
        | d y =>
          rintro ⟨la, h', e1, i1⟩
          show cellW _ _ _
          have l1 := hl _ _ _ i1
          have eg : h3[h1.length]? = some acc := by
            have : (h3.take (h1.length + 1))[h1.length]? = h3[h1.length]? := List.getElem?_take_of_lt (Nat.lt_succ_self _)
            rw [← this, e1, List.getElem?_append_right (by omega), l1, Nat.sub_self]; rfl
          refine cell_at eg ⟨la, ?_⟩
          have : (h3.set h1.length (acc ++ [y])).take (h1.length + 1) = h' ++ [acc ++ [y]] := by
            rw [List.take_set, e1, List.set_append_right _ _ (by omega), l1, Nat.sub_self]; rfl
          rw [this]
          exact ih (i + 1) h' _ (List.cons.inj hl').2 hlt i1
        | r _ => exact id
        | s _ => exact id
        | m _ => exact id
  exact go xs 0 h1 [] List.drop_zero (Nat.zero_le _) i0
/-- a comprehension that leaves the heap as it is -/
theorem lc_pure {elt : MX} {tg : MTg} {it : MI} {cond : MXs} {own : List (String × Nat)} {e : MEnv} {h : MH} {Q : MQ} (F : PyData → Option PyData)
    (q : wI (wF T k) E it e h fun xs g h1 => xs.length ≤ 16777216 ∧ (∀ acc, gdOk g (h1 ++ [acc])) ∧
      (∀ x, x ∈ xs → ∀ acc, tgW tg x (wipeE e own) fun e1 => wT (wF T k) cond e1 (h1 ++ [acc]) fun t h2 =>
        if t then wX (wF T k) (fun _ _ => False) elt e1 h2 fun v h3 => (match v with | .d y => h3.take (h1.length + 1) = h1 ++ [acc] ∧ F x = some y | _ => False) else h2.take (h1.length + 1) = h1 ++ [acc] ∧ F x = none) ∧
      Q (.r h1.length) (h1 ++ [xs.filterMap F])) : wX (wF T k) E (.lc elt tg it cond own) e h Q := by
  refine lc_iv ?_
  refine wI_mono (wF_mono T k) (fun _ _ z => z) it e h ?_ q
  rintro xs g h1 ⟨hn, gd, step, fin⟩
  refine ⟨fun i hh acc => hh = h1 ∧ acc = (xs.take i).filterMap F, ⟨rfl, rfl⟩, fun i hh acc z => by rw [z.1], ?_, ?_⟩
  · rintro i x hh acc hx ⟨rfl, rfl⟩
    have hlt := (List.getElem?_eq_some_iff.mp hx).1
    have ht : xs.take (i + 1) = xs.take i ++ [x] := by rw [List.take_add_one, hx]; rfl
    refine ⟨gd _, tgW_mono (fun e1 => wT_mono (wF_mono T k) cond e1 _ (fun t h2 => ?_)) (step x (List.mem_of_getElem? hx) _)⟩
    cases t with
    | false =>
      show (_ ∧ _) → _
      rintro ⟨e1, e2⟩
      refine ⟨_, e1, rfl, ?_⟩
      rw [ht, List.filterMap_append]
      simp [e2]
    | true =>
      show wX _ _ _ _ _ _ → wX _ _ _ _ _ _
      refine wX_mono (wF_mono T k) (fun _ _ z => z) elt _ _ fun v h3 => ?_
      cases v with
      | d y =>
        rintro ⟨e1, e2⟩
        refine ⟨?_, _, e1, rfl, ?_⟩
        · have := List.length_filterMap_le F (xs.take i)
          rw [List.length_take] at this
          omega
        · rw [ht, List.filterMap_append]
          simp [e2]
      | r _ => exact id
      | s _ => exact id
      | m _ => exact id
  · rintro hh acc ⟨rfl, rfl⟩
    rw [List.take_length]
    exact ⟨gd _, fin⟩
end
theorem ite_tt {A B : Prop} : (if true = true then A else B) = A := Eq.trans rfl rfl
theorem ite_ff {A B : Prop} : (if false = true then A else B) = B := Eq.trans rfl rfl
theorem take1 {h : MH} {x : MCell} : (h ++ [x]).take (h.length + 1) = h ++ [x] := List.take_of_length_le (by rw [List.length_append]; exact Nat.le_refl _)
theorem take1' {h g : MH} {x : MCell} (e : h.length = g.length) : (h ++ [x]).take (g.length + 1) = h ++ [x] := by rw [← e]; exact take1
theorem wSeqI_l {xs : List PyData} {K : MK} {f : List PyData → List PyData} {h : MH} : wSeqI (.d (.list xs)) h f K = K (f xs) none h := Eq.trans rfl rfl
theorem wSeqI_t {xs : List PyData} {K : MK} {f : List PyData → List PyData} {h : MH} : wSeqI (.d (.tuple xs)) h f K = K (f xs) none h := Eq.trans rfl rfl
theorem wSeqI_r {i : Nat} {K : MK} {f : List PyData → List PyData} {h : MH} : wSeqI (.r i) h f K = cellW h i fun xs => K (f xs) (some (i, xs)) h := Eq.trans rfl rfl
theorem wSeqI_s {ns : List Int} {K : MK} {f : List PyData → List PyData} {h : MH} : wSeqI (.s ns) h f K = K (f (ns.map .int)) none h := Eq.trans rfl rfl
theorem wLstI_l {xs : List PyData} {K : MK} {f : List PyData → List PyData} {h : MH} : wLstI (.d (.list xs)) h f K = K (f xs) none h := Eq.trans rfl rfl
theorem wLstI_r {i : Nat} {K : MK} {f : List PyData → List PyData} {h : MH} : wLstI (.r i) h f K = cellW h i fun xs => K (f xs) (some (i, xs)) h := Eq.trans rfl rfl
theorem lstW_l {xs : List PyData} {K : List PyData → Prop} {h : MH} : lstW (.d (.list xs)) h K = K xs := Eq.trans rfl rfl
theorem lstW_r {i : Nat} {K : List PyData → Prop} {h : MH} : lstW (.r i) h K = cellW h i K := Eq.trans rfl rfl
theorem seqW_l {xs : List PyData} {K : List PyData → Prop} {h : MH} : seqW (.d (.list xs)) h K = K xs := Eq.trans rfl rfl
theorem seqW_t {xs : List PyData} {K : List PyData → Prop} {h : MH} : seqW (.d (.tuple xs)) h K = K xs := Eq.trans rfl rfl
theorem seqW_r {i : Nat} {K : List PyData → Prop} {h : MH} : seqW (.r i) h K = cellW h i K := Eq.trans rfl rfl
theorem datW_d {x : PyData} {K : PyData → Prop} {h : MH} : datW (.d x) h K = K x := Eq.trans rfl rfl
theorem datW_s {ns : List Int} {K : PyData → Prop} {h : MH} : datW (.s ns) h K = K (.list (ns.map .int)) := Eq.trans rfl rfl
theorem datW_r {i : Nat} {K : PyData → Prop} {h : MH} : datW (.r i) h K = cellW h i fun xs => K (.list xs) := Eq.trans rfl rfl
theorem lenW_s {ns : List Int} {K : Int → Prop} {h : MH} : lenW (.s ns) h K = K ns.length := Eq.trans rfl rfl
theorem lenW_z {z : Str} {K : Int → Prop} {h : MH} : lenW (.d (.str z)) h K = (z.length ≤ 16777216 ∧ K z.length) := Eq.trans rfl rfl
theorem lenW_l {xs : List PyData} {K : Int → Prop} {h : MH} : lenW (.d (.list xs)) h K = K xs.length := Eq.trans rfl rfl
theorem lenW_t {xs : List PyData} {K : Int → Prop} {h : MH} : lenW (.d (.tuple xs)) h K = K xs.length := Eq.trans rfl rfl
theorem lenW_r {i : Nat} {K : Int → Prop} {h : MH} : lenW (.r i) h K = cellW h i fun xs => K xs.length := Eq.trans rfl rfl
theorem wRev_t {xs : List PyData} {Q : MQ} {h : MH} : wRev (.d (.tuple xs)) h Q = Q (.d (.tuple xs.reverse)) h := Eq.trans rfl rfl
theorem wRev_l {xs : List PyData} {Q : MQ} {h : MH} : wRev (.d (.list xs)) h Q = newL xs.reverse h Q := Eq.trans rfl rfl
theorem wRev_r {i : Nat} {Q : MQ} {h : MH} : wRev (.r i) h Q = cellW h i fun xs => newL xs.reverse h Q := Eq.trans rfl rfl
theorem wAlt_t {k : Nat} {xs : List PyData} {Q : MQ} {h : MH} : wAlt k (.d (.tuple xs)) h Q = Q (.d (.tuple (alt (xs.drop k)))) h := Eq.trans rfl rfl
theorem wAlt_l {k : Nat} {xs : List PyData} {Q : MQ} {h : MH} : wAlt k (.d (.list xs)) h Q = newL (alt (xs.drop k)) h Q := Eq.trans rfl rfl
theorem wAlt_r {k i : Nat} {Q : MQ} {h : MH} : wAlt k (.r i) h Q = cellW h i fun xs => newL (alt (xs.drop k)) h Q := Eq.trans rfl rfl
theorem wTru_n {K : Bool → Prop} {h : MH} : wTru (.d .none) h K = K false := Eq.trans rfl rfl
theorem wTru_b {b : Bool} {K : Bool → Prop} {h : MH} : wTru (.d (.bool b)) h K = K b := Eq.trans rfl rfl
theorem wTru_i {i : Int} {K : Bool → Prop} {h : MH} : wTru (.d (.int i)) h K = K (i != 0) := Eq.trans rfl rfl
theorem wTru_z {s : Str} {K : Bool → Prop} {h : MH} : wTru (.d (.str s)) h K = (s.length ≤ 16777216 ∧ K ((s.length : Int) != 0)) := Eq.trans rfl rfl
theorem wTru_l {xs : List PyData} {K : Bool → Prop} {h : MH} : wTru (.d (.list xs)) h K = K (!xs.isEmpty) := Eq.trans rfl rfl
theorem wTru_t {xs : List PyData} {K : Bool → Prop} {h : MH} : wTru (.d (.tuple xs)) h K = K (!xs.isEmpty) := Eq.trans rfl rfl
theorem wTru_r {i : Nat} {K : Bool → Prop} {h : MH} : wTru (.r i) h K = cellW h i fun xs => K (!xs.isEmpty) := Eq.trans rfl rfl
theorem wIx_s {ns : List Int} {i : Int} {Q : MQ} {h : MH} : wIx (.s ns) (.d (.int i)) h Q = (match L2.atI ns i with | some v => Q (.d (.int v)) h | none => False) := Eq.trans rfl rfl
theorem wIx_z {z : Str} {i : Int} {Q : MQ} {h : MH} : wIx (.d (.str z)) (.d (.int i)) h Q = (z.length ≤ 16777216 ∧ (match L2.atI z.cps.toList i with | some c => Q (.d (.str ⟨#[c]⟩)) h | none => False)) := Eq.trans rfl rfl
theorem wIx_l {xs : List PyData} {i : Int} {Q : MQ} {h : MH} : wIx (.d (.list xs)) (.d (.int i)) h Q = atW xs i fun v => Q (.d v) h := Eq.trans rfl rfl
theorem wIx_t {xs : List PyData} {i : Int} {Q : MQ} {h : MH} : wIx (.d (.tuple xs)) (.d (.int i)) h Q = atW xs i fun v => Q (.d v) h := Eq.trans rfl rfl
theorem wIx_r {j : Nat} {i : Int} {Q : MQ} {h : MH} : wIx (.r j) (.d (.int i)) h Q = cellW h j fun xs => atW xs i fun v => Q (.d v) h := Eq.trans rfl rfl
theorem wSl_t {xs : List PyData} {lo hi : Option Int} {Q : MQ} {h : MH} : wSl (.d (.tuple xs)) lo hi h Q = Q (.d (.tuple (cutD xs lo hi))) h := Eq.trans rfl rfl
theorem wSl_l {xs : List PyData} {lo hi : Option Int} {Q : MQ} {h : MH} : wSl (.d (.list xs)) lo hi h Q = newL (cutD xs lo hi) h Q := Eq.trans rfl rfl
theorem wSl_r {i : Nat} {lo hi : Option Int} {Q : MQ} {h : MH} : wSl (.r i) lo hi h Q = cellW h i fun xs => newL (cutD xs lo hi) h Q := Eq.trans rfl rfl
theorem wAdd_ii {a b : Int} {h : MH} {Q : MQ} : wBin .add (.d (.int a)) (.d (.int b)) h Q = Q (.d (.int (a + b))) h := Eq.trans rfl rfl
theorem wAdd_tt {a b : List PyData} {h : MH} {Q : MQ} : wBin .add (.d (.tuple a)) (.d (.tuple b)) h Q = (a.length + b.length ≤ 16777216 ∧ Q (.d (.tuple (a ++ b))) h) := Eq.trans rfl rfl
theorem wAdd_zz {a b : Str} {h : MH} {Q : MQ} : wBin .add (.d (.str a)) (.d (.str b)) h Q = (a.length + b.length ≤ 16777216 ∧ Q (.d (.str (a ++ b))) h) := Eq.trans rfl rfl
theorem wAdd_ll {a b : List PyData} {h : MH} {Q : MQ} : wBin .add (.d (.list a)) (.d (.list b)) h Q = (a.length + b.length ≤ 16777216 ∧ newL (a ++ b) h Q) := Eq.trans rfl rfl
theorem wAdd_lr {a : List PyData} {j : Nat} {h : MH} {Q : MQ} : wBin .add (.d (.list a)) (.r j) h Q = cellW h j fun b => a.length + b.length ≤ 16777216 ∧ newL (a ++ b) h Q := Eq.trans rfl rfl
theorem wAdd_rl {b : List PyData} {i : Nat} {h : MH} {Q : MQ} : wBin .add (.r i) (.d (.list b)) h Q = cellW h i fun a => a.length + b.length ≤ 16777216 ∧ newL (a ++ b) h Q := Eq.trans rfl rfl
theorem wAdd_rr {i j : Nat} {h : MH} {Q : MQ} : wBin .add (.r i) (.r j) h Q = cellW h i fun a => cellW h j fun b => a.length + b.length ≤ 16777216 ∧ newL (a ++ b) h Q := Eq.trans rfl rfl
theorem wMul_ii {a b : Int} {h : MH} {Q : MQ} : wBin .mul (.d (.int a)) (.d (.int b)) h Q = (mulOk a b ∧ Q (.d (.int (a * b))) h) := Eq.trans rfl rfl
theorem wMul_li {a : List PyData} {k : Int} {h : MH} {Q : MQ} : wBin .mul (.d (.list a)) (.d (.int k)) h Q = (repOk a.length k ∧ newL (rep k a) h Q) := Eq.trans rfl rfl
theorem wMul_ti {a : List PyData} {k : Int} {h : MH} {Q : MQ} : wBin .mul (.d (.tuple a)) (.d (.int k)) h Q = ((a ≠ [] ∧ -1000000 ≤ k ∧ k ≤ 1000 ∧ a.length ≤ 1000) ∧ Q (.d (.tuple (rep k a))) h) := Eq.trans rfl rfl
theorem wSub_ii {a b : Int} {h : MH} {Q : MQ} : wBin .sub (.d (.int a)) (.d (.int b)) h Q = Q (.d (.int (a - b))) h := Eq.trans rfl rfl
theorem wFdv_ii {a b : Int} {h : MH} {Q : MQ} : wBin .fdiv (.d (.int a)) (.d (.int b)) h Q = ((0 < b ∧ b.natAbs.log2 < 9000) ∧ Q (.d (.int (a / b))) h) := Eq.trans rfl rfl
theorem wMod_ii {a b : Int} {h : MH} {Q : MQ} : wBin .mod (.d (.int a)) (.d (.int b)) h Q = (0 < b ∧ Q (.d (.int (a % b))) h) := Eq.trans rfl rfl
theorem wPow_ii {a b : Int} {h : MH} {Q : MQ} : wBin .pow (.d (.int a)) (.d (.int b)) h Q = ((0 ≤ b ∧ b ≤ 1000000 ∧ a.natAbs < 2 ^ 64) ∧ Q (.d (.int (a ^ b.toNat))) h) := Eq.trans rfl rfl
theorem wNeg_i {a : Int} {h : MH} {Q : MQ} : wNeg (.d (.int a)) h Q = Q (.d (.int (-a))) h := Eq.trans rfl rfl
theorem wEq_ii {a b : Int} {h : MH} {K : Bool → Prop} : wCmp .eq (.d (.int a)) (.d (.int b)) h K = K (decide (a = b)) := Eq.trans rfl rfl
theorem wEq_zz {a b : Str} {h : MH} {K : Bool → Prop} : wCmp .eq (.d (.str a)) (.d (.str b)) h K = K (decide (a = b)) := Eq.trans rfl rfl
theorem wEq_nn {h : MH} {K : Bool → Prop} : wCmp .eq (.d .none) (.d .none) h K = datW (.d .none) h fun a => datW (.d .none) h fun b => (SeqAt.shaped a = true ∧ SeqAt.shaped b = true) ∧ K (PyData.eqv a b) := Eq.trans rfl rfl
theorem wEq_nb {b : Bool} {h : MH} {K : Bool → Prop} : wCmp .eq (.d .none) (.d (.bool b)) h K = datW (.d .none) h fun a => datW (.d (.bool b)) h fun b => (SeqAt.shaped a = true ∧ SeqAt.shaped b = true) ∧ K (PyData.eqv a b) := Eq.trans rfl rfl
theorem wEq_ni {b : Int} {h : MH} {K : Bool → Prop} : wCmp .eq (.d .none) (.d (.int b)) h K = datW (.d .none) h fun a => datW (.d (.int b)) h fun b => (SeqAt.shaped a = true ∧ SeqAt.shaped b = true) ∧ K (PyData.eqv a b) := Eq.trans rfl rfl
theorem wEq_nz {b : Str} {h : MH} {K : Bool → Prop} : wCmp .eq (.d .none) (.d (.str b)) h K = datW (.d .none) h fun a => datW (.d (.str b)) h fun b => (SeqAt.shaped a = true ∧ SeqAt.shaped b = true) ∧ K (PyData.eqv a b) := Eq.trans rfl rfl
theorem wEq_nl {b : List PyData} {h : MH} {K : Bool → Prop} : wCmp .eq (.d .none) (.d (.list b)) h K = datW (.d .none) h fun a => datW (.d (.list b)) h fun b => (SeqAt.shaped a = true ∧ SeqAt.shaped b = true) ∧ K (PyData.eqv a b) := Eq.trans rfl rfl
theorem wEq_nt {b : List PyData} {h : MH} {K : Bool → Prop} : wCmp .eq (.d .none) (.d (.tuple b)) h K = datW (.d .none) h fun a => datW (.d (.tuple b)) h fun b => (SeqAt.shaped a = true ∧ SeqAt.shaped b = true) ∧ K (PyData.eqv a b) := Eq.trans rfl rfl
theorem wEq_nr {b : Nat} {h : MH} {K : Bool → Prop} : wCmp .eq (.d .none) (.r b) h K = datW (.d .none) h fun a => datW (.r b) h fun b => (SeqAt.shaped a = true ∧ SeqAt.shaped b = true) ∧ K (PyData.eqv a b) := Eq.trans rfl rfl
theorem wEq_bn {a : Bool} {h : MH} {K : Bool → Prop} : wCmp .eq (.d (.bool a)) (.d .none) h K = datW (.d (.bool a)) h fun a => datW (.d .none) h fun b => (SeqAt.shaped a = true ∧ SeqAt.shaped b = true) ∧ K (PyData.eqv a b) := Eq.trans rfl rfl
theorem wEq_bb {a : Bool} {b : Bool} {h : MH} {K : Bool → Prop} : wCmp .eq (.d (.bool a)) (.d (.bool b)) h K = datW (.d (.bool a)) h fun a => datW (.d (.bool b)) h fun b => (SeqAt.shaped a = true ∧ SeqAt.shaped b = true) ∧ K (PyData.eqv a b) := Eq.trans rfl rfl
theorem wEq_bi {a : Bool} {b : Int} {h : MH} {K : Bool → Prop} : wCmp .eq (.d (.bool a)) (.d (.int b)) h K = datW (.d (.bool a)) h fun a => datW (.d (.int b)) h fun b => (SeqAt.shaped a = true ∧ SeqAt.shaped b = true) ∧ K (PyData.eqv a b) := Eq.trans rfl rfl
theorem wEq_bz {a : Bool} {b : Str} {h : MH} {K : Bool → Prop} : wCmp .eq (.d (.bool a)) (.d (.str b)) h K = datW (.d (.bool a)) h fun a => datW (.d (.str b)) h fun b => (SeqAt.shaped a = true ∧ SeqAt.shaped b = true) ∧ K (PyData.eqv a b) := Eq.trans rfl rfl
theorem wEq_bl {a : Bool} {b : List PyData} {h : MH} {K : Bool → Prop} : wCmp .eq (.d (.bool a)) (.d (.list b)) h K = datW (.d (.bool a)) h fun a => datW (.d (.list b)) h fun b => (SeqAt.shaped a = true ∧ SeqAt.shaped b = true) ∧ K (PyData.eqv a b) := Eq.trans rfl rfl
theorem wEq_bt {a : Bool} {b : List PyData} {h : MH} {K : Bool → Prop} : wCmp .eq (.d (.bool a)) (.d (.tuple b)) h K = datW (.d (.bool a)) h fun a => datW (.d (.tuple b)) h fun b => (SeqAt.shaped a = true ∧ SeqAt.shaped b = true) ∧ K (PyData.eqv a b) := Eq.trans rfl rfl
theorem wEq_br {a : Bool} {b : Nat} {h : MH} {K : Bool → Prop} : wCmp .eq (.d (.bool a)) (.r b) h K = datW (.d (.bool a)) h fun a => datW (.r b) h fun b => (SeqAt.shaped a = true ∧ SeqAt.shaped b = true) ∧ K (PyData.eqv a b) := Eq.trans rfl rfl
theorem wEq_in {a : Int} {h : MH} {K : Bool → Prop} : wCmp .eq (.d (.int a)) (.d .none) h K = datW (.d (.int a)) h fun a => datW (.d .none) h fun b => (SeqAt.shaped a = true ∧ SeqAt.shaped b = true) ∧ K (PyData.eqv a b) := Eq.trans rfl rfl
theorem wEq_ib {a : Int} {b : Bool} {h : MH} {K : Bool → Prop} : wCmp .eq (.d (.int a)) (.d (.bool b)) h K = datW (.d (.int a)) h fun a => datW (.d (.bool b)) h fun b => (SeqAt.shaped a = true ∧ SeqAt.shaped b = true) ∧ K (PyData.eqv a b) := Eq.trans rfl rfl
theorem wEq_iz {a : Int} {b : Str} {h : MH} {K : Bool → Prop} : wCmp .eq (.d (.int a)) (.d (.str b)) h K = datW (.d (.int a)) h fun a => datW (.d (.str b)) h fun b => (SeqAt.shaped a = true ∧ SeqAt.shaped b = true) ∧ K (PyData.eqv a b) := Eq.trans rfl rfl
theorem wEq_il {a : Int} {b : List PyData} {h : MH} {K : Bool → Prop} : wCmp .eq (.d (.int a)) (.d (.list b)) h K = datW (.d (.int a)) h fun a => datW (.d (.list b)) h fun b => (SeqAt.shaped a = true ∧ SeqAt.shaped b = true) ∧ K (PyData.eqv a b) := Eq.trans rfl rfl
theorem wEq_it {a : Int} {b : List PyData} {h : MH} {K : Bool → Prop} : wCmp .eq (.d (.int a)) (.d (.tuple b)) h K = datW (.d (.int a)) h fun a => datW (.d (.tuple b)) h fun b => (SeqAt.shaped a = true ∧ SeqAt.shaped b = true) ∧ K (PyData.eqv a b) := Eq.trans rfl rfl
theorem wEq_ir {a : Int} {b : Nat} {h : MH} {K : Bool → Prop} : wCmp .eq (.d (.int a)) (.r b) h K = datW (.d (.int a)) h fun a => datW (.r b) h fun b => (SeqAt.shaped a = true ∧ SeqAt.shaped b = true) ∧ K (PyData.eqv a b) := Eq.trans rfl rfl
theorem wEq_zn {a : Str} {h : MH} {K : Bool → Prop} : wCmp .eq (.d (.str a)) (.d .none) h K = datW (.d (.str a)) h fun a => datW (.d .none) h fun b => (SeqAt.shaped a = true ∧ SeqAt.shaped b = true) ∧ K (PyData.eqv a b) := Eq.trans rfl rfl
theorem wEq_zb {a : Str} {b : Bool} {h : MH} {K : Bool → Prop} : wCmp .eq (.d (.str a)) (.d (.bool b)) h K = datW (.d (.str a)) h fun a => datW (.d (.bool b)) h fun b => (SeqAt.shaped a = true ∧ SeqAt.shaped b = true) ∧ K (PyData.eqv a b) := Eq.trans rfl rfl
theorem wEq_zi {a : Str} {b : Int} {h : MH} {K : Bool → Prop} : wCmp .eq (.d (.str a)) (.d (.int b)) h K = datW (.d (.str a)) h fun a => datW (.d (.int b)) h fun b => (SeqAt.shaped a = true ∧ SeqAt.shaped b = true) ∧ K (PyData.eqv a b) := Eq.trans rfl rfl
theorem wEq_zl {a : Str} {b : List PyData} {h : MH} {K : Bool → Prop} : wCmp .eq (.d (.str a)) (.d (.list b)) h K = datW (.d (.str a)) h fun a => datW (.d (.list b)) h fun b => (SeqAt.shaped a = true ∧ SeqAt.shaped b = true) ∧ K (PyData.eqv a b) := Eq.trans rfl rfl
theorem wEq_zt {a : Str} {b : List PyData} {h : MH} {K : Bool → Prop} : wCmp .eq (.d (.str a)) (.d (.tuple b)) h K = datW (.d (.str a)) h fun a => datW (.d (.tuple b)) h fun b => (SeqAt.shaped a = true ∧ SeqAt.shaped b = true) ∧ K (PyData.eqv a b) := Eq.trans rfl rfl
theorem wEq_zr {a : Str} {b : Nat} {h : MH} {K : Bool → Prop} : wCmp .eq (.d (.str a)) (.r b) h K = datW (.d (.str a)) h fun a => datW (.r b) h fun b => (SeqAt.shaped a = true ∧ SeqAt.shaped b = true) ∧ K (PyData.eqv a b) := Eq.trans rfl rfl
theorem wEq_ln {a : List PyData} {h : MH} {K : Bool → Prop} : wCmp .eq (.d (.list a)) (.d .none) h K = datW (.d (.list a)) h fun a => datW (.d .none) h fun b => (SeqAt.shaped a = true ∧ SeqAt.shaped b = true) ∧ K (PyData.eqv a b) := Eq.trans rfl rfl
theorem wEq_lb {a : List PyData} {b : Bool} {h : MH} {K : Bool → Prop} : wCmp .eq (.d (.list a)) (.d (.bool b)) h K = datW (.d (.list a)) h fun a => datW (.d (.bool b)) h fun b => (SeqAt.shaped a = true ∧ SeqAt.shaped b = true) ∧ K (PyData.eqv a b) := Eq.trans rfl rfl
theorem wEq_li {a : List PyData} {b : Int} {h : MH} {K : Bool → Prop} : wCmp .eq (.d (.list a)) (.d (.int b)) h K = datW (.d (.list a)) h fun a => datW (.d (.int b)) h fun b => (SeqAt.shaped a = true ∧ SeqAt.shaped b = true) ∧ K (PyData.eqv a b) := Eq.trans rfl rfl
theorem wEq_lz {a : List PyData} {b : Str} {h : MH} {K : Bool → Prop} : wCmp .eq (.d (.list a)) (.d (.str b)) h K = datW (.d (.list a)) h fun a => datW (.d (.str b)) h fun b => (SeqAt.shaped a = true ∧ SeqAt.shaped b = true) ∧ K (PyData.eqv a b) := Eq.trans rfl rfl
theorem wEq_ll {a : List PyData} {b : List PyData} {h : MH} {K : Bool → Prop} : wCmp .eq (.d (.list a)) (.d (.list b)) h K = datW (.d (.list a)) h fun a => datW (.d (.list b)) h fun b => (SeqAt.shaped a = true ∧ SeqAt.shaped b = true) ∧ K (PyData.eqv a b) := Eq.trans rfl rfl
theorem wEq_lt {a : List PyData} {b : List PyData} {h : MH} {K : Bool → Prop} : wCmp .eq (.d (.list a)) (.d (.tuple b)) h K = datW (.d (.list a)) h fun a => datW (.d (.tuple b)) h fun b => (SeqAt.shaped a = true ∧ SeqAt.shaped b = true) ∧ K (PyData.eqv a b) := Eq.trans rfl rfl
theorem wEq_lr {a : List PyData} {b : Nat} {h : MH} {K : Bool → Prop} : wCmp .eq (.d (.list a)) (.r b) h K = datW (.d (.list a)) h fun a => datW (.r b) h fun b => (SeqAt.shaped a = true ∧ SeqAt.shaped b = true) ∧ K (PyData.eqv a b) := Eq.trans rfl rfl
theorem wEq_tn {a : List PyData} {h : MH} {K : Bool → Prop} : wCmp .eq (.d (.tuple a)) (.d .none) h K = datW (.d (.tuple a)) h fun a => datW (.d .none) h fun b => (SeqAt.shaped a = true ∧ SeqAt.shaped b = true) ∧ K (PyData.eqv a b) := Eq.trans rfl rfl
theorem wEq_tb {a : List PyData} {b : Bool} {h : MH} {K : Bool → Prop} : wCmp .eq (.d (.tuple a)) (.d (.bool b)) h K = datW (.d (.tuple a)) h fun a => datW (.d (.bool b)) h fun b => (SeqAt.shaped a = true ∧ SeqAt.shaped b = true) ∧ K (PyData.eqv a b) := Eq.trans rfl rfl
theorem wEq_ti {a : List PyData} {b : Int} {h : MH} {K : Bool → Prop} : wCmp .eq (.d (.tuple a)) (.d (.int b)) h K = datW (.d (.tuple a)) h fun a => datW (.d (.int b)) h fun b => (SeqAt.shaped a = true ∧ SeqAt.shaped b = true) ∧ K (PyData.eqv a b) := Eq.trans rfl rfl
theorem wEq_tz {a : List PyData} {b : Str} {h : MH} {K : Bool → Prop} : wCmp .eq (.d (.tuple a)) (.d (.str b)) h K = datW (.d (.tuple a)) h fun a => datW (.d (.str b)) h fun b => (SeqAt.shaped a = true ∧ SeqAt.shaped b = true) ∧ K (PyData.eqv a b) := Eq.trans rfl rfl
theorem wEq_tl {a : List PyData} {b : List PyData} {h : MH} {K : Bool → Prop} : wCmp .eq (.d (.tuple a)) (.d (.list b)) h K = datW (.d (.tuple a)) h fun a => datW (.d (.list b)) h fun b => (SeqAt.shaped a = true ∧ SeqAt.shaped b = true) ∧ K (PyData.eqv a b) := Eq.trans rfl rfl
theorem wEq_tt {a : List PyData} {b : List PyData} {h : MH} {K : Bool → Prop} : wCmp .eq (.d (.tuple a)) (.d (.tuple b)) h K = datW (.d (.tuple a)) h fun a => datW (.d (.tuple b)) h fun b => (SeqAt.shaped a = true ∧ SeqAt.shaped b = true) ∧ K (PyData.eqv a b) := Eq.trans rfl rfl
theorem wEq_tr {a : List PyData} {b : Nat} {h : MH} {K : Bool → Prop} : wCmp .eq (.d (.tuple a)) (.r b) h K = datW (.d (.tuple a)) h fun a => datW (.r b) h fun b => (SeqAt.shaped a = true ∧ SeqAt.shaped b = true) ∧ K (PyData.eqv a b) := Eq.trans rfl rfl
theorem wEq_rn {a : Nat} {h : MH} {K : Bool → Prop} : wCmp .eq (.r a) (.d .none) h K = datW (.r a) h fun a => datW (.d .none) h fun b => (SeqAt.shaped a = true ∧ SeqAt.shaped b = true) ∧ K (PyData.eqv a b) := Eq.trans rfl rfl
theorem wEq_rb {a : Nat} {b : Bool} {h : MH} {K : Bool → Prop} : wCmp .eq (.r a) (.d (.bool b)) h K = datW (.r a) h fun a => datW (.d (.bool b)) h fun b => (SeqAt.shaped a = true ∧ SeqAt.shaped b = true) ∧ K (PyData.eqv a b) := Eq.trans rfl rfl
theorem wEq_ri {a : Nat} {b : Int} {h : MH} {K : Bool → Prop} : wCmp .eq (.r a) (.d (.int b)) h K = datW (.r a) h fun a => datW (.d (.int b)) h fun b => (SeqAt.shaped a = true ∧ SeqAt.shaped b = true) ∧ K (PyData.eqv a b) := Eq.trans rfl rfl
theorem wEq_rz {a : Nat} {b : Str} {h : MH} {K : Bool → Prop} : wCmp .eq (.r a) (.d (.str b)) h K = datW (.r a) h fun a => datW (.d (.str b)) h fun b => (SeqAt.shaped a = true ∧ SeqAt.shaped b = true) ∧ K (PyData.eqv a b) := Eq.trans rfl rfl
theorem wEq_sl {a : List Int} {b : List PyData} {h : MH} {K : Bool → Prop} : wCmp .eq (.s a) (.d (.list b)) h K = datW (.s a) h fun a => datW (.d (.list b)) h fun b => (SeqAt.shaped a = true ∧ SeqAt.shaped b = true) ∧ K (PyData.eqv a b) := Eq.trans rfl rfl
theorem wEq_rl {a : Nat} {b : List PyData} {h : MH} {K : Bool → Prop} : wCmp .eq (.r a) (.d (.list b)) h K = datW (.r a) h fun a => datW (.d (.list b)) h fun b => (SeqAt.shaped a = true ∧ SeqAt.shaped b = true) ∧ K (PyData.eqv a b) := Eq.trans rfl rfl
theorem wEq_rt {a : Nat} {b : List PyData} {h : MH} {K : Bool → Prop} : wCmp .eq (.r a) (.d (.tuple b)) h K = datW (.r a) h fun a => datW (.d (.tuple b)) h fun b => (SeqAt.shaped a = true ∧ SeqAt.shaped b = true) ∧ K (PyData.eqv a b) := Eq.trans rfl rfl
theorem wEq_rr {a : Nat} {b : Nat} {h : MH} {K : Bool → Prop} : wCmp .eq (.r a) (.r b) h K = datW (.r a) h fun a => datW (.r b) h fun b => (SeqAt.shaped a = true ∧ SeqAt.shaped b = true) ∧ K (PyData.eqv a b) := Eq.trans rfl rfl
theorem wNe_ii {a b : Int} {h : MH} {K : Bool → Prop} : wCmp .ne (.d (.int a)) (.d (.int b)) h K = K (!decide (a = b)) := Eq.trans rfl rfl
theorem wNe_zz {a b : Str} {h : MH} {K : Bool → Prop} : wCmp .ne (.d (.str a)) (.d (.str b)) h K = K (!decide (a = b)) := Eq.trans rfl rfl
theorem wNe_nn {h : MH} {K : Bool → Prop} : wCmp .ne (.d .none) (.d .none) h K = datW (.d .none) h fun a => datW (.d .none) h fun b => (SeqAt.shaped a = true ∧ SeqAt.shaped b = true) ∧ K (!PyData.eqv a b) := Eq.trans rfl rfl
theorem wNe_nb {b : Bool} {h : MH} {K : Bool → Prop} : wCmp .ne (.d .none) (.d (.bool b)) h K = datW (.d .none) h fun a => datW (.d (.bool b)) h fun b => (SeqAt.shaped a = true ∧ SeqAt.shaped b = true) ∧ K (!PyData.eqv a b) := Eq.trans rfl rfl
theorem wNe_ni {b : Int} {h : MH} {K : Bool → Prop} : wCmp .ne (.d .none) (.d (.int b)) h K = datW (.d .none) h fun a => datW (.d (.int b)) h fun b => (SeqAt.shaped a = true ∧ SeqAt.shaped b = true) ∧ K (!PyData.eqv a b) := Eq.trans rfl rfl
theorem wNe_nz {b : Str} {h : MH} {K : Bool → Prop} : wCmp .ne (.d .none) (.d (.str b)) h K = datW (.d .none) h fun a => datW (.d (.str b)) h fun b => (SeqAt.shaped a = true ∧ SeqAt.shaped b = true) ∧ K (!PyData.eqv a b) := Eq.trans rfl rfl
theorem wNe_nl {b : List PyData} {h : MH} {K : Bool → Prop} : wCmp .ne (.d .none) (.d (.list b)) h K = datW (.d .none) h fun a => datW (.d (.list b)) h fun b => (SeqAt.shaped a = true ∧ SeqAt.shaped b = true) ∧ K (!PyData.eqv a b) := Eq.trans rfl rfl
theorem wNe_nt {b : List PyData} {h : MH} {K : Bool → Prop} : wCmp .ne (.d .none) (.d (.tuple b)) h K = datW (.d .none) h fun a => datW (.d (.tuple b)) h fun b => (SeqAt.shaped a = true ∧ SeqAt.shaped b = true) ∧ K (!PyData.eqv a b) := Eq.trans rfl rfl
theorem wNe_nr {b : Nat} {h : MH} {K : Bool → Prop} : wCmp .ne (.d .none) (.r b) h K = datW (.d .none) h fun a => datW (.r b) h fun b => (SeqAt.shaped a = true ∧ SeqAt.shaped b = true) ∧ K (!PyData.eqv a b) := Eq.trans rfl rfl
theorem wNe_bn {a : Bool} {h : MH} {K : Bool → Prop} : wCmp .ne (.d (.bool a)) (.d .none) h K = datW (.d (.bool a)) h fun a => datW (.d .none) h fun b => (SeqAt.shaped a = true ∧ SeqAt.shaped b = true) ∧ K (!PyData.eqv a b) := Eq.trans rfl rfl
theorem wNe_bb {a : Bool} {b : Bool} {h : MH} {K : Bool → Prop} : wCmp .ne (.d (.bool a)) (.d (.bool b)) h K = datW (.d (.bool a)) h fun a => datW (.d (.bool b)) h fun b => (SeqAt.shaped a = true ∧ SeqAt.shaped b = true) ∧ K (!PyData.eqv a b) := Eq.trans rfl rfl
theorem wNe_bi {a : Bool} {b : Int} {h : MH} {K : Bool → Prop} : wCmp .ne (.d (.bool a)) (.d (.int b)) h K = datW (.d (.bool a)) h fun a => datW (.d (.int b)) h fun b => (SeqAt.shaped a = true ∧ SeqAt.shaped b = true) ∧ K (!PyData.eqv a b) := Eq.trans rfl rfl
theorem wNe_bz {a : Bool} {b : Str} {h : MH} {K : Bool → Prop} : wCmp .ne (.d (.bool a)) (.d (.str b)) h K = datW (.d (.bool a)) h fun a => datW (.d (.str b)) h fun b => (SeqAt.shaped a = true ∧ SeqAt.shaped b = true) ∧ K (!PyData.eqv a b) := Eq.trans rfl rfl
theorem wNe_bl {a : Bool} {b : List PyData} {h : MH} {K : Bool → Prop} : wCmp .ne (.d (.bool a)) (.d (.list b)) h K = datW (.d (.bool a)) h fun a => datW (.d (.list b)) h fun b => (SeqAt.shaped a = true ∧ SeqAt.shaped b = true) ∧ K (!PyData.eqv a b) := Eq.trans rfl rfl
theorem wNe_bt {a : Bool} {b : List PyData} {h : MH} {K : Bool → Prop} : wCmp .ne (.d (.bool a)) (.d (.tuple b)) h K = datW (.d (.bool a)) h fun a => datW (.d (.tuple b)) h fun b => (SeqAt.shaped a = true ∧ SeqAt.shaped b = true) ∧ K (!PyData.eqv a b) := Eq.trans rfl rfl
theorem wNe_br {a : Bool} {b : Nat} {h : MH} {K : Bool → Prop} : wCmp .ne (.d (.bool a)) (.r b) h K = datW (.d (.bool a)) h fun a => datW (.r b) h fun b => (SeqAt.shaped a = true ∧ SeqAt.shaped b = true) ∧ K (!PyData.eqv a b) := Eq.trans rfl rfl
theorem wNe_in {a : Int} {h : MH} {K : Bool → Prop} : wCmp .ne (.d (.int a)) (.d .none) h K = datW (.d (.int a)) h fun a => datW (.d .none) h fun b => (SeqAt.shaped a = true ∧ SeqAt.shaped b = true) ∧ K (!PyData.eqv a b) := Eq.trans rfl rfl
theorem wNe_ib {a : Int} {b : Bool} {h : MH} {K : Bool → Prop} : wCmp .ne (.d (.int a)) (.d (.bool b)) h K = datW (.d (.int a)) h fun a => datW (.d (.bool b)) h fun b => (SeqAt.shaped a = true ∧ SeqAt.shaped b = true) ∧ K (!PyData.eqv a b) := Eq.trans rfl rfl
theorem wNe_iz {a : Int} {b : Str} {h : MH} {K : Bool → Prop} : wCmp .ne (.d (.int a)) (.d (.str b)) h K = datW (.d (.int a)) h fun a => datW (.d (.str b)) h fun b => (SeqAt.shaped a = true ∧ SeqAt.shaped b = true) ∧ K (!PyData.eqv a b) := Eq.trans rfl rfl
theorem wNe_il {a : Int} {b : List PyData} {h : MH} {K : Bool → Prop} : wCmp .ne (.d (.int a)) (.d (.list b)) h K = datW (.d (.int a)) h fun a => datW (.d (.list b)) h fun b => (SeqAt.shaped a = true ∧ SeqAt.shaped b = true) ∧ K (!PyData.eqv a b) := Eq.trans rfl rfl
theorem wNe_it {a : Int} {b : List PyData} {h : MH} {K : Bool → Prop} : wCmp .ne (.d (.int a)) (.d (.tuple b)) h K = datW (.d (.int a)) h fun a => datW (.d (.tuple b)) h fun b => (SeqAt.shaped a = true ∧ SeqAt.shaped b = true) ∧ K (!PyData.eqv a b) := Eq.trans rfl rfl
theorem wNe_ir {a : Int} {b : Nat} {h : MH} {K : Bool → Prop} : wCmp .ne (.d (.int a)) (.r b) h K = datW (.d (.int a)) h fun a => datW (.r b) h fun b => (SeqAt.shaped a = true ∧ SeqAt.shaped b = true) ∧ K (!PyData.eqv a b) := Eq.trans rfl rfl
theorem wNe_zn {a : Str} {h : MH} {K : Bool → Prop} : wCmp .ne (.d (.str a)) (.d .none) h K = datW (.d (.str a)) h fun a => datW (.d .none) h fun b => (SeqAt.shaped a = true ∧ SeqAt.shaped b = true) ∧ K (!PyData.eqv a b) := Eq.trans rfl rfl
theorem wNe_zb {a : Str} {b : Bool} {h : MH} {K : Bool → Prop} : wCmp .ne (.d (.str a)) (.d (.bool b)) h K = datW (.d (.str a)) h fun a => datW (.d (.bool b)) h fun b => (SeqAt.shaped a = true ∧ SeqAt.shaped b = true) ∧ K (!PyData.eqv a b) := Eq.trans rfl rfl
theorem wNe_zi {a : Str} {b : Int} {h : MH} {K : Bool → Prop} : wCmp .ne (.d (.str a)) (.d (.int b)) h K = datW (.d (.str a)) h fun a => datW (.d (.int b)) h fun b => (SeqAt.shaped a = true ∧ SeqAt.shaped b = true) ∧ K (!PyData.eqv a b) := Eq.trans rfl rfl
theorem wNe_zl {a : Str} {b : List PyData} {h : MH} {K : Bool → Prop} : wCmp .ne (.d (.str a)) (.d (.list b)) h K = datW (.d (.str a)) h fun a => datW (.d (.list b)) h fun b => (SeqAt.shaped a = true ∧ SeqAt.shaped b = true) ∧ K (!PyData.eqv a b) := Eq.trans rfl rfl
theorem wNe_zt {a : Str} {b : List PyData} {h : MH} {K : Bool → Prop} : wCmp .ne (.d (.str a)) (.d (.tuple b)) h K = datW (.d (.str a)) h fun a => datW (.d (.tuple b)) h fun b => (SeqAt.shaped a = true ∧ SeqAt.shaped b = true) ∧ K (!PyData.eqv a b) := Eq.trans rfl rfl
theorem wNe_zr {a : Str} {b : Nat} {h : MH} {K : Bool → Prop} : wCmp .ne (.d (.str a)) (.r b) h K = datW (.d (.str a)) h fun a => datW (.r b) h fun b => (SeqAt.shaped a = true ∧ SeqAt.shaped b = true) ∧ K (!PyData.eqv a b) := Eq.trans rfl rfl
theorem wNe_ln {a : List PyData} {h : MH} {K : Bool → Prop} : wCmp .ne (.d (.list a)) (.d .none) h K = datW (.d (.list a)) h fun a => datW (.d .none) h fun b => (SeqAt.shaped a = true ∧ SeqAt.shaped b = true) ∧ K (!PyData.eqv a b) := Eq.trans rfl rfl
theorem wNe_lb {a : List PyData} {b : Bool} {h : MH} {K : Bool → Prop} : wCmp .ne (.d (.list a)) (.d (.bool b)) h K = datW (.d (.list a)) h fun a => datW (.d (.bool b)) h fun b => (SeqAt.shaped a = true ∧ SeqAt.shaped b = true) ∧ K (!PyData.eqv a b) := Eq.trans rfl rfl
theorem wNe_li {a : List PyData} {b : Int} {h : MH} {K : Bool → Prop} : wCmp .ne (.d (.list a)) (.d (.int b)) h K = datW (.d (.list a)) h fun a => datW (.d (.int b)) h fun b => (SeqAt.shaped a = true ∧ SeqAt.shaped b = true) ∧ K (!PyData.eqv a b) := Eq.trans rfl rfl
theorem wNe_lz {a : List PyData} {b : Str} {h : MH} {K : Bool → Prop} : wCmp .ne (.d (.list a)) (.d (.str b)) h K = datW (.d (.list a)) h fun a => datW (.d (.str b)) h fun b => (SeqAt.shaped a = true ∧ SeqAt.shaped b = true) ∧ K (!PyData.eqv a b) := Eq.trans rfl rfl
theorem wNe_ll {a : List PyData} {b : List PyData} {h : MH} {K : Bool → Prop} : wCmp .ne (.d (.list a)) (.d (.list b)) h K = datW (.d (.list a)) h fun a => datW (.d (.list b)) h fun b => (SeqAt.shaped a = true ∧ SeqAt.shaped b = true) ∧ K (!PyData.eqv a b) := Eq.trans rfl rfl
theorem wNe_lt {a : List PyData} {b : List PyData} {h : MH} {K : Bool → Prop} : wCmp .ne (.d (.list a)) (.d (.tuple b)) h K = datW (.d (.list a)) h fun a => datW (.d (.tuple b)) h fun b => (SeqAt.shaped a = true ∧ SeqAt.shaped b = true) ∧ K (!PyData.eqv a b) := Eq.trans rfl rfl
theorem wNe_lr {a : List PyData} {b : Nat} {h : MH} {K : Bool → Prop} : wCmp .ne (.d (.list a)) (.r b) h K = datW (.d (.list a)) h fun a => datW (.r b) h fun b => (SeqAt.shaped a = true ∧ SeqAt.shaped b = true) ∧ K (!PyData.eqv a b) := Eq.trans rfl rfl
theorem wNe_tn {a : List PyData} {h : MH} {K : Bool → Prop} : wCmp .ne (.d (.tuple a)) (.d .none) h K = datW (.d (.tuple a)) h fun a => datW (.d .none) h fun b => (SeqAt.shaped a = true ∧ SeqAt.shaped b = true) ∧ K (!PyData.eqv a b) := Eq.trans rfl rfl
theorem wNe_tb {a : List PyData} {b : Bool} {h : MH} {K : Bool → Prop} : wCmp .ne (.d (.tuple a)) (.d (.bool b)) h K = datW (.d (.tuple a)) h fun a => datW (.d (.bool b)) h fun b => (SeqAt.shaped a = true ∧ SeqAt.shaped b = true) ∧ K (!PyData.eqv a b) := Eq.trans rfl rfl
theorem wNe_ti {a : List PyData} {b : Int} {h : MH} {K : Bool → Prop} : wCmp .ne (.d (.tuple a)) (.d (.int b)) h K = datW (.d (.tuple a)) h fun a => datW (.d (.int b)) h fun b => (SeqAt.shaped a = true ∧ SeqAt.shaped b = true) ∧ K (!PyData.eqv a b) := Eq.trans rfl rfl
theorem wNe_tz {a : List PyData} {b : Str} {h : MH} {K : Bool → Prop} : wCmp .ne (.d (.tuple a)) (.d (.str b)) h K = datW (.d (.tuple a)) h fun a => datW (.d (.str b)) h fun b => (SeqAt.shaped a = true ∧ SeqAt.shaped b = true) ∧ K (!PyData.eqv a b) := Eq.trans rfl rfl
theorem wNe_tl {a : List PyData} {b : List PyData} {h : MH} {K : Bool → Prop} : wCmp .ne (.d (.tuple a)) (.d (.list b)) h K = datW (.d (.tuple a)) h fun a => datW (.d (.list b)) h fun b => (SeqAt.shaped a = true ∧ SeqAt.shaped b = true) ∧ K (!PyData.eqv a b) := Eq.trans rfl rfl
theorem wNe_tt {a : List PyData} {b : List PyData} {h : MH} {K : Bool → Prop} : wCmp .ne (.d (.tuple a)) (.d (.tuple b)) h K = datW (.d (.tuple a)) h fun a => datW (.d (.tuple b)) h fun b => (SeqAt.shaped a = true ∧ SeqAt.shaped b = true) ∧ K (!PyData.eqv a b) := Eq.trans rfl rfl
theorem wNe_tr {a : List PyData} {b : Nat} {h : MH} {K : Bool → Prop} : wCmp .ne (.d (.tuple a)) (.r b) h K = datW (.d (.tuple a)) h fun a => datW (.r b) h fun b => (SeqAt.shaped a = true ∧ SeqAt.shaped b = true) ∧ K (!PyData.eqv a b) := Eq.trans rfl rfl
theorem wNe_rn {a : Nat} {h : MH} {K : Bool → Prop} : wCmp .ne (.r a) (.d .none) h K = datW (.r a) h fun a => datW (.d .none) h fun b => (SeqAt.shaped a = true ∧ SeqAt.shaped b = true) ∧ K (!PyData.eqv a b) := Eq.trans rfl rfl
theorem wNe_rb {a : Nat} {b : Bool} {h : MH} {K : Bool → Prop} : wCmp .ne (.r a) (.d (.bool b)) h K = datW (.r a) h fun a => datW (.d (.bool b)) h fun b => (SeqAt.shaped a = true ∧ SeqAt.shaped b = true) ∧ K (!PyData.eqv a b) := Eq.trans rfl rfl
theorem wNe_ri {a : Nat} {b : Int} {h : MH} {K : Bool → Prop} : wCmp .ne (.r a) (.d (.int b)) h K = datW (.r a) h fun a => datW (.d (.int b)) h fun b => (SeqAt.shaped a = true ∧ SeqAt.shaped b = true) ∧ K (!PyData.eqv a b) := Eq.trans rfl rfl
theorem wNe_rz {a : Nat} {b : Str} {h : MH} {K : Bool → Prop} : wCmp .ne (.r a) (.d (.str b)) h K = datW (.r a) h fun a => datW (.d (.str b)) h fun b => (SeqAt.shaped a = true ∧ SeqAt.shaped b = true) ∧ K (!PyData.eqv a b) := Eq.trans rfl rfl
theorem wNe_rl {a : Nat} {b : List PyData} {h : MH} {K : Bool → Prop} : wCmp .ne (.r a) (.d (.list b)) h K = datW (.r a) h fun a => datW (.d (.list b)) h fun b => (SeqAt.shaped a = true ∧ SeqAt.shaped b = true) ∧ K (!PyData.eqv a b) := Eq.trans rfl rfl
theorem wNe_rt {a : Nat} {b : List PyData} {h : MH} {K : Bool → Prop} : wCmp .ne (.r a) (.d (.tuple b)) h K = datW (.r a) h fun a => datW (.d (.tuple b)) h fun b => (SeqAt.shaped a = true ∧ SeqAt.shaped b = true) ∧ K (!PyData.eqv a b) := Eq.trans rfl rfl
theorem wNe_rr {a : Nat} {b : Nat} {h : MH} {K : Bool → Prop} : wCmp .ne (.r a) (.r b) h K = datW (.r a) h fun a => datW (.r b) h fun b => (SeqAt.shaped a = true ∧ SeqAt.shaped b = true) ∧ K (!PyData.eqv a b) := Eq.trans rfl rfl
theorem wLt_ii {a b : Int} {h : MH} {K : Bool → Prop} : wCmp .lt (.d (.int a)) (.d (.int b)) h K = K (decide (a < b)) := Eq.trans rfl rfl
theorem wLe_ii {a b : Int} {h : MH} {K : Bool → Prop} : wCmp .le (.d (.int a)) (.d (.int b)) h K = K (decide (a ≤ b)) := Eq.trans rfl rfl
theorem wGt_ii {a b : Int} {h : MH} {K : Bool → Prop} : wCmp .gt (.d (.int a)) (.d (.int b)) h K = K (decide (b < a)) := Eq.trans rfl rfl
theorem wGe_ii {a b : Int} {h : MH} {K : Bool → Prop} : wCmp .ge (.d (.int a)) (.d (.int b)) h K = K (decide (b ≤ a)) := Eq.trans rfl rfl
theorem wInn_ {x y : MV} {h : MH} {K : Bool → Prop} : wCmp .inn x y h K = datW x h fun a => inW a y h K := Eq.trans rfl rfl
theorem wNin_ {x y : MV} {h : MH} {K : Bool → Prop} : wCmp .nin x y h K = datW x h fun a => inW a y h fun t => K (!t) := Eq.trans rfl rfl
theorem inW_l {a : PyData} {ys : List PyData} {h : MH} {K : Bool → Prop} : inW a (.d (.list ys)) h K = ((flatD a = true ∧ ys.all flatD = true) ∧ K (inD a ys)) := Eq.trans rfl rfl
theorem inW_t {a : PyData} {ys : List PyData} {h : MH} {K : Bool → Prop} : inW a (.d (.tuple ys)) h K = ((flatD a = true ∧ ys.all flatD = true) ∧ K (inD a ys)) := Eq.trans rfl rfl
theorem inW_r {a : PyData} {i : Nat} {h : MH} {K : Bool → Prop} : inW a (.r i) h K = cellW h i fun ys => (flatD a = true ∧ ys.all flatD = true) ∧ K (inD a ys) := Eq.trans rfl rfl
theorem inW_m {a : PyData} {i : Nat} {h : MH} {K : Bool → Prop} : inW a (.m i) h K = dctW h i fun t ps => keyOk t a = true ∧ K (dgetP ps a).isSome := Eq.trans rfl rfl
theorem wIx_m {j : Nat} {k : PyData} {h : MH} {Q : MQ} : wIx (.m j) (.d k) h Q = dctW h j fun t ps => keyOk t k = true ∧ (match dgetP ps k with | some v => Q (.d v) h | none => False) := Eq.trans rfl rfl
theorem wIs_mn {a : Nat} {K : Bool → Prop} : wIs (.m a) .none K = K false := Eq.trans rfl rfl
theorem wB_sorted {v : MV} {h : MH} {Q : MQ} : wBlt .sorted [v] h Q = lstW v h fun xs => (match intsL xs with | some ns => newL ((ns.mergeSort (· ≤ ·)).map .int) h Q | none => False) := Eq.trans rfl rfl
theorem wSetI_m {a : Nat} {k x : PyData} {h : MH} {K : MH → Prop} : wSetI (.m a) (.d k) (.d x) h K = dctW h a fun t ps => (keyOk t k = true ∧ ps.length < 16777216) ∧ K (h.set a (dcell t (dputP ps k x))) := Eq.trans rfl rfl
theorem wLenSet_e {v : MV} {h : MH} {Q : MQ} : wLenSet v h Q = lstW v h fun xs => (match intsL xs with | some ns => ns.length ≤ 4000 ∧ Q (.d (.int (uniq ns).length)) h | none => False) := Eq.trans rfl rfl
theorem wSrtSet_e {v : MV} {h : MH} {Q : MQ} : wSrtSet v h Q = seqW v h fun xs => (match intsL xs with | some ns => ns.length ≤ 4000 ∧ newL ((sset ns).map .int) h Q | none => False) := Eq.trans rfl rfl
theorem wDgetD_e {i : Nat} {k x : PyData} {h : MH} {Q : MQ} : wDgetD (.m i) (.d k) (.d x) h Q = dctW h i fun t ps => keyOk t k = true ∧ Q (.d ((dgetP ps k).getD x)) h := Eq.trans rfl rfl
theorem wIdx_e {o : MV} {x : PyData} {h : MH} {Q : MQ} : wIdx o (.d x) h Q = lstW o h fun xs => (flatD x = true ∧ xs.all flatD = true) ∧ (match xs.findIdx? fun y => PyData.eqv y x with | some j => Q (.d (.int (j : Nat))) h | none => False) := Eq.trans rfl rfl
theorem dct_at {h : MH} {i : Nat} {t : Bool} {ps : List (PyData × PyData)} {K : Bool → List (PyData × PyData) → Prop} (e : h[i]? = some (dcell t ps)) (q : K t ps) : dctW h i K := by
  unfold dctW
  rw [e]
  cases t <;> exact q
theorem wIs_nn {K : Bool → Prop} : wIs (.d .none) .none K = K true := Eq.trans rfl rfl
theorem wIs_bn {a : Bool} {K : Bool → Prop} : wIs (.d (.bool a)) .none K = K false := Eq.trans rfl rfl
theorem wIs_in {a : Int} {K : Bool → Prop} : wIs (.d (.int a)) .none K = K false := Eq.trans rfl rfl
theorem wIs_zn {a : Str} {K : Bool → Prop} : wIs (.d (.str a)) .none K = K false := Eq.trans rfl rfl
theorem wIs_ln {a : List PyData} {K : Bool → Prop} : wIs (.d (.list a)) .none K = K false := Eq.trans rfl rfl
theorem wIs_tn {a : List PyData} {K : Bool → Prop} : wIs (.d (.tuple a)) .none K = K false := Eq.trans rfl rfl
theorem wIs_rn {a : Nat} {K : Bool → Prop} : wIs (.r a) .none K = K false := Eq.trans rfl rfl
theorem wIs_sn {a : List Int} {K : Bool → Prop} : wIs (.s a) .none K = K false := Eq.trans rfl rfl
theorem wIs_bb {a b : Bool} {K : Bool → Prop} : wIs (.d (.bool a)) (.bool b) K = K (decide (a = b)) := Eq.trans rfl rfl
theorem wB_len {v : MV} {h : MH} {Q : MQ} : wBlt .len [v] h Q = lenW v h fun n => Q (.d (.int n)) h := Eq.trans rfl rfl
theorem wB_abs {i : Int} {h : MH} {Q : MQ} : wBlt .abs [.d (.int i)] h Q = Q (.d (.int (iabs i))) h := Eq.trans rfl rfl
theorem wB_int {i : Int} {h : MH} {Q : MQ} : wBlt .int [.d (.int i)] h Q = Q (.d (.int i)) h := Eq.trans rfl rfl
theorem wB_intb {i : Bool} {h : MH} {Q : MQ} : wBlt .int [.d (.bool i)] h Q = Q (.d (.int (b2i i))) h := Eq.trans rfl rfl
theorem wB_max1 {v : MV} {h : MH} {Q : MQ} : wBlt .max1 [v] h Q = lstW v h fun xs => (match intsL xs with | some ns => 0 < ns.length ∧ Q (.d (.int (maxD 0 ns))) h | none => False) := Eq.trans rfl rfl
theorem wB_max {i j : Int} {h : MH} {Q : MQ} : wBlt .max2 [.d (.int i), .d (.int j)] h Q = Q (.d (.int (imax i j))) h := Eq.trans rfl rfl
theorem wB_min {i j : Int} {h : MH} {Q : MQ} : wBlt .min2 [.d (.int i), .d (.int j)] h Q = Q (.d (.int (imin i j))) h := Eq.trans rfl rfl
theorem wB_tuple {v : MV} {h : MH} {Q : MQ} : wBlt .tuple [v] h Q = seqW v h fun xs => Q (.d (.tuple xs)) h := Eq.trans rfl rfl
theorem wB_list {v : MV} {h : MH} {Q : MQ} : wBlt .list [v] h Q = seqW v h fun xs => newL xs h Q := Eq.trans rfl rfl
theorem wB_repr {v : MV} {h : MH} {Q : MQ} : wBlt .repr [v] h Q = datW v h fun x => (PyData.showable x = true ∧ x.depth ≤ 64 ∧ x.shown.length ≤ 16777216) ∧ Q (.d (.str x.shown)) h := Eq.trans rfl rfl
theorem wB_stri {i : Int} {h : MH} {Q : MQ} : wBlt .str [.d (.int i)] h Q = (i.natAbs.log2 < 1920 ∧ Q (.d (.str (toString i))) h) := Eq.trans rfl rfl
theorem wB_strz {i : Str} {h : MH} {Q : MQ} : wBlt .str [.d (.str i)] h Q = Q (.d (.str i)) h := Eq.trans rfl rfl
theorem wB_all {v : MV} {h : MH} {Q : MQ} : wBlt .all [v] h Q = lstW v h fun xs => (match bools xs with | some bs => Q (.d (.bool (bs.all id))) h | none => False) := Eq.trans rfl rfl
theorem wB_any {v : MV} {h : MH} {Q : MQ} : wBlt .any [v] h Q = lstW v h fun xs => (match bools xs with | some bs => Q (.d (.bool (bs.any id))) h | none => False) := Eq.trans rfl rfl
theorem wB_sum {v : MV} {h : MH} {Q : MQ} : wBlt .sum [v] h Q = seqW v h fun xs => (match intsL xs with | some ns => Q (.d (.int ns.sum)) h | none => False) := Eq.trans rfl rfl
theorem wM_app {i : Nat} {x : PyData} {h : MH} {Q : MQ} : wMth .append (.r i) [.d x] h Q = cellW h i fun xs => xs.length < 16777216 ∧ Q (.d .none) (h.set i (xs ++ [x])) := Eq.trans rfl rfl
theorem wSl_s {ns : List Int} {lo hi : Option Int} {Q : MQ} {h : MH} : wSl (.s ns) lo hi h Q = newL (cutD (ns.map .int) lo hi) h Q := Eq.trans rfl rfl
theorem wM_popAt {i : Nat} {k : Int} {h : MH} {Q : MQ} : wMth .popAt (.r i) [.d (.int k)] h Q = cellW h i fun xs => (0 ≤ k ∧ k < 2 ^ 62) ∧ (match xs[k.toNat]? with | some v => Q (.d v) (h.set i (xs.eraseIdx k.toNat)) | none => False) := Eq.trans rfl rfl
theorem wM_clear {i : Nat} {h : MH} {Q : MQ} : wMth .clear (.r i) [] h Q = cellW h i fun _ => Q (.d .none) (h.set i []) := Eq.trans rfl rfl
theorem wM_reverse {i : Nat} {h : MH} {Q : MQ} : wMth .reverse (.r i) [] h Q = cellW h i fun xs => Q (.d .none) (h.set i xs.reverse) := Eq.trans rfl rfl
theorem wM_pop {i : Nat} {h : MH} {Q : MQ} : wMth .pop (.r i) [] h Q = cellW h i fun xs => (match xs[xs.length - 1]? with | some v => Q (.d v) (h.set i xs.dropLast) | none => False) := Eq.trans rfl rfl
theorem wM_ext {i : Nat} {v : MV} {h : MH} {Q : MQ} : wMth .extend (.r i) [v] h Q = cellW h i fun xs => lstW v h fun ys => xs.length + ys.length ≤ 16777216 ∧ Q (.d .none) (h.set i (xs ++ ys)) := Eq.trans rfl rfl
theorem wRng_1 {b : Int} {h : MH} {K : MK} : wRng [.d (.int b)] h K = (in62 b ∧ K (rgL 0 b) none h) := Eq.trans rfl rfl
theorem wRng_2 {a b : Int} {h : MH} {K : MK} : wRng [.d (.int a), .d (.int b)] h K = ((in62 a ∧ in62 b) ∧ K (rgL a b) none h) := Eq.trans rfl rfl
theorem wRng_3 {a b c : Int} {h : MH} {K : MK} : wRng [.d (.int a), .d (.int b), .d (.int c)] h K = ((in62 a ∧ in62 b ∧ c = -1) ∧ K (rgC a (-1) (a - b).toNat) none h) := Eq.trans rfl rfl
theorem wRrg_1 {b : Int} {h : MH} {K : MK} : wRrg [.d (.int b)] h K = (in62 b ∧ K (rgL 0 b).reverse none h) := Eq.trans rfl rfl
theorem wRrg_2 {a b : Int} {h : MH} {K : MK} : wRrg [.d (.int a), .d (.int b)] h K = ((in62 a ∧ in62 b) ∧ K (rgL a b).reverse none h) := Eq.trans rfl rfl
theorem wRgv_1 {t : Bool} {b : Int} {h : MH} {Q : MQ} : wRgv t [.d (.int b)] h Q = (rgOk 0 b ∧ (if t then Q (.d (.tuple (rgL 0 b))) h else newL (rgL 0 b) h Q)) := Eq.trans rfl rfl
theorem wRgv_2 {t : Bool} {a b : Int} {h : MH} {Q : MQ} : wRgv t [.d (.int a), .d (.int b)] h Q = (rgOk a b ∧ (if t then Q (.d (.tuple (rgL a b))) h else newL (rgL a b) h Q)) := Eq.trans rfl rfl
theorem wBound_0 {K : Option Int → Prop} : wBound [] K = K none := Eq.trans rfl rfl
theorem wBound_1 {i : Int} {K : Option Int → Prop} : wBound [.d (.int i)] K = K (some i) := Eq.trans rfl rfl
theorem wIsi_i {a : Int} {t : MTy} {h : MH} {Q : MQ} : wIsi (.d (.int a)) t h Q = Q (.d (.bool (isTy t (.int a)))) h := Eq.trans rfl rfl
theorem wIsi_b {a : Bool} {t : MTy} {h : MH} {Q : MQ} : wIsi (.d (.bool a)) t h Q = Q (.d (.bool (isTy t (.bool a)))) h := Eq.trans rfl rfl
theorem wIsi_n {t : MTy} {h : MH} {Q : MQ} : wIsi (.d (.none)) t h Q = Q (.d (.bool (isTy t (.none)))) h := Eq.trans rfl rfl
theorem wIsi_z {a : Str} {t : MTy} {h : MH} {Q : MQ} : wIsi (.d (.str a)) t h Q = Q (.d (.bool (isTy t (.str a)))) h := Eq.trans rfl rfl
theorem wIsi_l {a : List PyData} {t : MTy} {h : MH} {Q : MQ} : wIsi (.d (.list a)) t h Q = Q (.d (.bool (isTy t (.list a)))) h := Eq.trans rfl rfl
theorem wIsi_t {a : List PyData} {t : MTy} {h : MH} {Q : MQ} : wIsi (.d (.tuple a)) t h Q = Q (.d (.bool (isTy t (.tuple a)))) h := Eq.trans rfl rfl
theorem wIsi_r {i : Nat} {t : MTy} {h : MH} {Q : MQ} : wIsi (.r i) t h Q = cellW h i fun xs => Q (.d (.bool (isTy t (.list xs)))) h := Eq.trans rfl rfl
theorem tgW_1 {i : Nat} {x : PyData} {e : MEnv} {K : MEnv → Prop} : tgW (.one i) x e K = K (e.set i (some (.d x))) := Eq.trans rfl rfl
theorem tgW_2 {is : List Nat} {xs : List PyData} {e : MEnv} {K : MEnv → Prop} : tgW (.tup is) (.tuple xs) e K = (xs.length = is.length ∧ K (setAll is xs e)) := Eq.trans rfl rfl
theorem ntt : (!true) = false := Eq.trans rfl rfl
theorem nff : (!false) = true := Eq.trans rfl rfl
theorem toT0 {G : MG} {e : MEnv} {h : MH} {K : Bool → MH → Prop} (q : K true h) : wT G .nil e h K := by unfold wT; exact q
theorem toT1 {G : MG} {x : MX} {xs : MXs} {e : MEnv} {h : MH} {K : Bool → MH → Prop} (q : wX G (fun _ _ => False) x e h fun v h1 => wTru v h1 fun t => K t h1) : wT G (.cons x xs) e h K := by unfold wT; exact q
theorem newL_e {xs : List PyData} {h : MH} {Q : MQ} : newL xs h Q = Q (.r h.length) (h ++ [xs]) := Eq.trans rfl rfl
theorem wFrz_e {n : Nat} {x : PyData} {h : MH} {Q : MQ} : wFrz n (.d x) h Q = Q (.d x) h := Eq.trans rfl rfl
theorem retW_e {n : Nat} {x : PyData} {h : MH} {Q : MQ} : retW n Q (.d x) h = Q (.d x) (h.take n) := Eq.trans rfl rfl
theorem gdOk_n {h : MH} : gdOk none h = True := Eq.trans rfl rfl
theorem gdOk_s {i : Nat} {xs : List PyData} {h : MH} : gdOk (some (i, xs)) h = (h[i]? = some xs) := Eq.trans rfl rfl
theorem ite_T {A B : Prop} [Decidable True] : (if True then A else B) = A := if_pos trivial
theorem ite_F {A B : Prop} [Decidable False] : (if False then A else B) = B := if_neg id
theorem dec_T [Decidable True] : decide True = true := decide_eq_true trivial
theorem dec_F [Decidable False] : decide False = false := decide_eq_false id
theorem wTup_at {vs : List MV} {xs : List PyData} {h : MH} {Q : MQ} (e : datas vs = some xs) (q : Q (.d (.tuple xs)) h) : wTup vs h Q := by unfold wTup; rw [e]; exact q
theorem wLst_at {vs : List MV} {xs : List PyData} {h : MH} {Q : MQ} (e : datas vs = some xs) (q : Q (.r h.length) (h ++ [xs])) : wLst vs h Q := by unfold wLst; rw [e]; exact q
/-- whole numbers as items -/
def iL (l : List Int) : List PyData := l.map .int
theorem iL_len {l : List Int} : (iL l).length = l.length := List.length_map ..
theorem iL_app {l m : List Int} : iL l ++ iL m = iL (l ++ m) := (List.map_append ..).symm
theorem iL_nil : iL [] = [] := rfl
theorem iL_cons {x : Int} {l : List Int} : iL (x :: l) = .int x :: iL l := rfl
theorem iL_get {l : List Int} {i : Nat} : (iL l)[i]? = (l[i]?).map .int := List.getElem?_map ..
theorem iL_rev {l : List Int} : (iL l).reverse = iL l.reverse := (List.map_reverse ..).symm
theorem iL_mem {l : List Int} {x : PyData} (h : x ∈ iL l) : ∃ i, i ∈ l ∧ x = .int i := by
  obtain ⟨i, hi, rfl⟩ := List.mem_map.mp h
  exact ⟨i, hi, rfl⟩
theorem rgL_mem {a b : Int} {x : PyData} (h : x ∈ rgL a b) : ∃ i : Int, a ≤ i ∧ i < b ∧ x = .int i := by
  unfold rgL at h
  obtain ⟨j, hj, rfl⟩ := List.mem_map.mp h
  rw [List.mem_range] at hj
  exact ⟨a + j, by omega, by omega, rfl⟩
end Mini
end
section
set_option Elab.async false
set_option linter.all false
set_option maxRecDepth 100000
set_option exponentiation.threshold 3000
/-! lists of whole numbers: repr, likeness, noughts at the end, values. -/
namespace Mini
open PySem

mutual
def small : PyData → Bool
  | .none | .bool _ => true
  | .int i => decide (i.natAbs < 2 ^ 400)
  | .str s => s.cps.toList.all fun c => decide (c < 16 ^ 8)
  | .list xs | .tuple xs => smallA xs
  | .dict _ => false
def smallA : List PyData → Bool
  | [] => true
  | x :: xs => small x && smallA xs
end
mutual
theorem small_shows : ∀ d : PyData, small d = true → PyData.showable d = true ∧ PyData.leavesShort 402 d = true
  | .none, _ => ⟨rfl, rfl⟩
  | .bool _, _ => ⟨rfl, rfl⟩
  | .int i, h => by
    have h' : i.natAbs < 2 ^ 400 := of_decide_eq_true h
    have hl : i.natAbs.log2 < 401 := log2_lt (Nat.lt_of_lt_of_le h' (by decide +kernel)) (by decide)
    refine ⟨decide_eq_true (Nat.lt_of_lt_of_le hl (by decide)), ?_⟩
    have := int_text_length_le (k := 401) (by decide) hl
    have e : (Str.ofString (toString i)).length ≤ 402 := by rw [ofString_length]; exact this
    simpa [PyData.leavesShort, PyData.shown] using e
  | .str s, h => by
    refine ⟨rfl, ?_⟩
    simpa [PyData.leavesShort, small] using h
  | .list xs, h => by
    have := smallA_shows xs (by simpa [small] using h)
    exact ⟨by simpa [PyData.showable] using this.1, by simpa [PyData.leavesShort] using this.2⟩
  | .tuple xs, h => by
    have := smallA_shows xs (by simpa [small] using h)
    exact ⟨by simpa [PyData.showable] using this.1, by simpa [PyData.leavesShort] using this.2⟩
  | .dict _, h => absurd h Bool.false_ne_true
theorem smallA_shows : ∀ xs : List PyData, smallA xs = true → PyData.showableAll xs = true ∧ PyData.leavesShortAll 402 xs = true
  | [], _ => ⟨rfl, rfl⟩
  | x :: xs, h => by
    have h' : small x = true ∧ smallA xs = true := by simpa [smallA] using h
    have a := small_shows x h'.1
    have b := smallA_shows xs h'.2
    exact ⟨by simp [PyData.showableAll, a.1, b.1], by simp [PyData.leavesShortAll, a.2, b.2]⟩
end
theorem repr_ok {d : PyData} (h : small d = true) (hd : d.depth ≤ 64) (hb : d.bulk ≤ 40000) : PyData.showable d = true ∧ d.depth ≤ 64 ∧ d.shown.length ≤ 16777216 := by
  have a := small_shows d h
  have := PyData.shown_le_bulk 402 (by decide) d a.2
  exact ⟨a.1, hd, by omega⟩
/-- whole numbers below a bound -/
def Bd (l : List Int) : Prop := ∀ i ∈ l, i.natAbs < 2 ^ 400
theorem small_iL : ∀ {l : List Int}, Bd l → smallA (iL l) = true
  | [], _ => rfl
  | i :: l, h => by
    have h1 := h i (List.mem_cons_self ..)
    have h2 := small_iL (l := l) fun j hj => h j (List.mem_cons_of_mem _ hj)
    show (small (.int i) && smallA (iL l)) = true
    rw [h2, Bool.and_true]
    exact decide_eq_true h1
theorem depth_iL : ∀ {l : List Int}, PyData.depthAll (iL l) = 0
  | [] => rfl
  | i :: l => by
    show max (PyData.depth (.int i)) (PyData.depthAll (iL l)) = 0
    rw [depth_iL]; rfl
theorem bulk_iL : ∀ {l : List Int}, PyData.bulkAll (iL l) = l.length
  | [] => rfl
  | i :: l => by
    show PyData.bulk (.int i) + 1 + PyData.bulkAll (iL l) = _
    rw [bulk_iL, List.length_cons]
    show 0 + 1 + _ = _
    omega
theorem repr_tup {l : List Int} (h : Bd l) (hl : l.length ≤ 40000) : PyData.showable (.tuple (iL l)) = true ∧ (PyData.tuple (iL l)).depth ≤ 64 ∧ (PyData.tuple (iL l)).shown.length ≤ 16777216 := by
  refine repr_ok (by simpa [small] using small_iL h) ?_ ?_
  · simp [PyData.depth, depth_iL]
  · simpa [PyData.bulk, bulk_iL] using hl
theorem canLay_iL : ∀ {l : List Int}, PyData.canLayAll0 (iL l) = true
  | [] => rfl
  | i :: l => by
    show (PyData.canLay0 (.int i) && PyData.canLayAll0 (iL l)) = true
    rw [canLay_iL]; rfl
theorem sh_tup {l : List Int} : SeqAt.shaped (.tuple (iL l)) = true := by
  simp [SeqAt.shaped, PyData.canLay0, canLay_iL, PyData.depth, depth_iL]
theorem sh_lis {l : List Int} : SeqAt.shaped (.list (iL l)) = true := by
  simp [SeqAt.shaped, PyData.canLay0, canLay_iL, PyData.depth, depth_iL]
theorem eqvA_iL : ∀ {a b : List Int}, PyData.eqvAll (iL a) (iL b) = decide (a = b)
  | [], [] => rfl
  | [], _ :: _ => rfl
  | _ :: _, [] => rfl
  | x :: a, y :: b => by
    show (PyData.eqv (.int x) (.int y) && PyData.eqvAll (iL a) (iL b)) = _
    rw [eqvA_iL, eqv_int]
    by_cases h : x = y <;> by_cases h' : a = b <;> simp [h, h']
theorem eqv_tup {a b : List Int} : PyData.eqv (.tuple (iL a)) (.tuple (iL b)) = decide (a = b) := by
  unfold PyData.eqv; exact eqvA_iL
theorem eqv_lis {a b : List Int} : PyData.eqv (.list (iL a)) (.list (iL b)) = decide (a = b) := by
  unfold PyData.eqv; exact eqvA_iL

/-! ### noughts at the end -/
def trim (l : List Int) : List Int := (l.reverse.dropWhile (· == 0)).reverse
theorem trim_nil : trim [] = [] := rfl
theorem trim_snoc0 {l : List Int} : trim (l ++ [0]) = trim l := by
  unfold trim; rw [List.reverse_append]; rfl
theorem trim_snoc {l : List Int} {c : Int} (h : c ≠ 0) : trim (l ++ [c]) = l ++ [c] := by
  unfold trim
  rw [List.reverse_append]
  show ((c :: l.reverse).dropWhile _).reverse = _
  rw [List.dropWhile_cons_of_neg (by simpa using h), List.reverse_cons, List.reverse_reverse]
theorem snoc_of {l : List Int} (h : l ≠ []) : ∃ (r : List Int) (c : Int), l = r ++ [c] := ⟨l.dropLast, l.getLast h, (List.dropLast_concat_getLast h).symm⟩
theorem trim_pre (l : List Int) : ∃ n : Nat, l = trim l ++ List.replicate n 0 := by
  generalize hn : l.length = n
  induction n generalizing l with
  | zero => exact ⟨0, by rw [List.length_eq_zero_iff.mp hn]; rfl⟩
  | succ n ih =>
    obtain ⟨r, c, rfl⟩ := snoc_of (l := l) (fun z => by rw [z] at hn; exact absurd hn (by simp))
    by_cases h : c = 0
    · subst h
      obtain ⟨m, hm⟩ := ih r (by simpa using hn)
      refine ⟨m + 1, ?_⟩
      rw [trim_snoc0, List.replicate_succ', ← List.append_assoc, ← hm]
    · exact ⟨0, by rw [trim_snoc h]; simp⟩
theorem trim_len (l : List Int) : (trim l).length ≤ l.length := by
  obtain ⟨n, h⟩ := trim_pre l
  have := congrArg List.length h
  rw [List.length_append] at this
  omega
theorem trim_mem {l : List Int} {c : Int} (h : c ∈ trim l) : c ∈ l := by
  obtain ⟨n, e⟩ := trim_pre l
  rw [e]; exact List.mem_append_left _ h
theorem trim_last (l : List Int) : (trim l).getLast? ≠ some 0 := by
  generalize hn : l.length = n
  induction n generalizing l with
  | zero => rw [List.length_eq_zero_iff.mp hn]; simp [trim_nil]
  | succ n ih =>
    obtain ⟨r, c, rfl⟩ := snoc_of (l := l) (fun z => by rw [z] at hn; exact absurd hn (by simp))
    by_cases h : c = 0
    · subst h; rw [trim_snoc0]; exact ih r (by simpa using hn)
    · rw [trim_snoc h]; simpa using h
theorem trim_id {l : List Int} (h : l.getLast? ≠ some 0) : trim l = l := by
  by_cases e : l = []
  · subst e; rfl
  · obtain ⟨r, c, rfl⟩ := snoc_of e
    exact trim_snoc (by simpa using h)
/-- the rests, noughts left out -/
def cut (m : Int) (l : List Int) : List Int := trim (l.map (· % m))
/-- a poly -/
structure IsP (m : Int) (l : List Int) : Prop where
  lo : ∀ c ∈ l, 0 ≤ c
  hi : ∀ c ∈ l, c < m
  last : l.getLast? ≠ some 0
theorem cut_isP {m : Int} (hm : 0 < m) (l : List Int) : IsP m (cut m l) := by
  refine ⟨fun c hc => ?_, fun c hc => ?_, trim_last _⟩
  · obtain ⟨x, _, rfl⟩ := List.mem_map.mp (trim_mem hc); exact Int.emod_nonneg _ (by omega)
  · obtain ⟨x, _, rfl⟩ := List.mem_map.mp (trim_mem hc); exact Int.emod_lt_of_pos _ hm
theorem cut_len (m : Int) (l : List Int) : (cut m l).length ≤ l.length := by
  have := trim_len (l.map (· % m))
  rw [List.length_map] at this
  exact this
theorem IsP.bd {m : Int} {l : List Int} (h : IsP m l) (hm : m ≤ 1000000000000000000000) : Bd l := fun c hc => by
  have h1 := h.lo c hc
  have h2 := h.hi c hc
  have : (1000000000000000000000 : Nat) < 2 ^ 400 := by decide +kernel
  omega
/-- the value at x -/
def ev (x : Int) : List Int → Int
  | [] => 0
  | c :: l => c + x * ev x l
/-- Horner's walk -/
def horner (m x : Int) (l : List Int) : Int := l.foldr (fun c a => (a * x + c) % m) 0
theorem horner_eq (m x : Int) : ∀ l : List Int, horner m x l = ev x l % m
  | [] => (Int.zero_emod m).symm
  | c :: l => by
    show (horner m x l * x + c) % m = _
    rw [horner_eq m x l]
    show _ = (c + x * ev x l) % m
    rw [Int.add_emod, Int.mul_emod, Int.emod_emod, ← Int.mul_emod, ← Int.add_emod, Int.add_comm, Int.mul_comm]
theorem ev_app (x : Int) : ∀ a b : List Int, ev x (a ++ b) = ev x a + x ^ a.length * ev x b
  | [], b => by simp [ev]
  | c :: a, b => by
    show c + x * ev x (a ++ b) = c + x * ev x a + x ^ (a.length + 1) * ev x b
    rw [ev_app x a b, Int.mul_add, Int.pow_succ, ← Int.add_assoc, ← Int.mul_assoc, Int.mul_comm x (x ^ a.length)]
theorem iL_at {l a b : List Int} {x : PyData} (e : l = a ++ b) (h : (iL l)[a.length]? = some x) : ∃ c r, b = c :: r ∧ x = .int c := by
  subst e
  rw [iL_get, List.getElem?_append_right (Nat.le_refl _), Nat.sub_self] at h
  cases b with
  | nil => exact absurd h (by simp)
  | cons c r => exact ⟨c, r, rfl, (Option.some.inj h).symm⟩
theorem iL_rev_at {l a b : List Int} {x : PyData} (e : l = a ++ b) (h : (iL l).reverse[b.length]? = some x) : ∃ p c, a = p ++ [c] ∧ x = .int c := by
  subst e
  rw [iL_rev, iL_get, List.reverse_append, List.getElem?_append_right (by simp), List.length_reverse, Nat.sub_self] at h
  by_cases z : a = []
  · subst z; exact absurd h (by simp)
  · obtain ⟨p, c, rfl⟩ := snoc_of z
    rw [List.reverse_append] at h
    exact ⟨p, c, rfl, (Option.some.inj h).symm⟩
theorem rev_len {l : List Int} : (iL l).reverse.length = l.length := by rw [List.length_reverse, iL_len]
theorem len_app_eq {l a b : List Int} (e : l = a ++ b) (h : b.length = l.length) : a = [] ∧ b = l := by
  subst e
  rw [List.length_append] at h
  have : a = [] := List.length_eq_zero_iff.mp (by omega)
  subst this; exact ⟨rfl, rfl⟩
theorem len_app_eq' {l a b : List Int} (e : l = a ++ b) (h : a.length = l.length) : b = [] ∧ a = l := by
  subst e
  rw [List.length_append] at h
  have : b = [] := List.length_eq_zero_iff.mp (by omega)
  subst this; simp
theorem horner_lo {m x : Int} (hm : 0 < m) (l : List Int) : 0 ≤ horner m x l := by rw [horner_eq]; exact Int.emod_nonneg _ (by omega)
theorem horner_hi {m x : Int} (hm : 0 < m) (l : List Int) : horner m x l < m := by rw [horner_eq]; exact Int.emod_lt_of_pos _ hm
theorem bd_range {l : List Int} {m : Int} (hm : m ≤ 1000000000000000000000) (h : ∀ c ∈ l, 0 ≤ c ∧ c < m) : Bd l := fun c hc => by
  obtain ⟨h1, h2⟩ := h c hc
  have : (1000000000000000000000 : Nat) < 2 ^ 400 := by decide +kernel
  omega
theorem fm_map {α β : Type} (f : α → β) (F : β → Option PyData) (g : α → PyData) : ∀ (l : List α), (∀ a, F (f a) = some (g a)) → (l.map f).filterMap F = l.map g
  | [], _ => rfl
  | a :: l, h => by
    rw [List.map_cons, List.map_cons, List.filterMap_cons_some (h a), fm_map f F g l h]
theorem iL_map {α : Type} {f : α → Int} {l : List α} : (l.map fun a => PyData.int (f a)) = iL (l.map f) := by
  unfold iL; rw [List.map_map]; rfl
theorem at_last {r : List Int} {c : Int} {K : PyData → Prop} (q : K (.int c)) : atW (iL (r ++ [c])) (-1) K := by
  refine at_lit ?_ q
  unfold L2.atI L2.ixN
  rw [iL_len, List.length_append, List.length_singleton, if_neg (by decide), if_pos (by omega)]
  show (iL (r ++ [c]))[(-1 + ((r.length + 1 : Nat) : Int)).toNat]? = _
  rw [show (-1 + ((r.length + 1 : Nat) : Int)).toNat = r.length by omega, iL_get, List.getElem?_append_right (Nat.le_refl _), Nat.sub_self]
  rfl
theorem cut_last {r : List Int} {c : Int} : cutD (iL (r ++ [c])) none (some (-1)) = iL r := by
  unfold cutD HT.sIx
  dsimp only
  rw [iL_len, List.length_append, List.length_singleton, if_pos (by decide), show (-1 + ((r.length + 1 : Nat) : Int)).toNat = r.length by omega, List.drop_zero, Nat.sub_zero, ← iL_app]
  exact List.take_left' iL_len
theorem set_self {h : MH} {i : Nat} {x : MCell} (e : h[i]? = some x) : h.set i x = h := by
  obtain ⟨hi, rfl⟩ := List.getElem?_eq_some_iff.mp e
  exact List.set_getElem_self hi
theorem set_lt {h : MH} {i : Nat} {x : MCell} : (h.set i x).length = h.length := List.length_set
def rgI (a b : Int) : List Int := (List.range (b - a).toNat).map fun (k : Nat) => a + (k : Int)
theorem rgL_iL {a b : Int} : rgL a b = iL (rgI a b) := by unfold rgL rgI; exact iL_map
theorem rgI_mem {a b x : Int} : x ∈ rgI a b ↔ a ≤ x ∧ x < b := by
  unfold rgI
  rw [List.mem_map]
  constructor
  · rintro ⟨j, hj, rfl⟩
    rw [List.mem_range] at hj
    omega
  · rintro ⟨h1, h2⟩
    exact ⟨(x - a).toNat, by rw [List.mem_range]; omega, by omega⟩
theorem rgI_len {a b : Int} : (rgI a b).length = (b - a).toNat := by unfold rgI; simp
def fltF (p : Int → Bool) : PyData → Option PyData
  | .int x => if p x then some (.int x) else none
  | _ => none
theorem fm_filter {p : Int → Bool} : ∀ {l : List Int}, (iL l).filterMap (fltF p) = iL (l.filter p)
  | [] => rfl
  | x :: l => by
    rw [iL_cons, List.filter_cons]
    by_cases h : p x = true
    · rw [if_pos h, List.filterMap_cons_some (show fltF p (.int x) = some (.int x) by unfold fltF; simp [h]), fm_filter]; rfl
    · rw [if_neg h, List.filterMap_cons_none (show fltF p (.int x) = none by unfold fltF; simp [h]), fm_filter]
def mapF (f : Int → Int) : PyData → Option PyData
  | .int x => some (.int (f x))
  | _ => none
theorem fm_mapI {f : Int → Int} : ∀ {l : List Int}, (iL l).filterMap (mapF f) = iL (l.map f)
  | [] => rfl
  | x :: l => by rw [iL_cons, List.filterMap_cons_some (show mapF f (.int x) = some (.int (f x)) from rfl), fm_mapI]; rfl
theorem allI_iL {p : Int → Bool} : ∀ {l : List Int}, (∀ x ∈ l, p x = true) → allI p (iL l) = true
  | [], _ => rfl
  | x :: l, h => by
    show (p x && allI p (iL l)) = true
    rw [h x (List.mem_cons_self ..), allI_iL fun y hy => h y (List.mem_cons_of_mem _ hy)]; rfl
/-- an item of whole numbers -/
theorem at_iL {l : List Int} {i : Int} (h0 : 0 ≤ i) (h1 : i < l.length) {K : PyData → Prop} (q : ∀ v, v ∈ l → K (.int v)) : atW (iL l) i K := by
  have hn : i.toNat < l.length := by omega
  refine at_int h0 (v := .int l[i.toNat]) ?_ (q _ (List.getElem_mem hn))
  rw [iL_get, List.getElem?_eq_getElem hn]; rfl
theorem iL_snoc {l : List Int} {x : Int} : iL l ++ [.int x] = iL (l ++ [x]) := iL_app (m := [x])
theorem frz_at {n j : Nat} {h : MH} {xs : List PyData} {Q : MQ} (e : h.length = n) (e' : h.length = j) (q : Q (.d (.list xs)) h) : wFrz n (.r j) (h ++ [xs]) Q := by
  subst e'; exact frz_new e q
theorem ne_same {α : Type} {a : α} [Decidable (a = a)] : decide (a = a) = true := decide_eq_true rfl
theorem rep_one {k : Int} {c : Int} : rep k [.int c] = iL (List.replicate k.toNat c) := by
  unfold rep
  generalize k.toNat = n
  induction n with
  | zero => rfl
  | succ n ih => rw [List.replicate_succ, List.replicate_succ, List.flatten_cons, ih]; rfl
theorem bd_map {l : List Int} {f : Int → Int} {m : Int} (hm : m ≤ 1000000000000000000000) (h : ∀ x, 0 ≤ f x ∧ f x < m) : Bd (l.map f) :=
  bd_range hm fun c hc => by obtain ⟨x, _, rfl⟩ := List.mem_map.mp hc; exact h x
end Mini
end
section
set_option Elab.async false
set_option linter.all false
set_option maxRecDepth 100000
/-! coefficients; sums and products of lists of whole numbers. -/
namespace Mini
open PySem

def co (l : List Int) (k : Nat) : Int := (l[k]?).getD 0
theorem co_nil (k : Nat) : co [] k = 0 := rfl
theorem co_zero (c : Int) (l : List Int) : co (c :: l) 0 = c := rfl
theorem co_succ (c : Int) (l : List Int) (k : Nat) : co (c :: l) (k + 1) = co l k := rfl
theorem co_ge {l : List Int} {k : Nat} (h : l.length ≤ k) : co l k = 0 := by unfold co; rw [List.getElem?_eq_none h]; rfl
theorem co_lt {l : List Int} {k : Nat} (h : k < l.length) : l[k]? = some (co l k) := by unfold co; rw [List.getElem?_eq_getElem h]; rfl
theorem co_get {l : List Int} {k : Nat} (h : k < l.length) : (iL l)[k]? = some (.int (co l k)) := by rw [iL_get, co_lt h]; rfl
theorem co_app_l {a b : List Int} {k : Nat} (h : k < a.length) : co (a ++ b) k = co a k := by unfold co; rw [List.getElem?_append_left h]
theorem co_app_r {a b : List Int} {k : Nat} (h : a.length ≤ k) : co (a ++ b) k = co b (k - a.length) := by unfold co; rw [List.getElem?_append_right h]
theorem co_rep {n k : Nat} : co (List.replicate n 0) k = 0 := by
  unfold co
  rw [List.getElem?_replicate]
  split <;> rfl
theorem co_set {l : List Int} {j k : Nat} {v : Int} (h : j < l.length) : co (l.set j v) k = if k = j then v else co l k := by
  unfold co
  rw [List.getElem?_set]
  by_cases e : j = k
  · subst e; rw [if_pos rfl, if_pos h, if_pos rfl]; rfl
  · rw [if_neg e, if_neg (fun z => e z.symm)]
theorem co_map {l : List Int} {f : Int → Int} (f0 : f 0 = 0) {k : Nat} : co (l.map f) k = f (co l k) := by
  unfold co
  rw [List.getElem?_map]
  cases l[k]? with
  | none => exact f0.symm
  | some v => rfl
theorem co_range {n : Nat} {F : Nat → Int} {k : Nat} : co ((List.range n).map F) k = if k < n then F k else 0 := by
  unfold co
  rw [List.getElem?_map]
  by_cases h : k < n
  · rw [List.getElem?_range h, if_pos h]; rfl
  · rw [List.getElem?_eq_none (by rw [List.length_range]; omega), if_neg h]; rfl
theorem co_trim {l : List Int} {k : Nat} : co (trim l) k = co l k := by
  obtain ⟨n, h⟩ := trim_pre l
  by_cases hk : k < (trim l).length
  · conv => rhs; rw [h]
    rw [co_app_l hk]
  · conv => rhs; rw [h]
    rw [co_app_r (by omega), co_rep, co_ge (by omega)]
theorem co_last {l : List Int} (h : l.getLast? ≠ some 0) (e : l ≠ []) : co l (l.length - 1) ≠ 0 := by
  obtain ⟨r, c, rfl⟩ := snoc_of e
  rw [List.length_append, List.length_singleton, Nat.add_sub_cancel, co_app_r (Nat.le_refl _), Nat.sub_self]
  show c ≠ 0
  simpa using h
theorem co_inj {a b : List Int} (ha : a.getLast? ≠ some 0) (hb : b.getLast? ≠ some 0) (h : ∀ k, co a k = co b k) : a = b := by
  have hl : a.length = b.length := by
    rcases Nat.lt_trichotomy a.length b.length with z | z | z
    · refine absurd ?_ (co_last hb (fun e => by rw [e] at z; exact absurd z (Nat.not_lt_zero _)))
      rw [← h]; exact co_ge (by omega)
    · exact z
    · refine absurd ?_ (co_last ha (fun e => by rw [e] at z; exact absurd z (Nat.not_lt_zero _)))
      rw [h]; exact co_ge (by omega)
  refine List.ext_getElem hl fun k h1 h2 => ?_
  have := h k
  unfold co at this
  rw [List.getElem?_eq_getElem h1, List.getElem?_eq_getElem h2] at this
  exact this
theorem co_cut {m : Int} {l : List Int} {k : Nat} : co (cut m l) k = co l k % m := by
  unfold cut
  rw [co_trim, co_map (Int.zero_emod m)]
theorem cut_ext {m : Int} {a b : List Int} (h : ∀ k, co a k % m = co b k % m) : cut m a = cut m b :=
  co_inj (trim_last _) (trim_last _) fun k => by
    show co (cut m a) k = co (cut m b) k
    rw [co_cut, co_cut, h]
theorem cut_id {m : Int} {l : List Int} (h : IsP m l) : cut m l = l :=
  co_inj (trim_last _) h.last fun k => by
    show co (cut m l) k = _
    rw [co_cut]
    by_cases hk : k < l.length
    · have hm : co l k ∈ l := List.mem_of_getElem? (co_lt hk)
      exact Int.emod_eq_of_lt (h.lo _ hm) (h.hi _ hm)
    · rw [co_ge (by omega), Int.zero_emod]
/-- the one and s times the other -/
def sumL (s : Int) (f g : List Int) : List Int := (List.range (max f.length g.length)).map fun k => co f k + s * co g k
theorem co_sum {s : Int} {f g : List Int} {k : Nat} : co (sumL s f g) k = co f k + s * co g k := by
  unfold sumL
  rw [co_range]
  split
  · rfl
  · rw [co_ge (l := f) (by omega), co_ge (l := g) (by omega), Int.mul_zero, Int.add_zero]
def mulL : List Int → List Int → List Int
  | [], _ => []
  | c :: f, g => sumL 1 (g.map (c * ·)) (0 :: mulL f g)
theorem co_mul_nil {g : List Int} {k : Nat} : co (mulL [] g) k = 0 := rfl
theorem co_mul_cons {c : Int} {f g : List Int} {k : Nat} : co (mulL (c :: f) g) k = c * co g k + (if k = 0 then 0 else co (mulL f g) (k - 1)) := by
  show co (sumL 1 _ _) k = _
  rw [co_sum, co_map (Int.mul_zero c), Int.one_mul]
  cases k with
  | zero => rfl
  | succ k => rw [co_succ, if_neg (Nat.succ_ne_zero k), Nat.add_sub_cancel]
theorem co_mul_snoc {c : Int} {g : List Int} : ∀ {a : List Int} {k : Nat}, co (mulL (a ++ [c]) g) k = co (mulL a g) k + (if a.length ≤ k then c * co g (k - a.length) else 0)
  | [], k => by
    show co (mulL [c] g) k = co (mulL [] g) k + _
    rw [co_mul_cons, co_mul_nil, co_mul_nil, ite_self, List.length_nil, if_pos (Nat.zero_le k), Nat.sub_zero, Int.add_comm]
  | d :: a, k => by
    rw [List.cons_append, co_mul_cons, co_mul_cons, List.length_cons]
    cases k with
    | zero => rw [if_pos rfl, if_pos rfl, if_neg (by omega), Int.add_zero, Int.add_zero]
    | succ k =>
      rw [if_neg (Nat.succ_ne_zero k), if_neg (Nat.succ_ne_zero k), Nat.add_sub_cancel, co_mul_snoc, Int.add_assoc, Nat.add_sub_add_right]
      by_cases h : a.length ≤ k
      · rw [if_pos h, if_pos (by omega)]
      · rw [if_neg h, if_neg (by omega)]
/-- what stands in the cell in the midst of a product: the first i places of f done, of the next one the first j of g -/
def midC (f g : List Int) (i j k : Nat) : Int := co (mulL (f.take i) g) k + (if i ≤ k ∧ k < i + j then co f i * co g (k - i) else 0)
theorem mid_zero {f g : List Int} {i k : Nat} : midC f g i 0 k = co (mulL (f.take i) g) k := by
  unfold midC
  rw [if_neg (by omega), Int.add_zero]
theorem mid_end {f g : List Int} {i k : Nat} (h : i < f.length) : midC f g i g.length k = co (mulL (f.take (i + 1)) g) k := by
  unfold midC
  rw [List.take_add_one, co_lt h]
  show _ = co (mulL (f.take i ++ [co f i]) g) k
  rw [co_mul_snoc, List.length_take, Nat.min_eq_left (Nat.le_of_lt h)]
  by_cases h1 : i ≤ k
  · rw [if_pos h1]
    by_cases h2 : k < i + g.length
    · rw [if_pos ⟨h1, h2⟩]
    · rw [if_neg (by omega), co_ge (l := g) (by omega), Int.mul_zero]
  · rw [if_neg h1, if_neg (by omega)]
theorem mid_at {f g : List Int} {i j : Nat} : midC f g i (j + 1) (i + j) = midC f g i j (i + j) + co f i * co g j := by
  unfold midC
  rw [if_pos (by omega), if_neg (by omega), Nat.add_sub_cancel_left, Int.add_zero]
theorem mid_off {f g : List Int} {i j k : Nat} (h : k ≠ i + j) : midC f g i (j + 1) k = midC f g i j k := by
  unfold midC
  by_cases h1 : i ≤ k ∧ k < i + j
  · rw [if_pos h1, if_pos (by omega)]
  · rw [if_neg h1, if_neg (by omega)]
/-- a list of whole numbers, told in any way -/
def HasL (h : MH) (v : MV) (l : List Int) : Prop := v = .d (.list (iL l)) ∨ v = .d (.tuple (iL l)) ∨ ∃ i, v = .r i ∧ h[i]? = some (iL l)
theorem seqI_has {h : MH} {v : MV} {l : List Int} {K : MK} (e : HasL h v l) (q : ∀ g, (∀ acc, gdOk g (h ++ acc)) → K (iL l) g h) : wSeqI v h id K := by
  rcases e with rfl | rfl | ⟨i, rfl, hi⟩
  · exact q none fun _ => trivial
  · exact q none fun _ => trivial
  · exact cell_at hi (q (some (i, iL l)) fun acc => get_old hi)
theorem toAugI {G : MG} {E : MExc → MEnv → MH → Prop} {o i a : MX} {op : MOp} {e : MEnv} {h : MH} {D : MD}
    (q : wX G (fun x h' => E x e h') o e h fun ov h1 => wX G (fun x h' => E x e h') i e h1 fun iv h2 => (match ov with
      | .r c => wIx (.r c) iv h2 fun x h3 => wX G (fun x h' => E x e h') a e h3 fun y h4 =>
          (match x, y with | .d (.int p), .d (.int q) => wBin op (.d (.int p)) (.d (.int q)) h4 fun z h5 => wSetI (.r c) iv z h5 fun h6 => D.nx e h6 | _, _ => False)
      | _ => False)) : wS G E (.augI o i op a) e h D := by
  unfold wS; exact q
theorem toAug {G : MG} {E : MExc → MEnv → MH → Prop} {i : Nat} {a : MX} {op : MOp} {e : MEnv} {h : MH} {D : MD}
    (q : match e[i]? with | some (some x) => wX G (fun x h' => E x e h') a e h fun y h1 => (match x, y with | .d (.int p), .d (.int q) => wBin op (.d (.int p)) (.d (.int q)) h1 fun z h2 => D.nx (e.set i (some z)) h2 | _, _ => False) | _ => False) : wS G E (.aug i op a) e h D := by
  unfold wS; exact q
theorem ixN_nat {n : Nat} {i : Int} {j : Nat} (e : i = j) (h : j < n) : L2.ixN n i = some j := by
  subst e
  unfold L2.ixN
  rw [if_pos (by omega), if_pos (by omega)]; simp
theorem at_co {l : List Int} {i : Int} {j : Nat} {K : PyData → Prop} (e : i = j) (h : j < l.length) (q : K (.int (co l j))) : atW (iL l) i K := by
  subst e; exact at_nat (co_get h) q
theorem iL_set {l : List Int} {j : Nat} {v : Int} : (iL l).set j (.int v) = iL (l.set j v) := by unfold iL; rw [List.map_set]
theorem last_get {r : List Int} {c : Int} : (iL (r ++ [c]))[(iL (r ++ [c])).length - 1]? = some (.int c) := by
  rw [iL_len, List.length_append, List.length_singleton, Nat.add_sub_cancel, iL_get, List.getElem?_append_right (Nat.le_refl _), Nat.sub_self]; rfl
theorem iL_drop {r : List Int} {c : Int} : (iL (r ++ [c])).dropLast = iL r := by
  rw [← iL_app]; exact List.dropLast_concat
theorem co_rgI {a b : Int} {F : Int → Int} {k : Nat} : co ((rgI a b).map F) k = if k < (b - a).toNat then F (a + k) else 0 := by
  unfold rgI
  rw [List.map_map]
  exact co_range
theorem cut_sum {m s : Int} {f g : List Int} : cut m ((rgI 0 (imax f.length g.length)).map fun x => co f x.toNat + s * co g x.toNat) = cut m (sumL s f g) :=
  cut_ext fun k => by
    rw [co_rgI, co_sum, Int.zero_add, Int.toNat_natCast, Int.sub_zero]
    split
    · rfl
    · rename_i h
      unfold imax at h
      rw [co_ge (l := f) (by split at h <;> omega), co_ge (l := g) (by split at h <;> omega), Int.mul_zero, Int.add_zero]
theorem imax_nn {a b : Nat} : 0 ≤ imax a b := by unfold imax; split <;> omega
theorem imax_le {a b n : Nat} (ha : a ≤ n) (hb : b ≤ n) : imax a b ≤ n := by unfold imax; split <;> omega
/-- the slope -/
def slopeL (f : List Int) : List Int := (rgI 1 f.length).map fun x => x * co f x.toNat
theorem cut_congr {m : Int} {a b : List Int} (h : a = b) : cut m a = cut m b := by rw [h]
theorem mid_step {m : Int} {f g L : List Int} {i j : Nat} {v : Int} (hL : i + j < L.length) (h : ∀ k, co L k % m = midC f g i j k % m) (hv : v % m = (co L (i + j) + co f i * co g j) % m) : ∀ k, co (L.set (i + j) v) k % m = midC f g i (j + 1) k % m := by
  intro k
  rw [co_set hL]
  by_cases e : k = i + j
  · subst e
    rw [if_pos rfl, hv, mid_at, Int.add_emod, h, ← Int.add_emod]
  · rw [if_neg e, mid_off e, h]
theorem rep1_ok {x : PyData} {a b : Nat} (h : a + b ≤ 16777216) : repOk [x].length ((a : Int) + (b : Int)) := by
  refine ⟨by omega, by omega, ?_⟩
  rw [List.length_singleton, Nat.one_mul]; omega
theorem rep1_ok' {x : PyData} {a : Int} (h0 : 0 ≤ a) (h : a ≤ 16777216) : repOk [x].length a := by
  refine ⟨by omega, by omega, ?_⟩
  rw [List.length_singleton, Nat.one_mul]; omega
theorem sum_len {s : Int} {f g : List Int} : (sumL s f g).length = max f.length g.length := by unfold sumL; rw [List.length_map, List.length_range]
theorem mul_len {g : List Int} : ∀ {f : List Int}, (mulL f g).length ≤ f.length + g.length
  | [] => Nat.zero_le _
  | c :: f => by
    show (sumL 1 _ _).length ≤ _
    have := mul_len (f := f) (g := g)
    rw [sum_len, List.length_map, List.length_cons, List.length_cons]
    omega
theorem slope_len {f : List Int} : (slopeL f).length ≤ f.length := by
  unfold slopeL
  rw [List.length_map, rgI_len]; omega
theorem cutD_iL {l : List Int} {lo hi : Option Int} : cutD (iL l) lo hi = iL (cutD l lo hi) := by
  unfold cutD
  rw [iL_len]
  unfold iL
  rw [List.map_take, List.map_drop]
theorem cutD_len {l : List Int} {lo hi : Option Int} : (cutD l lo hi).length ≤ l.length := by
  unfold cutD
  rw [List.length_take, List.length_drop]; omega
theorem cutD_drop1 {l : List Int} : cutD l (some 1) none = l.drop 1 := by
  unfold cutD
  show (l.drop (HT.sIx l.length 0 (some ((1 : Nat) : Int)))).take (l.length - _) = _
  rw [HT.sIx_nat]
  cases l with
  | nil => rfl
  | cons x l =>
    rw [Nat.min_eq_left (by rw [List.length_cons]; omega)]
    exact List.take_of_length_le (by rw [List.length_drop]; exact Nat.le_refl _)
theorem co_drop {l : List Int} {n k : Nat} : co (l.drop n) k = co l (n + k) := by unfold co; rw [List.getElem?_drop]
theorem cut_slope {m : Int} {f : List Int} : cut m (((rgI 0 f.length).map fun x => x * co f x.toNat).drop 1) = cut m (slopeL f) :=
  cut_ext fun k => by
    unfold slopeL
    rw [co_drop, co_rgI, co_rgI]
    by_cases h : k < ((f.length : Int) - 1).toNat
    · rw [if_pos h, if_pos (by omega)]
      have : (0 : Int) + ((1 + k : Nat) : Int) = 1 + (k : Int) := by omega
      rw [this]
    · rw [if_neg h, if_neg (by omega)]
/-- the repr of a cut list -/
theorem repr_cut {m : Int} {l : List Int} (m0 : 0 < m) (hm : m ≤ 1000000000000000000000) (hl : l.length ≤ 40000) : PyData.showable (.tuple (iL (cut m l))) = true ∧ (PyData.tuple (iL (cut m l))).depth ≤ 64 ∧ (PyData.tuple (iL (cut m l))).shown.length ≤ 16777216 :=
  repr_tup ((cut_isP m0 l).bd hm) (Nat.le_trans (cut_len m l) hl)
end Mini
end
section
set_option Elab.async false
set_option linter.all false
set_option maxRecDepth 100000
/-! polynomials as lists of coefficients: the laws of sums and products. -/
namespace Mini
open PySem

/-- the place shifted by one -/
def sh (F : Nat → Int) (k : Nat) : Int := if k = 0 then 0 else F (k - 1)
theorem sh_zero {F : Nat → Int} : sh F 0 = 0 := rfl
theorem sh_succ {F : Nat → Int} {k : Nat} : sh F (k + 1) = F k := by unfold sh; rw [if_neg (Nat.succ_ne_zero k), Nat.add_sub_cancel]
theorem mul_cons {c : Int} {f g : List Int} {k : Nat} : co (mulL (c :: f) g) k = c * co g k + sh (co (mulL f g)) k := co_mul_cons
theorem mul_cons_r {d : Int} {g : List Int} : ∀ {f : List Int} {k : Nat}, co (mulL f (d :: g)) k = d * co f k + sh (co (mulL f g)) k
  | [], k => by
    rw [co_mul_nil, co_nil, Int.mul_zero, Int.zero_add]
    cases k with
    | zero => rfl
    | succ k => rw [sh_succ]; rfl
  | c :: f, 0 => by
    rw [mul_cons, sh_zero, sh_zero, co_zero, co_zero, Int.mul_comm]
  | c :: f, k + 1 => by
    rw [mul_cons, sh_succ, sh_succ, co_succ, co_succ, mul_cons_r, mul_cons]
    omega
theorem mul_nil_r : ∀ {f : List Int} {k : Nat}, co (mulL f []) k = 0
  | [], k => rfl
  | c :: f, k => by
    rw [mul_cons, co_nil, Int.mul_zero, Int.zero_add]
    cases k with
    | zero => rfl
    | succ k => rw [sh_succ]; exact mul_nil_r
theorem mul_comm' {g : List Int} : ∀ {f : List Int} {k : Nat}, co (mulL f g) k = co (mulL g f) k
  | [], k => by rw [mul_nil_r]; rfl
  | c :: f, k => by
    rw [mul_cons, mul_cons_r]
    cases k with
    | zero => rfl
    | succ k => rw [sh_succ, sh_succ, mul_comm']
/-- alike by m -/
def EqM (m : Int) (a b : List Int) : Prop := ∀ k, co a k % m = co b k % m
theorem EqM.refl {m : Int} {a : List Int} : EqM m a a := fun _ => rfl
theorem EqM.symm {m : Int} {a b : List Int} (h : EqM m a b) : EqM m b a := fun k => (h k).symm
theorem EqM.trans {m : Int} {a b c : List Int} (h : EqM m a b) (h' : EqM m b c) : EqM m a c := fun k => (h k).trans (h' k)
theorem EqM.of {m : Int} {a b : List Int} (h : ∀ k, co a k = co b k) : EqM m a b := fun k => by rw [h]
theorem eqM_cut {m : Int} {a : List Int} : EqM m (cut m a) a := fun k => by rw [co_cut, Int.emod_emod]
theorem EqM.cut {m : Int} {a b : List Int} (h : EqM m a b) : cut m a = Mini.cut m b := cut_ext h
theorem add_mod {m a b a' b' : Int} (h : a % m = a' % m) (h' : b % m = b' % m) : (a + b) % m = (a' + b') % m := by
  rw [Int.add_emod, h, h', ← Int.add_emod]
theorem mul_mod {m a b a' b' : Int} (h : a % m = a' % m) (h' : b % m = b' % m) : (a * b) % m = (a' * b') % m := by
  rw [Int.mul_emod, h, h', ← Int.mul_emod]
theorem EqM.mul_r {m : Int} {b b' : List Int} (h : EqM m b b') : ∀ {f : List Int}, EqM m (mulL f b) (mulL f b')
  | [] => EqM.refl
  | c :: f => fun k => by
    rw [mul_cons, mul_cons]
    refine add_mod (mul_mod rfl (h k)) ?_
    cases k with
    | zero => rfl
    | succ k => rw [sh_succ, sh_succ]; exact EqM.mul_r h k
theorem EqM.mul {m : Int} {a a' b b' : List Int} (h : EqM m a a') (h' : EqM m b b') : EqM m (mulL a b) (mulL a' b') :=
  (EqM.mul_r h').trans ((EqM.of fun _ => mul_comm').trans ((EqM.mul_r h).trans (EqM.of fun _ => mul_comm')))
theorem EqM.sum {m s : Int} {a a' b b' : List Int} (h : EqM m a a') (h' : EqM m b b') : EqM m (sumL s a b) (sumL s a' b') := fun k => by
  rw [co_sum, co_sum]
  exact add_mod (h k) (mul_mod rfl (h' k))
theorem mul_sum_r {s : Int} {a b : List Int} : ∀ {f : List Int} {k : Nat}, co (mulL f (sumL s a b)) k = co (mulL f a) k + s * co (mulL f b) k
  | [], k => by rw [co_mul_nil, co_mul_nil, co_mul_nil, Int.mul_zero, Int.zero_add]
  | c :: f, k => by
    rw [mul_cons, mul_cons, mul_cons, co_sum, Int.mul_add, Int.mul_add, Int.mul_left_comm]
    cases k with
    | zero => rw [sh_zero, sh_zero, sh_zero, Int.mul_zero]; omega
    | succ k => rw [sh_succ, sh_succ, sh_succ, mul_sum_r]; omega
theorem mul_sum_l {s : Int} {a b f : List Int} {k : Nat} : co (mulL (sumL s a b) f) k = co (mulL a f) k + s * co (mulL b f) k := by
  rw [mul_comm', mul_sum_r, mul_comm', mul_comm' (f := f) (g := b)]
theorem mul_smul_l {c : Int} {g : List Int} : ∀ {f : List Int} {k : Nat}, co (mulL (f.map (c * ·)) g) k = c * co (mulL f g) k
  | [], k => by rw [List.map_nil, co_mul_nil, Int.mul_zero]
  | d :: f, k => by
    rw [List.map_cons, mul_cons, mul_cons, Int.mul_add, Int.mul_assoc]
    cases k with
    | zero => rw [sh_zero, sh_zero, Int.mul_zero]
    | succ k => rw [sh_succ, sh_succ, mul_smul_l]
theorem mul_assoc' {g h : List Int} : ∀ {f : List Int} {k : Nat}, co (mulL (mulL f g) h) k = co (mulL f (mulL g h)) k
  | [], k => rfl
  | c :: f, k => by
    rw [mul_cons]
    show co (mulL (sumL 1 (g.map (c * ·)) (0 :: mulL f g)) h) k = _
    rw [mul_sum_l, mul_smul_l, Int.one_mul, mul_cons, Int.zero_mul, Int.zero_add]
    cases k with
    | zero => rfl
    | succ k => rw [sh_succ, sh_succ, mul_assoc']
theorem mul_one_l {g : List Int} {k : Nat} : co (mulL [1] g) k = co g k := by
  rw [mul_cons, Int.one_mul]
  cases k with
  | zero => rw [sh_zero, Int.add_zero]
  | succ k => rw [sh_succ, co_mul_nil, Int.add_zero]
theorem mul_const_l {c : Int} {g : List Int} {k : Nat} : co (mulL [c] g) k = c * co g k := by
  rw [mul_cons]
  cases k with
  | zero => rw [sh_zero, Int.add_zero]
  | succ k => rw [sh_succ, co_mul_nil, Int.add_zero]

/-! ### values -/
theorem ev_zero {x : Int} : ∀ {b : List Int}, (∀ k, co b k = 0) → ev x b = 0
  | [], _ => rfl
  | c :: b, h => by
    show c + x * ev x b = 0
    rw [ev_zero fun k => h (k + 1), show c = 0 from h 0, Int.mul_zero, Int.add_zero]
theorem ev_co {x : Int} : ∀ {a b : List Int}, (∀ k, co a k = co b k) → ev x a = ev x b
  | [], b, h => (ev_zero fun k => (h k).symm).symm
  | c :: a, [], h => ev_zero h
  | c :: a, d :: b, h => by
    show c + x * ev x a = d + x * ev x b
    rw [ev_co fun k => h (k + 1), show c = d from h 0]
theorem ev_zeroM {m x : Int} : ∀ {b : List Int}, (∀ k, co b k % m = 0) → ev x b % m = 0
  | [], _ => Int.zero_emod m
  | c :: b, h => by
    show (c + x * ev x b) % m = 0
    have e := add_mod (m := m) (a := c) (b := x * ev x b) (a' := 0) (b' := x * 0) ((h 0).trans (Int.zero_emod m).symm) (mul_mod rfl ((ev_zeroM fun k => h (k + 1)).trans (Int.zero_emod m).symm))
    rw [e, Int.mul_zero]
    exact Int.zero_emod m
theorem ev_eqM {m x : Int} : ∀ {a b : List Int}, EqM m a b → ev x a % m = ev x b % m
  | [], b, h => ((ev_zeroM fun k => (h k).symm.trans (Int.zero_emod m)).trans (Int.zero_emod m).symm).symm
  | c :: a, [], h => (ev_zeroM fun k => (h k).trans (Int.zero_emod m)).trans (Int.zero_emod m).symm
  | c :: a, d :: b, h => by
    show (c + x * ev x a) % m = (d + x * ev x b) % m
    exact add_mod (h 0) (mul_mod rfl (ev_eqM fun k => h (k + 1)))
theorem ev_cons (x c : Int) (l : List Int) : ev x (c :: l) = c + x * ev x l := rfl
/-- a sum, place by place -/
def addP (s : Int) : List Int → List Int → List Int
  | [], b => b.map (s * ·)
  | a, [] => a
  | c :: a, d :: b => (c + s * d) :: addP s a b
theorem co_addP {s : Int} : ∀ {a b : List Int} {k : Nat}, co (addP s a b) k = co a k + s * co b k
  | [], b, k => by
    show co (b.map (s * ·)) k = _
    rw [co_map (Int.mul_zero s), co_nil, Int.zero_add]
  | c :: a, [], k => by
    show co (c :: a) k = _
    rw [co_nil, Int.mul_zero, Int.add_zero]
  | c :: a, d :: b, 0 => rfl
  | c :: a, d :: b, k + 1 => by
    show co (addP s a b) k = co a k + s * co b k
    exact co_addP
theorem ev_smul {x s : Int} : ∀ {b : List Int}, ev x (b.map (s * ·)) = s * ev x b
  | [] => (Int.mul_zero s).symm
  | d :: b => by
    rw [List.map_cons, ev_cons, ev_cons, ev_smul, Int.mul_add, Int.mul_left_comm]
theorem ev_addP {x s : Int} : ∀ {a b : List Int}, ev x (addP s a b) = ev x a + s * ev x b
  | [], b => by
    show ev x (b.map (s * ·)) = 0 + _
    rw [ev_smul, Int.zero_add]
  | c :: a, [] => by
    show ev x (c :: a) = ev x (c :: a) + s * 0
    rw [Int.mul_zero, Int.add_zero]
  | c :: a, d :: b => by
    show c + s * d + x * ev x (addP s a b) = c + x * ev x a + s * (d + x * ev x b)
    rw [ev_addP, Int.mul_add, Int.mul_add, Int.mul_left_comm x s]
    omega
theorem ev_sum {x s : Int} {a b : List Int} : ev x (sumL s a b) = ev x a + s * ev x b := by
  rw [← ev_addP]
  exact ev_co fun k => by rw [co_sum, co_addP]
theorem ev_mul {x : Int} {g : List Int} : ∀ {f : List Int}, ev x (mulL f g) = ev x f * ev x g
  | [] => (Int.zero_mul _).symm
  | c :: f => by
    show ev x (sumL 1 (g.map (c * ·)) (0 :: mulL f g)) = _
    rw [ev_sum, ev_smul, ev_cons, ev_cons, Int.one_mul, Int.zero_add, ev_mul, Int.add_mul, Int.mul_assoc]
theorem co_mul_nil' {g h : List Int} {k : Nat} : co (mulL (mulL [] g) h) k = 0 := rfl
/-! ### one upon another -/
def uponL : List Int → List Int → List Int
  | [], _ => []
  | c :: f, g => sumL 1 (mulL (uponL f g) g) [c]
theorem upon_len {g : List Int} : ∀ {f : List Int}, (uponL f g).length ≤ f.length * g.length + 1
  | [] => Nat.zero_le _
  | c :: f => by
    have h1 := upon_len (f := f) (g := g)
    have h2 := mul_len (f := uponL f g) (g := g)
    show (sumL 1 _ _).length ≤ (f.length + 1) * g.length + 1
    rw [sum_len, Nat.add_mul, List.length_singleton]
    omega
theorem upon_step {m c : Int} {f g : List Int} : cut m (sumL 1 (cut m (mulL (cut m (uponL f g)) g)) (cut m [c])) = cut m (uponL (c :: f) g) :=
  cut_ext (EqM.sum (eqM_cut.trans (EqM.mul eqM_cut EqM.refl)) eqM_cut)
theorem upon_fold {m c : Int} {D P r g U : List Int} (h : EqM m U (sumL 1 D (mulL P (uponL (c :: r) g)))) : EqM m U (sumL 1 (cut m (sumL 1 D (cut m (mulL (cut m [c]) P)))) (mulL (cut m (mulL P g)) (uponL r g))) := by
  refine h.trans (EqM.trans ?_ (EqM.sum (EqM.symm (eqM_cut.trans (EqM.sum EqM.refl (eqM_cut.trans (EqM.mul eqM_cut EqM.refl))))) (EqM.symm (EqM.mul eqM_cut EqM.refl))))
  refine EqM.of fun k => ?_
  rw [co_sum, co_sum, co_sum, Int.one_mul, Int.one_mul, Int.one_mul]
  show co D k + co (mulL P (sumL 1 (mulL (uponL r g) g) [c])) k = _
  rw [mul_sum_r, Int.one_mul, mul_comm' (f := P) (g := [c]), mul_assoc']
  have : co (mulL P (mulL (uponL r g) g)) k = co (mulL P (mulL g (uponL r g))) k := by
    have := EqM.mul (m := 0) (a := P) (a' := P) (b := mulL (uponL r g) g) (b' := mulL g (uponL r g)) EqM.refl (EqM.of fun _ => mul_comm') k
    rwa [Int.emod_zero, Int.emod_zero] at this
  rw [this]
  omega
theorem upon_fold_end {m : Int} {D P g U : List Int} (h : EqM m U (sumL 1 D (mulL P (uponL [] g)))) : EqM m U D :=
  h.trans (EqM.of fun k => by
    rw [co_sum]
    show _ + 1 * co (mulL P []) k = _
    rw [mul_nil_r]; omega)
theorem upon_fold_start {m : Int} {U : List Int} : EqM m U (sumL 1 [] (mulL (cut m [1]) U)) := by
  refine EqM.trans (EqM.of fun k => ?_) (EqM.sum EqM.refl (EqM.mul eqM_cut.symm EqM.refl))
  rw [co_sum, mul_one_l, co_nil]; omega
theorem upon_line : ∀ {f : List Int} {k : Nat}, co (uponL f [0, 1]) k = co f k
  | [], _ => rfl
  | c :: f, k => by
    show co (sumL 1 (mulL (uponL f [0, 1]) [0, 1]) [c]) k = _
    rw [co_sum, mul_comm', mul_cons, Int.zero_mul]
    cases k with
    | zero => rw [sh_zero, co_zero, co_zero]; omega
    | succ k => rw [sh_succ, mul_one_l, upon_line, co_succ, co_succ, co_nil]; omega
theorem line_upon {g : List Int} {k : Nat} : co (uponL [0, 1] g) k = co g k := by
  show co (sumL 1 (mulL (sumL 1 (mulL [] g) [1]) g) [0]) k = _
  rw [co_sum, mul_sum_l, co_mul_nil', mul_one_l]
  have : co [0] k = 0 := by cases k <;> rfl
  rw [this]; omega
end Mini
end
section
set_option Elab.async false
set_option linter.all false
set_option maxRecDepth 100000
/-! slopes, and values of one upon another. -/
namespace Mini
open PySem

theorem ev_upon {x : Int} {g : List Int} : ∀ {f : List Int}, ev x (uponL f g) = ev (ev x g) f
  | [] => rfl
  | c :: f => by
    show ev x (sumL 1 (mulL (uponL f g) g) [c]) = c + ev x g * ev (ev x g) f
    rw [ev_sum, ev_mul, ev_upon, ev_cons, Int.one_mul, Int.mul_comm]
    show _ + (c + x * 0) = _
    omega
theorem ev_modx {m x y : Int} (h : x % m = y % m) : ∀ {f : List Int}, ev x f % m = ev y f % m
  | [] => rfl
  | c :: f => by
    rw [ev_cons, ev_cons]
    exact add_mod rfl (mul_mod h (ev_modx h))
theorem co_slope {f : List Int} {k : Nat} : co (slopeL f) k = ((k : Int) + 1) * co f (k + 1) := by
  unfold slopeL
  rw [co_rgI]
  by_cases h : k < ((f.length : Int) - 1).toNat
  · rw [if_pos h, Int.add_comm 1, show ((k : Int) + 1).toNat = k + 1 by omega]
  · rw [if_neg h, co_ge (l := f) (by omega), Int.mul_zero]
theorem EqM.slope {m : Int} {a b : List Int} (h : EqM m a b) : EqM m (slopeL a) (slopeL b) := fun k => by
  rw [co_slope, co_slope]
  exact mul_mod rfl (h (k + 1))
theorem slope_cons {c : Int} {f : List Int} {k : Nat} : co (slopeL (c :: f)) k = co f k + sh (co (slopeL f)) k := by
  rw [co_slope, co_succ]
  cases k with
  | zero => rw [sh_zero]; simp
  | succ k =>
    rw [sh_succ, co_slope, Int.add_mul _ 1, Int.one_mul, Int.add_comm]
    have : ((k + 1 : Nat) : Int) = (k : Int) + 1 := by omega
    rw [this]
theorem mul_ext_l {a b g : List Int} (h : ∀ k, co a k = co b k) {k : Nat} : co (mulL a g) k = co (mulL b g) k := by
  have := EqM.mul (m := 0) (EqM.of h) (EqM.refl (a := g)) k
  rwa [Int.emod_zero, Int.emod_zero] at this
theorem mul_ext_r {a b g : List Int} (h : ∀ k, co a k = co b k) {k : Nat} : co (mulL g a) k = co (mulL g b) k := by
  have := EqM.mul (m := 0) (EqM.refl (a := g)) (EqM.of h) k
  rwa [Int.emod_zero, Int.emod_zero] at this
theorem slope_mul {g : List Int} : ∀ {f : List Int} {k : Nat}, co (slopeL (mulL f g)) k = co (mulL (slopeL f) g) k + co (mulL f (slopeL g)) k
  | [], k => by
    rw [co_slope, co_mul_nil, co_mul_nil, Int.mul_zero]
    have : co (mulL (slopeL []) g) k = co (mulL [] g) k := mul_ext_l fun k => by rw [co_slope, co_nil, co_nil, Int.mul_zero]
    rw [this, co_mul_nil]; rfl
  | c :: f, k => by
    have e1 : co (mulL (slopeL (c :: f)) g) k = co (mulL f g) k + sh (co (mulL (slopeL f) g)) k := by
      have : co (mulL (slopeL (c :: f)) g) k = co (mulL (sumL 1 f (0 :: slopeL f)) g) k := mul_ext_l fun k => by
        rw [slope_cons, co_sum, Int.one_mul]
        cases k with
        | zero => rfl
        | succ k => rw [sh_succ, co_succ]
      rw [this, mul_sum_l, Int.one_mul, mul_cons, Int.zero_mul, Int.zero_add]
    rw [e1, mul_cons (f := f) (g := slopeL g), co_slope, mul_cons, sh_succ, Int.mul_add, Int.mul_left_comm, co_slope (f := g)]
    cases k with
    | zero =>
      rw [sh_zero, sh_zero]
      simp
      omega
    | succ k =>
      rw [sh_succ, sh_succ]
      have := slope_mul (f := f) (g := g) (k := k)
      rw [co_slope] at this
      rw [Int.add_mul ((k + 1 : Nat) : Int) 1 (co (mulL f g) (k + 1)), Int.one_mul]
      have e : ((k + 1 : Nat) : Int) = (k : Int) + 1 := by omega
      rw [e] at *
      omega
theorem upon_zero {g : List Int} : ∀ {a : List Int}, (∀ k, co a k = 0) → ∀ k, co (uponL a g) k = 0
  | [], _, _ => rfl
  | c :: a, h, k => by
    show co (sumL 1 (mulL (uponL a g) g) [c]) k = 0
    have hc : c = 0 := h 0
    subst hc
    rw [co_sum, mul_ext_l (b := []) fun k => by rw [upon_zero (fun k => h (k + 1)) k, co_nil], co_mul_nil]
    cases k <;> rfl
theorem upon_ext {g : List Int} : ∀ {a b : List Int}, (∀ k, co a k = co b k) → ∀ k, co (uponL a g) k = co (uponL b g) k
  | [], b, h, k => (upon_zero (fun k => (h k).symm) k).symm
  | c :: a, [], h, k => upon_zero h k
  | c :: a, d :: b, h, k => by
    have hc : c = d := h 0
    subst hc
    show co (sumL 1 (mulL (uponL a g) g) [c]) k = co (sumL 1 (mulL (uponL b g) g) [c]) k
    rw [co_sum, co_sum, mul_ext_l fun k => upon_ext (fun k => h (k + 1)) k]
theorem upon_addP {g : List Int} : ∀ {a b : List Int} {k : Nat}, co (uponL (addP 1 a b) g) k = co (uponL a g) k + co (uponL b g) k
  | [], b, k => by
    rw [upon_ext (b := b) fun k => by rw [co_addP, co_nil]; omega]
    show _ = 0 + _
    omega
  | c :: a, [], k => by
    rw [upon_ext (b := c :: a) fun k => by rw [co_addP, co_nil]; omega]
    show _ = _ + 0
    omega
  | c :: a, d :: b, k => by
    show co (sumL 1 (mulL (uponL (addP 1 a b) g) g) [c + 1 * d]) k = co (sumL 1 (mulL (uponL a g) g) [c]) k + co (sumL 1 (mulL (uponL b g) g) [d]) k
    rw [co_sum, co_sum, co_sum, mul_ext_l (b := sumL 1 (uponL a g) (uponL b g)) fun k => by rw [upon_addP, co_sum, Int.one_mul], mul_sum_l]
    cases k with
    | zero => rw [co_zero, co_zero, co_zero]; omega
    | succ k => rw [co_succ, co_succ, co_succ, co_nil]; omega
theorem slope_upon {g : List Int} : ∀ {f : List Int} {k : Nat}, co (slopeL (uponL f g)) k = co (mulL (uponL (slopeL f) g) (slopeL g)) k
  | [], k => by
    rw [co_slope]
    show _ * co [] _ = _
    rw [co_nil, Int.mul_zero, mul_ext_l (b := []) fun k => by rw [upon_zero (fun k => by rw [co_slope, co_nil, Int.mul_zero]), co_nil], co_mul_nil]
  | c :: f, k => by
    have e1 : co (slopeL (uponL (c :: f) g)) k = co (slopeL (mulL (uponL f g) g)) k := by
      rw [co_slope, co_slope]
      show _ * co (sumL 1 (mulL (uponL f g) g) [c]) (k + 1) = _
      rw [co_sum, co_succ, co_nil, Int.mul_zero, Int.add_zero]
    rw [e1, slope_mul, mul_ext_l (b := mulL (uponL (slopeL f) g) (slopeL g)) (fun k => slope_upon)]
    have e2 : ∀ k, co (uponL (slopeL (c :: f)) g) k = co (sumL 1 (uponL f g) (mulL (uponL (slopeL f) g) g)) k := by
      intro k
      rw [upon_ext (b := addP 1 f (0 :: slopeL f)) (fun k => by
        rw [slope_cons, co_addP, Int.one_mul]
        cases k with
        | zero => rfl
        | succ k => rw [sh_succ, co_succ]), upon_addP, co_sum, Int.one_mul]
      show _ + co (sumL 1 (mulL (uponL (slopeL f) g) g) [0]) k = _
      rw [co_sum]
      have : co [0] k = 0 := by cases k <;> rfl
      rw [this]; omega
    rw [mul_ext_l e2, mul_sum_l, Int.one_mul, mul_assoc', mul_assoc', mul_ext_r (a := mulL (slopeL g) g) (b := mulL g (slopeL g)) (fun k => mul_comm')]
    omega
theorem eqM_const {m c d : Int} (h : c % m = d % m) : EqM m [c] [d] := fun k => by
  cases k with
  | zero => exact h
  | succ k => rfl
theorem eqM_nil0 {m : Int} : EqM m [] [0] := fun k => by cases k <;> rfl
theorem EqM.upon {m : Int} {g : List Int} : ∀ {a b : List Int}, EqM m a b → EqM m (uponL a g) (uponL b g)
  | [], [], _ => EqM.refl
  | [], d :: b, h => by
    have ih : EqM m (uponL [] g) (uponL b g) := EqM.upon fun k => h (k + 1)
    have e : EqM m [0] [d] := eqM_const (h 0)
    refine EqM.trans ?_ (EqM.sum (EqM.mul ih EqM.refl) e)
    refine EqM.trans eqM_nil0 (EqM.of fun k => ?_)
    rw [co_sum]
    show _ = co [] k + _
    rw [co_nil]; omega
  | c :: a, [], h => by
    have ih : EqM m (uponL a g) (uponL [] g) := EqM.upon fun k => h (k + 1)
    have e : EqM m [c] [0] := eqM_const (h 0)
    refine EqM.trans (EqM.sum (EqM.mul ih EqM.refl) e) ?_
    refine EqM.trans (EqM.of fun k => ?_) eqM_nil0.symm
    rw [co_sum]
    show co [] k + _ = _
    rw [co_nil]; omega
  | c :: a, d :: b, h =>
    EqM.sum (EqM.mul (EqM.upon fun k => h (k + 1)) EqM.refl) (eqM_const (h 0))
theorem slope_times {m : Int} {f g : List Int} : cut m (slopeL (cut m (mulL f g))) = cut m (sumL 1 (cut m (mulL (cut m (slopeL f)) g)) (cut m (mulL f (cut m (slopeL g))))) :=
  cut_ext <| (EqM.slope eqM_cut).trans <| EqM.trans (EqM.of fun k => by
    rw [slope_mul, ← Int.one_mul (co (mulL f (slopeL g)) k), ← co_sum]) (EqM.sum (EqM.symm (eqM_cut.trans (EqM.mul eqM_cut EqM.refl))) (EqM.symm (eqM_cut.trans (EqM.mul EqM.refl eqM_cut))))
theorem slope_chain {m : Int} {f g : List Int} : cut m (slopeL (cut m (uponL f g))) = cut m (mulL (cut m (uponL (cut m (slopeL f)) g)) (cut m (slopeL g))) :=
  cut_ext <| (EqM.slope eqM_cut).trans <| EqM.trans (EqM.of fun k => slope_upon) (EqM.mul (EqM.symm (eqM_cut.trans (EqM.upon eqM_cut))) eqM_cut.symm)
theorem val_plus {m x : Int} {f g : List Int} : ev x (cut m (sumL 1 f g)) % m = (ev x f % m + ev x g % m) % m := by rw [ev_eqM eqM_cut, ev_sum, Int.one_mul, Int.add_emod]
theorem val_less {m x : Int} {f g : List Int} : ev x (cut m (sumL (-1) f g)) % m = (ev x f % m - ev x g % m) % m := by rw [ev_eqM eqM_cut, ev_sum, Int.neg_one_mul, ← Int.sub_eq_add_neg, Int.sub_emod]
theorem val_times {m x : Int} {f g : List Int} : ev x (cut m (mulL f g)) % m = (ev x f % m * (ev x g % m)) % m := by rw [ev_eqM eqM_cut, ev_mul, Int.mul_emod]
theorem val_upon {m x : Int} {f g : List Int} : ev x (cut m (uponL f g)) % m = ev (ev x g % m) f % m := by
  rw [ev_eqM eqM_cut, ev_upon]
  exact ev_modx (Int.emod_emod ..).symm
theorem val_far {m x t : Int} {f : List Int} : ev (x + m * t) f % m = ev x f % m := ev_modx (by rw [Int.add_mul_emod_self_left])
end Mini
end
section
set_option Elab.async false
set_option linter.all false
set_option maxRecDepth 100000
/-! differences and their sums. -/
namespace Mini
open PySem

/-- n times taken differences -/
def dif : Nat → (Nat → Int) → Nat → Int
  | 0, F, j => F j
  | n + 1, F, j => dif n F (j + 1) - dif n F j
/-- ways to choose -/
def cho : Nat → Nat → Nat
  | _, 0 => 1
  | 0, _ + 1 => 0
  | n + 1, k + 1 => cho n k + cho n (k + 1)
theorem cho_zero (n : Nat) : cho n 0 = 1 := by cases n <;> rfl
theorem cho_big : ∀ {n k : Nat}, n < k → cho n k = 0
  | 0, k + 1, _ => rfl
  | n + 1, k + 1, h => by
    show cho n k + cho n (k + 1) = 0
    rw [cho_big (by omega), cho_big (by omega)]
theorem cho_step : ∀ {n k : Nat}, cho n (k + 1) * (k + 1) = cho n k * (n - k)
  | 0, 0 => rfl
  | 0, k + 1 => by show 0 * _ = 0 * _; rw [Nat.zero_mul, Nat.zero_mul]
  | n + 1, 0 => by
    have h : cho n 1 * 1 = cho n 0 * (n - 0) := cho_step (n := n) (k := 0)
    show (cho n 0 + cho n 1) * 1 = cho (n + 1) 0 * (n + 1 - 0)
    rw [cho_zero, Nat.one_mul] at h
    rw [cho_zero, cho_zero, Nat.one_mul]
    omega
  | n + 1, k + 1 => by
    have h1 := cho_step (n := n) (k := k)
    have h2 := cho_step (n := n) (k := k + 1)
    show (cho n (k + 1) + cho n (k + 2)) * (k + 2) = (cho n k + cho n (k + 1)) * (n + 1 - (k + 1))
    rw [Nat.add_sub_add_right, Nat.add_mul, Nat.add_mul, h2, ← h1]
    by_cases h : k + 1 ≤ n
    · have e : n - k = (n - (k + 1)) + 1 := by omega
      rw [e, Nat.mul_add, Nat.mul_add, Nat.mul_add]; omega
    · rw [cho_big (n := n) (k := k + 1) (by omega), Nat.zero_mul, Nat.zero_mul, Nat.zero_mul, Nat.zero_mul]
/-- a sum of n -/
def sumTo : Nat → (Nat → Int) → Int
  | 0, _ => 0
  | n + 1, F => sumTo n F + F n
def sgn (n : Nat) : Int := if n % 2 = 0 then 1 else -1
theorem sgn_succ (n : Nat) : sgn (n + 1) = - sgn n := by
  unfold sgn
  by_cases h : n % 2 = 0
  · rw [if_pos h, if_neg (by omega)]
  · rw [if_neg h, if_pos (by omega)]; rfl
theorem sumTo_congr {n : Nat} {F G : Nat → Int} (h : ∀ i, i < n → F i = G i) : sumTo n F = sumTo n G := by
  induction n with
  | zero => rfl
  | succ n ih => show sumTo n F + F n = sumTo n G + G n; rw [ih fun i hi => h i (by omega), h n (by omega)]
theorem sumTo_sub {n : Nat} {F G : Nat → Int} : sumTo n (fun i => F i - G i) = sumTo n F - sumTo n G := by
  induction n with
  | zero => rfl
  | succ n ih => show sumTo n (fun i => F i - G i) + (F n - G n) = sumTo n F + F n - (sumTo n G + G n); rw [ih]; omega
theorem sumTo_shift {n : Nat} {F : Nat → Int} : sumTo (n + 1) F = F 0 + sumTo n (fun i => F (i + 1)) := by
  induction n with
  | zero => show 0 + F 0 = F 0 + 0; omega
  | succ n ih =>
    show sumTo (n + 1) F + F (n + 1) = F 0 + (sumTo n (fun i => F (i + 1)) + F (n + 1))
    rw [ih]; omega
theorem dif_sum {F : Nat → Int} : ∀ {n j : Nat}, dif n F j = sumTo (n + 1) fun i => sgn (n + i) * cho n i * F (j + i)
  | 0, j => by
    show F j = 0 + 1 * 1 * F (j + 0)
    rw [Int.zero_add, Int.one_mul, Int.one_mul, Nat.add_zero]
  | n + 1, j => by
    show dif n F (j + 1) - dif n F j = _
    have hA := dif_sum (F := F) (n := n) (j := j + 1)
    have hB := dif_sum (F := F) (n := n) (j := j)
    have hB2 : sumTo (n + 2) (fun i => sgn (n + i) * cho n i * F (j + i)) = sumTo (n + 1) (fun i => sgn (n + i) * cho n i * F (j + i)) := by
      show sumTo (n + 1) _ + sgn (n + (n + 1)) * cho n (n + 1) * F (j + (n + 1)) = _
      rw [cho_big (Nat.lt_succ_self n)]
      simp
    rw [hA, hB, ← hB2, sumTo_shift (n := n + 1), sumTo_shift (n := n + 1)]
    rw [sumTo_congr (n := n + 1) (F := fun i => sgn (n + 1 + (i + 1)) * cho (n + 1) (i + 1) * F (j + (i + 1))) (G := fun i => sgn (n + i) * cho n i * F (j + 1 + i) - sgn (n + (i + 1)) * cho n (i + 1) * F (j + (i + 1))) fun i _ => ?_, sumTo_sub]
    · simp only [Nat.add_zero, cho_zero, sgn_succ, Int.neg_mul]
      omega
    · have e1 : n + 1 + (i + 1) = n + i + 1 + 1 := by omega
      have e2 : n + (i + 1) = n + i + 1 := by omega
      have e3 : j + 1 + i = j + (i + 1) := by omega
      show sgn (n + 1 + (i + 1)) * ((cho n i + cho n (i + 1) : Nat) : Int) * F (j + (i + 1)) = _
      rw [e1, e2, e3, sgn_succ, sgn_succ, Int.neg_neg, Int.natCast_add, Int.mul_add, Int.add_mul, Int.neg_mul, Int.neg_mul]
      omega
/-- neighbours -/
def nbL (m : Int) : Nat → List Int
  | 0 => cut m [1]
  | j + 1 => cut m (mulL (nbL m j) (cut m [0 - (j : Int), 1]))
theorem nb_isP {m : Int} (hm : 0 < m) (j : Nat) : IsP m (nbL m j) := by cases j <;> exact cut_isP hm _
theorem nb_len {m : Int} : ∀ j : Nat, (nbL m j).length ≤ 2 * j + 1
  | 0 => cut_len ..
  | j + 1 => by
    have h1 := cut_len m (mulL (nbL m j) (cut m [0 - (j : Int), 1]))
    have h2 := mul_len (f := nbL m j) (g := cut m [0 - (j : Int), 1])
    have h3 := cut_len m [0 - (j : Int), 1]
    have h4 := nb_len (m := m) j
    show (cut m _).length ≤ _
    simp only [List.length_cons, List.length_nil] at h3
    omega
end Mini
end
section
set_option Elab.async false
set_option linter.all false
set_option maxRecDepth 100000
set_option exponentiation.threshold 3000
/-! falls: sums of neighbours. -/
namespace Mini
open PySem

/-- x, x less 1, and so on, k of them -/
def ff (x : Int) : Nat → Int
  | 0 => 1
  | k + 1 => ff x k * (x - k)
theorem ff_shift {x : Int} : ∀ k : Nat, ff (x + 1) (k + 1) = (x + 1) * ff x k
  | 0 => by show 1 * (x + 1 - ((0 : Nat) : Int)) = (x + 1) * 1; omega
  | k + 1 => by
    show ff (x + 1) (k + 1) * (x + 1 - ((k + 1 : Nat) : Int)) = (x + 1) * (ff x k * (x - k))
    rw [ff_shift k, show x + 1 - ((k + 1 : Nat) : Int) = x - k by omega, Int.mul_assoc]
theorem ff_step {x : Int} {k : Nat} : ff (x + 1) (k + 1) = ff x (k + 1) + ((k : Int) + 1) * ff x k := by
  rw [ff_shift]
  show _ = ff x k * (x - k) + _
  rw [Int.mul_comm (ff x k), ← Int.add_mul]
  congr 1; omega
theorem ff_self : ∀ k : Nat, ff (k : Int) k = fac k
  | 0 => rfl
  | k + 1 => by
    have := ff_shift (x := (k : Int)) k
    rw [show ((k + 1 : Nat) : Int) = (k : Int) + 1 by omega, this, ff_self k]
    show _ = ((fac k * (k + 1) : Nat) : Int)
    rw [Int.natCast_mul, Int.mul_comm]; rfl
theorem ff_big {j : Nat} : ∀ {k : Nat}, j < k → ff (j : Int) k = 0
  | k + 1, h => by
    show ff (j : Int) k * ((j : Int) - k) = 0
    by_cases e : j = k
    · subst e; rw [Int.sub_self, Int.mul_zero]
    · rw [ff_big (by omega), Int.zero_mul]
theorem fac_ff : ∀ (k : Nat) (x : Int), (fac k : Int) ∣ ff x k
  | 0, x => ⟨ff x 0, by show _ = 1 * _; omega⟩
  | k + 1, x => by
    have hd : ∀ y : Int, ((fac (k + 1) : Nat) : Int) ∣ ((k : Int) + 1) * ff y k := fun y => by
      have e : ((fac (k + 1) : Nat) : Int) = ((k : Int) + 1) * fac k := by
        show ((fac k * (k + 1) : Nat) : Int) = _
        rw [Int.natCast_mul, Int.mul_comm]; rfl
      rw [e]
      exact Int.mul_dvd_mul_left _ (fac_ff k y)
    have up : ∀ n : Nat, ((fac (k + 1) : Nat) : Int) ∣ ff (n : Int) (k + 1) := by
      intro n
      induction n with
      | zero =>
        rw [ff_big (Nat.succ_pos k)]
        exact Int.dvd_zero _
      | succ n ih =>
        rw [show ((n + 1 : Nat) : Int) = (n : Int) + 1 by omega, ff_step]
        exact Int.dvd_add ih (hd _)
    have dn : ∀ n : Nat, ((fac (k + 1) : Nat) : Int) ∣ ff (-(n : Int)) (k + 1) := by
      intro n
      induction n with
      | zero => exact up 0
      | succ n ih =>
        have e := ff_step (x := -((n + 1 : Nat) : Int)) (k := k)
        rw [show -((n + 1 : Nat) : Int) + 1 = -(n : Int) by omega] at e
        have e2 : ff (-((n + 1 : Nat) : Int)) (k + 1) = ff (-(n : Int)) (k + 1) - ((k : Int) + 1) * ff (-((n + 1 : Nat) : Int)) k := by omega
        rw [e2]
        exact Int.dvd_sub ih (hd _)
    by_cases h : 0 ≤ x
    · have := up x.toNat; rwa [Int.toNat_of_nonneg h] at this
    · have := dn (-x).toNat
      rw [Int.toNat_of_nonneg (by omega), Int.neg_neg] at this
      exact this
theorem top_ff (m k : Nat) (x : Int) : (m : Int) ∣ (topN m k : Int) * ff x k := by
  obtain ⟨f, hf⟩ := Nat.gcd_dvd_right m (fac k)
  have hm : m = Nat.gcd m (fac k) * topN m k := (Nat.mul_div_cancel' (Nat.gcd_dvd_left m (fac k))).symm
  obtain ⟨t, ht⟩ := fac_ff k x
  rw [ht]
  generalize hg : Nat.gcd m (fac k) = g at *
  refine ⟨(f : Int) * t, ?_⟩
  rw [hf, Int.natCast_mul]
  have : (m : Int) = (g : Int) * (topN m k : Int) := by rw [← Int.natCast_mul, ← hm]
  rw [this]
  simp only [Int.mul_assoc, Int.mul_comm, Int.mul_left_comm]
theorem top_of {m k : Nat} (hm : 0 < m) {e : Int} (h : (m : Int) ∣ e * fac k) : (topN m k : Int) ∣ e := by
  have hg : 0 < Nat.gcd m (fac k) := Nat.gcd_pos_of_pos_left _ hm
  have hc := Nat.coprime_div_gcd_div_gcd hg
  obtain ⟨l, hl⟩ := Nat.gcd_dvd_left m (fac k)
  obtain ⟨f, hf⟩ := Nat.gcd_dvd_right m (fac k)
  unfold topN
  generalize hgg : Nat.gcd m (fac k) = g at *
  have e1 : m / g = l := by rw [hl]; exact Nat.mul_div_cancel_left _ hg
  have e2 : fac k / g = f := by rw [hf]; exact Nat.mul_div_cancel_left _ hg
  rw [e1, e2] at hc
  rw [e1]
  have h' := Int.natAbs_dvd_natAbs.mpr h
  rw [Int.natAbs_mul, Int.natAbs_natCast, Int.natAbs_natCast, hl, hf, Nat.mul_left_comm] at h'
  have h2 := Nat.dvd_of_mul_dvd_mul_left hg h'
  have h3 := hc.dvd_of_dvd_mul_right h2
  exact Int.natAbs_dvd_natAbs.mp (by rw [Int.natAbs_natCast]; exact h3)
/-- the value of falls -/
def fv (x : Int) (l : List Int) : Int := sumTo l.length fun k => co l k * ff x k
theorem sumTo_more {F : Nat → Int} {a : Nat} : ∀ {n : Nat}, (∀ k, a ≤ k → F k = 0) → a ≤ n → sumTo n F = sumTo a F
  | 0, h, ha => by rw [show a = 0 by omega]
  | n + 1, h, ha => by
    by_cases e : a = n + 1
    · rw [e]
    · show sumTo n F + F n = _
      rw [sumTo_more h (by omega), h n (by omega)]; omega
theorem fv_more {x : Int} {l : List Int} {n : Nat} (h : l.length ≤ n) : sumTo n (fun k => co l k * ff x k) = fv x l :=
  sumTo_more (fun k hk => by rw [co_ge hk, Int.zero_mul]) h
theorem sumTo_dvd {m : Int} {F : Nat → Int} : ∀ {n : Nat}, (∀ k, k < n → m ∣ F k) → m ∣ sumTo n F
  | 0, _ => Int.dvd_zero _
  | n + 1, h => Int.dvd_add (sumTo_dvd fun k hk => h k (by omega)) (h n (by omega))
theorem fv_diff {x : Int} {c d : List Int} {n : Nat} (hc : c.length ≤ n) (hd : d.length ≤ n) : fv x c - fv x d = sumTo n fun k => (co c k - co d k) * ff x k := by
  rw [← fv_more hc, ← fv_more hd, ← sumTo_sub]
  exact sumTo_congr fun k _ => by rw [Int.sub_mul]
theorem emod_eq_of_dvd {m a b : Int} (h : m ∣ a - b) : a % m = b % m := Int.emod_eq_emod_iff_emod_sub_eq_zero.mpr (Int.emod_eq_zero_of_dvd h)
theorem dvd_of_emod_eq {m a b : Int} (h : a % m = b % m) : m ∣ a - b := Int.dvd_of_emod_eq_zero (Int.emod_eq_emod_iff_emod_sub_eq_zero.mp h)
/-- places alike by the tops: values alike -/
theorem fv_alike {m : Nat} {c d : List Int} (h : ∀ k, (topN m k : Int) ∣ co c k - co d k) (x : Int) : fv x c % m = fv x d % m := by
  refine emod_eq_of_dvd ?_
  rw [fv_diff (n := max c.length d.length) (by omega) (by omega)]
  refine sumTo_dvd fun k _ => ?_
  obtain ⟨t, ht⟩ := h k
  rw [ht, Int.mul_right_comm]
  exact Int.dvd_mul_of_dvd_left (top_ff m k x)
/-- values alike at 0, 1, ..: places alike by the tops -/
theorem fv_uniq {m : Nat} (hm : 0 < m) {c d : List Int} {n : Nat} (h : ∀ x : Nat, x < n → fv (x : Int) c % m = fv (x : Int) d % m) (k : Nat) (hk : k < n) : (topN m k : Int) ∣ co c k - co d k := by
  induction k using Nat.strongRecOn with
  | ind k ih =>
    refine top_of hm ?_
    have h0 := dvd_of_emod_eq (h k hk)
    rw [fv_diff (n := max (max c.length d.length) (k + 1)) (by omega) (by omega), sumTo_more (a := k + 1) (fun j hj => by rw [ff_big (by omega), Int.mul_zero]) (by omega)] at h0
    have h1 : (m : Int) ∣ sumTo k fun j => (co c j - co d j) * ff (k : Int) j := sumTo_dvd fun j hj => by
      obtain ⟨t, ht⟩ := ih j hj (by omega)
      rw [ht, Int.mul_right_comm]
      exact Int.dvd_mul_of_dvd_left (top_ff m j _)
    have h2 : sumTo (k + 1) (fun j => (co c j - co d j) * ff (k : Int) j) = sumTo k (fun j => (co c j - co d j) * ff (k : Int) j) + (co c k - co d k) * ff (k : Int) k := rfl
    rw [h2, ff_self] at h0
    exact (Int.dvd_add_right h1).mp h0
/-- falls -/
structure IsFalls (m : Nat) (l : List Int) : Prop where
  lo : ∀ k, 0 ≤ co l k
  hi : ∀ k, co l k < topN m k
  last : l.getLast? ≠ some 0
theorem small_dvd {t e : Int} (h : t ∣ e) (h1 : -t < e) (h2 : e < t) : e = 0 := by
  obtain ⟨q, rfl⟩ := h
  rcases Int.lt_trichotomy q 0 with z | z | z
  · have : t * q ≤ t * (-1) := Int.mul_le_mul_of_nonneg_left (by omega) (by omega)
    omega
  · rw [z, Int.mul_zero]
  · have : t * 1 ≤ t * q := Int.mul_le_mul_of_nonneg_left (by omega) (by omega)
    omega
theorem falls_uniq {m : Nat} (hm : 0 < m) {c d : List Int} (hc : IsFalls m c) (hd : IsFalls m d) (h : ∀ x : Nat, fv (x : Int) c % m = fv (x : Int) d % m) : c = d := by
  refine co_inj hc.last hd.last fun k => ?_
  have := small_dvd (fv_uniq hm (n := k + 1) (fun x _ => h x) k (by omega)) (by have := hc.lo k; have := hd.hi k; omega) (by have := hd.lo k; have := hc.hi k; omega)
  omega
/-- each place by its top, noughts left out -/
def cutF (m : Nat) (l : List Int) : List Int := trim ((List.range l.length).map fun k => co l k % topN m k)
theorem co_cutF {m : Nat} {l : List Int} {k : Nat} : co (cutF m l) k = co l k % topN m k := by
  unfold cutF
  rw [co_trim, co_range]
  split
  · rfl
  · rw [co_ge (by omega), Int.zero_emod]
theorem cutF_is {m : Nat} (hm : 0 < m) (l : List Int) : IsFalls m (cutF m l) := by
  refine ⟨fun k => ?_, fun k => ?_, trim_last _⟩
  · rw [co_cutF]; have := topN_pos hm k; exact Int.emod_nonneg _ (by omega)
  · rw [co_cutF]; have := topN_pos hm k; exact Int.emod_lt_of_pos _ (by omega)
theorem cutF_len (m : Nat) (l : List Int) : (cutF m l).length ≤ l.length := by
  unfold cutF
  refine Nat.le_trans (trim_len _) ?_
  simp
theorem fv_cutF {m : Nat} {l : List Int} (x : Int) : fv x (cutF m l) % m = fv x l % m :=
  fv_alike (fun k => by rw [co_cutF]; exact ⟨-(co l k / topN m k), by have := Int.mul_ediv_add_emod (co l k) (topN m k); rw [Int.mul_neg]; omega⟩) x
theorem cutF_id {m : Nat} {l : List Int} (h : IsFalls m l) : cutF m l = l :=
  co_inj (trim_last _) h.last fun k => by rw [co_cutF, Int.emod_eq_of_lt (h.lo k) (h.hi k)]
/-- falls that are rests already -/
theorem cut_cutF {m : Nat} (hm : 0 < m) {l : List Int} : cut m (cutF m l) = cutF m l :=
  co_inj (trim_last _) (trim_last _) fun k => by
    rw [co_cut, co_cutF]
    have h1 := topN_pos hm k
    have h2 := topN_le (m := m) k
    have h3 := Int.emod_nonneg (co l k) (b := topN m k) (by omega)
    have h4 := Int.emod_lt_of_pos (co l k) (b := topN m k) (by omega)
    exact Int.emod_eq_of_lt h3 (by omega)
theorem cut_falls_is {m : Nat} (hm : 0 < m) {l : List Int} (h : ∀ k, 0 ≤ co l k ∧ co l k < topN m k) : IsFalls m (cut m l) := by
  have e : ∀ k, co (cut m l) k = co l k := fun k => by
    rw [co_cut]
    have h2 := topN_le (m := m) k
    exact Int.emod_eq_of_lt (h k).1 (by have := (h k).2; omega)
  exact ⟨fun k => by rw [e]; exact (h k).1, fun k => by rw [e]; exact (h k).2, trim_last _⟩
theorem IsFalls.isP {m : Nat} {l : List Int} (h : IsFalls m l) : IsP m l := by
  refine ⟨fun c hc => ?_, fun c hc => ?_, h.last⟩
  · obtain ⟨k, hk⟩ := List.getElem?_of_mem hc
    have := h.lo k; unfold co at this; rw [hk] at this; exact this
  · obtain ⟨k, hk⟩ := List.getElem?_of_mem hc
    have h1 := h.hi k; have := topN_le (m := m) k; unfold co at h1; rw [hk] at h1
    have h1 : c < topN m k := h1
    omega
/-- Horner's walk over falls from place k on -/
def hf (x : Int) : Nat → List Int → Int
  | _, [] => 0
  | k, c :: r => c + (x - k) * hf x (k + 1) r
theorem hf_sum {x : Int} : ∀ {l : List Int} {k : Nat}, hf x k l * ff x k = sumTo l.length fun i => co l i * ff x (k + i)
  | [], k => by show 0 * _ = 0; rw [Int.zero_mul]
  | c :: l, k => by
    rw [List.length_cons, sumTo_shift, co_zero]
    show (c + (x - k) * hf x (k + 1) l) * ff x k = c * ff x (k + 0) + _
    have e : (sumTo l.length fun i => co (c :: l) (i + 1) * ff x (k + (i + 1))) = sumTo l.length fun i => co l i * ff x (k + 1 + i) :=
      sumTo_congr fun i _ => by rw [co_succ, show k + (i + 1) = k + 1 + i by omega]
    rw [e, ← hf_sum (l := l) (k := k + 1), Int.add_mul, Nat.add_zero]
    show _ = _ + hf x (k + 1) l * (ff x k * (x - k))
    congr 1
    rw [Int.mul_comm (x - k), Int.mul_assoc, Int.mul_comm (x - k)]
theorem hf_fv {x : Int} {l : List Int} : hf x 0 l = fv x l := by
  have := hf_sum (x := x) (l := l) (k := 0)
  rw [show ff x 0 = 1 from rfl, Int.mul_one] at this
  rw [this]
  exact sumTo_congr fun i _ => by rw [Nat.zero_add]
/-- the powers of falls from place k on -/
def pF : Nat → List Int → List Int
  | _, [] => []
  | k, c :: r => sumL 1 [c] (mulL [-(k : Int), 1] (pF (k + 1) r))
theorem ev_pF {x : Int} : ∀ {l : List Int} {k : Nat}, ev x (pF k l) = hf x k l
  | [], k => rfl
  | c :: l, k => by
    show ev x (sumL 1 [c] (mulL [-(k : Int), 1] (pF (k + 1) l))) = c + (x - k) * hf x (k + 1) l
    rw [ev_sum, ev_mul, ev_pF]
    show c + x * 0 + 1 * ((-(k : Int) + x * (1 + x * 0)) * _) = _
    rw [Int.mul_zero, Int.add_zero, Int.one_mul, Int.add_zero, Int.mul_one, Int.add_comm (-(k : Int)) x]
    rfl
theorem ev_pF0 {x : Int} {l : List Int} : ev x (pF 0 l) = fv x l := by rw [ev_pF, hf_fv]
theorem pF_len : ∀ {l : List Int} {k : Nat}, (pF k l).length ≤ 3 * l.length
  | [], _ => Nat.zero_le _
  | c :: l, k => by
    show (sumL 1 [c] (mulL [-(k : Int), 1] (pF (k + 1) l))).length ≤ _
    have h1 := mul_len (f := [-(k : Int), 1]) (g := pF (k + 1) l)
    have h2 := pF_len (l := l) (k := k + 1)
    rw [sum_len]
    simp only [List.length_cons, List.length_nil] at h1 ⊢
    omega
theorem EqM.pF {m : Int} : ∀ {a b : List Int} {k : Nat}, a.length = b.length → EqM m a b → EqM m (pF k a) (pF k b)
  | [], [], _, _, _ => EqM.refl
  | [], _ :: _, _, h, _ => absurd h (by simp)
  | _ :: _, [], _, h, _ => absurd h (by simp)
  | c :: a, d :: b, k, hl, h => EqM.sum (eqM_const (h 0)) (EqM.mul EqM.refl (EqM.pF (by simpa using hl) fun i => h (i + 1)))
/-- one more neighbour in a walk from the least place on -/
theorem pF_fold {m c : Int} {k : Nat} {D P r U : List Int} (h : EqM m U (sumL 1 D (mulL P (pF k (c :: r))))) : EqM m U (sumL 1 (cut m (sumL 1 D (cut m (mulL (cut m [c]) P)))) (mulL (cut m (mulL P (cut m [0 - (k : Int), 1]))) (pF (k + 1) r))) := by
  refine h.trans fun i => ?_
  have h1 : EqM m (sumL 1 (cut m (sumL 1 D (cut m (mulL (cut m [c]) P)))) (mulL (cut m (mulL P (cut m [0 - (k : Int), 1]))) (pF (k + 1) r))) (sumL 1 (sumL 1 D (mulL [c] P)) (mulL (mulL P [0 - (k : Int), 1]) (pF (k + 1) r))) :=
    EqM.sum (eqM_cut.trans (EqM.sum EqM.refl (eqM_cut.trans (EqM.mul eqM_cut EqM.refl)))) (EqM.mul (eqM_cut.trans (EqM.mul EqM.refl eqM_cut)) EqM.refl)
  rw [h1 i]
  show _ = co (sumL 1 (sumL 1 D (mulL [c] P)) (mulL (mulL P [0 - (k : Int), 1]) (pF (k + 1) r))) i % m
  rw [co_sum, co_sum, co_sum, mul_assoc', mul_comm' (f := [c])]
  show (co D i + 1 * co (mulL P (sumL 1 [c] (mulL [-(k : Int), 1] (pF (k + 1) r)))) i) % m = _
  rw [mul_sum_r, show (0 : Int) - (k : Int) = -(k : Int) by omega]
  congr 1
  omega
theorem pF_start {m : Int} {l : List Int} : EqM m (pF 0 l) (sumL 1 [] (mulL (nbL m 0) (pF 0 l))) := by
  intro i
  have h1 : EqM m (sumL 1 [] (mulL (nbL m 0) (pF 0 l))) (sumL 1 [] (mulL [1] (pF 0 l))) := EqM.sum EqM.refl (EqM.mul eqM_cut EqM.refl)
  rw [h1 i, co_sum, mul_one_l]
  show _ = (0 + 1 * _) % m
  rw [Int.zero_add, Int.one_mul]
theorem pF_end {m : Int} {k : Nat} {D P U : List Int} (h : EqM m U (sumL 1 D (mulL P (pF k [])))) : EqM m U D := by
  refine h.trans fun i => ?_
  rw [co_sum]
  show (co D i + 1 * co (mulL P []) i) % m = _
  rw [mul_nil_r]
  congr 1; omega
/-- the rests of dividing by x less k, one behind the other -/
def hs (m k : Int) : List Int → List Int
  | [] => []
  | c :: r => horner m k (c :: r) :: hs m k r
theorem hs_len {m k : Int} : ∀ {l : List Int}, (hs m k l).length = l.length
  | [] => rfl
  | c :: l => by show (hs m k l).length + 1 = _; rw [hs_len, List.length_cons]
theorem hs_head {m k : Int} {l : List Int} : co (hs m k l) 0 = horner m k l := by cases l <;> rfl
theorem hs_ev {m k x : Int} : ∀ {l : List Int}, ev x l % m = (horner m k l + (x - k) * ev x (hs m k l).tail) % m
  | [] => by show 0 % m = (0 + (x - k) * 0) % m; rw [Int.mul_zero, Int.zero_add]
  | c :: l => by
    show (c + x * ev x l) % m = ((horner m k l * k + c) % m + (x - k) * ev x (hs m k l)) % m
    have h := hs_ev (m := m) (k := k) (x := x) (l := l)
    have e : ev x (hs m k l) = horner m k l + x * ev x (hs m k l).tail := by
      cases l with
      | nil => show 0 = 0 + x * 0; omega
      | cons d r => rfl
    rw [e]
    generalize horner m k l = u at *
    generalize ev x (hs m k l).tail = v at *
    have h1 : (c + x * ev x l) % m = (c + x * (u + (x - k) * v)) % m := add_mod rfl (mul_mod rfl h)
    have h2 : ((u * k + c) % m + (x - k) * (u + x * v)) % m = ((u * k + c) + (x - k) * (u + x * v)) % m := add_mod (Int.emod_emod _ _) rfl
    rw [h1, h2]
    congr 1
    simp only [Int.mul_add, Int.sub_mul, Int.mul_sub]
    have a1 : x * (x * v) = x * x * v := (Int.mul_assoc ..).symm
    have a2 : x * (k * v) = k * (x * v) := Int.mul_left_comm ..
    have a3 : u * k = k * u := Int.mul_comm ..
    omega
theorem topsL_iL {m n : Nat} : topsL m n = iL ((List.range n).map fun k => (topN m k : Int)) := by
  unfold topsL; exact iL_map
theorem co_map_range {n k : Nat} {F : Nat → Int} (h : k < n) : co ((List.range n).map F) k = F k := by rw [co_range, if_pos h]
theorem rgI_nat {n : Nat} {F : Int → Int} : (rgI 0 (n : Int)).map F = (List.range n).map fun (k : Nat) => F (k : Int) := by
  unfold rgI
  rw [List.map_map, show ((n : Int) - 0).toNat = n by omega]
  refine List.map_congr_left fun x _ => ?_
  show F (0 + (x : Int)) = F x
  rw [Int.zero_add]
/-- places of a walk backwards -/
theorem rgL_rev_get {n i : Nat} {x : PyData} (e : (rgL 0 (n : Int)).reverse[i]? = some x) : i < n ∧ x = .int ((n - 1 - i : Nat) : Int) := by
  have hl : (rgL 0 (n : Int)).length = n := by rw [rgL_n]; omega
  have hi : i < n := by
    have := (List.getElem?_eq_some_iff.mp e).1
    rw [List.length_reverse, hl] at this; exact this
  rw [List.getElem?_reverse (by omega), hl] at e
  obtain ⟨h1, _⟩ := rgL_get e
  exact ⟨hi, by rw [h1, Int.zero_add]⟩
theorem drop_co {l : List Int} {k : Nat} (h : k < l.length) : l.drop k = co l k :: l.drop (k + 1) := by
  rw [List.drop_eq_getElem_cons h]
  congr 1
  unfold co
  rw [List.getElem?_eq_getElem h]; rfl
theorem hf_step {m x u : Int} {l : List Int} {k : Nat} (h : k < l.length) (hu : u = hf x (k + 1) (l.drop (k + 1)) % m) : (u * (x - k) + co l k) % m = hf x k (l.drop k) % m := by
  rw [drop_co h]
  show _ = (co l k + (x - k) * hf x (k + 1) (l.drop (k + 1))) % m
  subst hu
  rw [Int.add_comm (co l k), Int.mul_comm (x - k)]
  exact add_mod (mul_mod (Int.emod_emod _ _) rfl) rfl
theorem hf_end {x : Int} {l : List Int} {k : Nat} (h : l.length ≤ k) : hf x k (l.drop k) = 0 := by rw [List.drop_eq_nil_of_le h]; rfl
/-- one place, as a slice -/
theorem slice_one {l : List Int} {k : Nat} : (cutD l (some (k : Int)) (some ((k : Int) + 1))).sum = co l k := by
  unfold cutD
  rw [show ((k : Int) + 1) = ((k + 1 : Nat) : Int) by omega, HT.sIx_nat, HT.sIx_nat]
  by_cases h : k < l.length
  · rw [Nat.min_eq_left (by omega), Nat.min_eq_left (by omega), drop_co h, show k + 1 - k = 0 + 1 by omega, List.take_succ_cons]
    simp
  · rw [Nat.min_eq_right (by omega), Nat.min_eq_right (by omega), Nat.sub_self, co_ge (by omega)]
    simp
theorem intsL_iL : ∀ {l : List Int}, intsL (iL l) = some l
  | [] => rfl
  | c :: l => by
    show (match intsL (iL l) with | some bs => some (c :: bs) | none => none) = _
    rw [intsL_iL]
/-- sums of falls, place by place -/
theorem cut_tops {m n : Nat} (hm : 0 < m) {l : List Int} (h : l.length ≤ n) : cut m ((List.range n).map fun k => co l k % topN m k) = cutF m l :=
  co_inj (trim_last _) (trim_last _) fun k => by
    rw [co_cut, co_cutF, co_range]
    have h1 := topN_pos hm k
    have h2 := topN_le (m := m) k
    have h3 := Int.emod_nonneg (co l k) (b := topN m k) (by omega)
    have h4 := Int.emod_lt_of_pos (co l k) (b := topN m k) (by omega)
    split
    · exact Int.emod_eq_of_lt h3 (by omega)
    · rw [co_ge (by omega), Int.zero_emod, Int.zero_emod]
theorem sumTo_lin {s : Int} {F G : Nat → Int} : ∀ n : Nat, sumTo n (fun k => F k + s * G k) = sumTo n F + s * sumTo n G
  | 0 => by show (0 : Int) = 0 + s * 0; omega
  | n + 1 => by
    show sumTo n (fun k => F k + s * G k) + (F n + s * G n) = sumTo n F + F n + s * (sumTo n G + G n)
    rw [sumTo_lin n, Int.mul_add]; omega
theorem fv_sum {x s : Int} {a b : List Int} : fv x (sumL s a b) = fv x a + s * fv x b := by
  rw [← fv_more (n := max a.length b.length) (l := sumL s a b) (by rw [sum_len]; omega), ← fv_more (n := max a.length b.length) (l := a) (by omega), ← fv_more (n := max a.length b.length) (l := b) (by omega), ← sumTo_lin]
  exact sumTo_congr fun k _ => by rw [co_sum, Int.add_mul, Int.mul_assoc]
theorem pow2_lt {a b : Nat} (h : a < b) : 2 ^ a < 2 ^ b := Nat.pow_lt_pow_right (by decide) h
theorem ff_big2 {x : Int} (hx : x.natAbs ≤ 1000000000000000000000) : ∀ {k : Nat}, k ≤ 1000 → (ff x k).natAbs ≤ 2 ^ (71 * k)
  | 0, _ => Nat.le_refl _
  | k + 1, h => by
    show (ff x k * (x - k)).natAbs ≤ _
    rw [Int.natAbs_mul, Nat.mul_add, Nat.pow_add]
    refine Nat.mul_le_mul (ff_big2 hx (by omega)) ?_
    have : (1000000000000000000000 : Nat) + 1000 < 2 ^ (71 * 1) := by decide
    omega
theorem log_lt {n k : Nat} (h : n ≤ 2 ^ k) : n.log2 < k + 1 := log2_lt (Nat.lt_of_le_of_lt h (pow2_lt (Nat.lt_succ_self k))) (Nat.succ_pos k)
/-- a product of a place and neighbours may be made -/
theorem mulOk_ff {c x y : Int} {k : Nat} (hc : c.natAbs ≤ 2 ^ 1000) (hx : x.natAbs ≤ 1000000000000000000000) (hy : y.natAbs ≤ 2 ^ 1000) (hk : k ≤ 1000) : mulOk (c * ff x k) y := by
  refine Or.inr ?_
  have h1 : (c * ff x k).natAbs ≤ 2 ^ (1000 + 71 * k) := by
    rw [Int.natAbs_mul, Nat.pow_add]
    exact Nat.mul_le_mul hc (ff_big2 hx hk)
  have h2 := log_lt h1
  have h3 := log_lt hy
  omega
theorem cutF_ext {m : Nat} {a b : List Int} (h : ∀ k, co a k = co b k) : cutF m a = cutF m b :=
  co_inj (trim_last _) (trim_last _) fun k => by rw [co_cutF, co_cutF, h]
theorem cutF_sum {m : Nat} {s : Int} {f g : List Int} : cutF m ((rgI 0 (imax f.length g.length)).map fun x => co f x.toNat + s * co g x.toNat) = cutF m (sumL s f g) :=
  cutF_ext fun k => by
    rw [co_rgI, co_sum, Int.zero_add, Int.toNat_natCast, Int.sub_zero]
    split
    · rfl
    · rename_i h
      unfold imax at h
      rw [co_ge (l := f) (by split at h <;> omega), co_ge (l := g) (by split at h <;> omega), Int.mul_zero, Int.add_zero]
theorem imax_nat {a b : Nat} : imax (a : Int) b = ((max a b : Nat) : Int) := by unfold imax; split <;> omega
theorem falls_snoc {m : Nat} {l : List Int} {r : Int} (hb : ∀ k, 0 ≤ co l k ∧ co l k < topN m k) (r0 : 0 ≤ r) (r1 : r < topN m l.length) : ∀ k, 0 ≤ co (l ++ [r]) k ∧ co (l ++ [r]) k < topN m k := fun k => by
  by_cases h : k < l.length
  · rw [co_app_l h]; exact hb k
  · rw [co_app_r (by omega)]
    by_cases e : k = l.length
    · subst e; rw [Nat.sub_self]; exact ⟨r0, r1⟩
    · have := hb k
      rw [co_ge (by omega)] at this
      rw [co_ge (by simp; omega)]; exact this
theorem repr_lis {l : List Int} (h : Bd l) (hl : l.length ≤ 40000) : PyData.showable (.list (iL l)) = true ∧ (PyData.list (iL l)).depth ≤ 64 ∧ (PyData.list (iL l)).shown.length ≤ 16777216 := by
  refine repr_ok (by simpa [small] using small_iL h) ?_ ?_
  · simp [PyData.depth, depth_iL]
  · simpa [PyData.bulk, bulk_iL] using hl
/-- an if whose branches meet again, by states -/
theorem iff_st {T : List MF} {k : Nat} {E : MExc → MEnv → MH → Prop} {D : MD} {α : Type} {c : MX} {a b : MSs} {e : MEnv} {h : MH} (st : α → MEnv) (hp : α → MH) (P : α → Prop)
    (q : wX (wF T k) (fun x h' => E x e h') c e h fun x h1 => wTru x h1 fun t => if t then wSs (wF T k) E a e h1 { nx := fun e' h' => ∃ s, e' = st s ∧ h' = hp s ∧ P s, rt := D.rt, bk := D.bk, ct := D.ct } else wSs (wF T k) E b e h1 { nx := fun e' h' => ∃ s, e' = st s ∧ h' = hp s ∧ P s, rt := D.rt, bk := D.bk, ct := D.ct })
    (fin : ∀ s, P s → D.nx (st s) (hp s)) : wS (wF T k) E (.iff c a b) e h D := by
  unfold wS
  have le : MD.Le { nx := fun e' h' => ∃ s, e' = st s ∧ h' = hp s ∧ P s, rt := D.rt, bk := D.bk, ct := D.ct } D :=
    ⟨fun e h => by rintro ⟨s, rfl, rfl, p⟩; exact fin s p, fun _ _ z => z, fun _ _ z => z, fun _ _ z => z⟩
  refine wX_mono (wF_mono T k) (fun _ _ z => z) c _ _ (fun x h1 q => wTru_mono (fun t => ?_) q) q
  cases t
  · exact wSs_mono (wF_mono T k) (fun _ _ _ z => z) b _ _ le
  · exact wSs_mono (wF_mono T k) (fun _ _ _ z => z) a _ _ le
end Mini
end
section
set_option Elab.async false
set_option linter.all false
set_option maxRecDepth 100000
set_option exponentiation.threshold 3000
/-! falls of polys, null polys, looks at things. -/
namespace Mini
open PySem

theorem fv_snoc {x : Int} {c : List Int} {r : Int} : fv x (c ++ [r]) = fv x c + r * ff x c.length := by
  unfold fv
  rw [List.length_append, List.length_singleton]
  show sumTo c.length _ + co (c ++ [r]) c.length * ff x c.length = _
  rw [co_app_r (Nat.le_refl _), Nat.sub_self]
  congr 1
  exact sumTo_congr fun k hk => by rw [co_app_l hk]
theorem nbs_step {m x : Int} {c s f : List Int} {j : Nat} (hj : c.length = j) (h : (fv x c + ff x j * ev x s) % m = ev x f % m) :
    (fv x (c ++ [horner m j s]) + ff x (j + 1) * ev x (hs m j s).tail) % m = ev x f % m := by
  rw [← h, fv_snoc, hj]
  have e := hs_ev (m := m) (k := (j : Int)) (x := x) (l := s)
  have e2 : (ff x j * ev x s) % m = (ff x j * (horner m j s + (x - j) * ev x (hs m j s).tail)) % m := mul_mod rfl e
  have e3 : ff x (j + 1) = ff x j * (x - j) := rfl
  rw [e3, Int.add_assoc]
  refine add_mod rfl ?_
  rw [e2]
  congr 1
  rw [Int.mul_add, Int.mul_comm (horner m j s), Int.mul_assoc]
theorem co_line {a : Int} {P : List Int} {i : Nat} : co (mulL [a, 1] P) i = a * co P i + sh (co P) i := by
  rw [mul_cons]
  congr 1
  cases i with
  | zero => rfl
  | succ i => rw [sh_succ, sh_succ, mul_one_l]
theorem co_const {c : Int} {i : Nat} : co [c] i = if i = 0 then c else 0 := by cases i <;> rfl
theorem co_cons0 {P : List Int} {i : Nat} : co ((0 : Int) :: P) i = sh (co P) i := by
  cases i with
  | zero => rfl
  | succ i => rw [co_succ, sh_succ]
/-- a turn of in_powers -/
theorem pow_turn {m c : Int} {k : Nat} {P R L : List Int} (h0 : 0 < L.length) (hP : EqM m P R) (hL : ∀ i, co L i = sh (co P) i - (if i < P.length then (k : Int) * co P i else 0)) :
    EqM m ((L.set 0 (co L 0 + c)).map (· % m)) (sumL 1 [c] (mulL [-(k : Int), 1] R)) := by
  intro i
  have h1 : EqM m (sumL 1 [c] (mulL [-(k : Int), 1] R)) (sumL 1 [c] (mulL [-(k : Int), 1] P)) := EqM.sum EqM.refl (EqM.mul EqM.refl hP.symm)
  rw [h1 i, co_map (Int.zero_emod m), Int.emod_emod, co_sum, co_line, co_const, co_set h0]
  have h2 : ∀ i, (if i < P.length then (k : Int) * co P i else 0) = k * co P i := fun i => by
    split
    · rfl
    · rw [co_ge (by omega), Int.mul_zero]
  congr 1
  by_cases hi : i = 0
  · subst hi
    rw [if_pos rfl, if_pos rfl, hL, h2, Int.neg_mul]; omega
  · rw [if_neg hi, if_neg hi, hL, h2, Int.neg_mul]; omega
/-- rests times tops -/
def tlL (m : Nat) (r : List Int) : List Int := (List.range r.length).map fun k => co r k * topN m k
theorem co_tl {m : Nat} {r : List Int} {k : Nat} : co (tlL m r) k = co r k * topN m k := by
  unfold tlL
  rw [co_range]
  split
  · rfl
  · rw [co_ge (by omega), Int.zero_mul]
theorem tl_len {m : Nat} {r : List Int} : (tlL m r).length = r.length := by unfold tlL; rw [List.length_map, List.length_range]
theorem fv_nil {x : Int} : fv x [] = 0 := rfl
theorem fv_tl {m : Nat} {r : List Int} (x : Int) : fv x (tlL m r) % m = 0 := by
  have := fv_alike (m := m) (c := tlL m r) (d := []) (fun k => by rw [co_tl, co_nil, Int.sub_zero]; exact Int.dvd_mul_left ..) x
  rw [this, fv_nil, Int.zero_emod]
theorem ev_null {m : Nat} {r : List Int} (x : Int) : ev x (cut m (pF 0 (tlL m r))) % m = 0 := by rw [ev_eqM eqM_cut, ev_pF0, fv_tl]
theorem ev_cutpF {m x : Int} {c : List Int} : ev x (cut m (pF 0 c)) % m = fv x c % m := by rw [ev_eqM eqM_cut, ev_pF0]
/-- is a thing a rest -/
def isRestD (m : Int) : PyData → Bool
  | .int x => decide (0 ≤ x) && decide (x < m)
  | _ => false
def notDict : PyData → Bool
  | .dict _ => false
  | _ => true
theorem inD_map {p : PyData → Bool} : ∀ {l : List PyData}, inD (.bool false) (l.map fun x => .bool (p x)) = !l.all p
  | [] => rfl
  | x :: l => by
    have := inD_map (p := p) (l := l)
    unfold inD at this ⊢
    rw [List.map_cons, List.any_cons, this, List.all_cons]
    cases p x <;> rfl
theorem flat_map {p : PyData → Bool} : ∀ {l : List PyData}, (l.map fun x => PyData.bool (p x)).all flatD = true
  | [] => rfl
  | x :: l => by rw [List.map_cons, List.all_cons, flat_map]; rfl
theorem fm_bool {p : PyData → Bool} {l : List PyData} : l.filterMap (fun x => some (PyData.bool (p x))) = l.map fun x => PyData.bool (p x) := by
  induction l with
  | nil => rfl
  | cons x l ih => rw [List.filterMap_cons, List.map_cons, ih]
theorem fm_none {l : List PyData} : l.filterMap (fun _ => (none : Option PyData)) = iL [] := by
  induction l with
  | nil => rfl
  | cons x l ih => rw [List.filterMap_cons]; exact ih
theorem all_rest {m : Int} : ∀ {l : List Int}, (∀ c ∈ l, 0 ≤ c ∧ c < m) → (iL l).all (isRestD m) = true
  | [], _ => rfl
  | c :: l, h => by
    show (isRestD m (.int c) && (iL l).all (isRestD m)) = true
    rw [all_rest fun d hd => h d (List.mem_cons_of_mem _ hd), Bool.and_true]
    have := h c (List.mem_cons_self ..)
    show (decide (0 ≤ c) && decide (c < m)) = true
    rw [decide_eq_true this.1, decide_eq_true this.2]; rfl
theorem IsP.rests {m : Int} {l : List Int} (h : IsP m l) : (iL l).all (isRestD m) = true := all_rest fun c hc => ⟨h.lo c hc, h.hi c hc⟩
theorem at_mem {xs : List PyData} {i : Int} (h0 : 0 ≤ i) (h1 : i < xs.length) {K : PyData → Prop} (q : ∀ v, v ∈ xs → K v) : atW xs i K := by
  have hl : i.toNat < xs.length := by omega
  refine at_int h0 (List.getElem?_eq_getElem hl) (q _ (List.getElem_mem hl))
theorem bools_map {p : PyData → Bool} : ∀ {l : List PyData}, bools (l.map fun x => .bool (p x)) = some (l.map p)
  | [] => rfl
  | x :: l => by
    show (match bools (l.map fun x => .bool (p x)) with | some bs => some (p x :: bs) | none => none) = _
    rw [bools_map]; rfl
theorem all_id {p : PyData → Bool} {l : List PyData} : (l.map p).all id = l.all p := by
  induction l with
  | nil => rfl
  | cons x l ih => rw [List.map_cons, List.all_cons, List.all_cons, ih]; rfl
theorem rests_iL {m : Int} : ∀ {xs : List PyData}, xs.all (isRestD m) = true → ∃ l : List Int, xs = iL l ∧ ∀ c ∈ l, 0 ≤ c ∧ c < m
  | [], _ => ⟨[], rfl, by simp⟩
  | x :: xs, h => by
    rw [List.all_cons, Bool.and_eq_true] at h
    obtain ⟨l, rfl, hl⟩ := rests_iL h.2
    cases x with
    | int c =>
      have h1 : (decide (0 ≤ c) && decide (c < m)) = true := h.1
      rw [Bool.and_eq_true, decide_eq_true_eq, decide_eq_true_eq] at h1
      exact ⟨c :: l, rfl, fun d hd => by
        rcases List.mem_cons.mp hd with rfl | hd
        · exact h1
        · exact hl d hd⟩
    | _ => exact absurd h.1 Bool.false_ne_true
/-- the last thing is not 0 -/
def lastOk (xs : List PyData) : Bool := match xs.getLast? with
  | some (.int c) => !decide (c = 0)
  | _ => true
theorem lastOk_snoc {r : List Int} {c : Int} : lastOk (iL (r ++ [c])) = !decide (c = 0) := by
  have : (iL (r ++ [c])).getLast? = some (.int c) := by
    rw [← iL_app]; exact List.getLast?_concat
  unfold lastOk
  rw [this]
def isPolyD (m : Int) : PyData → Bool
  | .tuple xs => xs.all (isRestD m) && lastOk xs
  | _ => false
/-- a thing that may be asked -/
def okD (t : PyData) : Bool := notDict t && (match t with | .tuple xs => xs.all notDict | _ => true)
theorem iL_nd : ∀ {l : List Int}, (iL l).all notDict = true
  | [] => rfl
  | _ :: l => by
    show (true && (iL l).all notDict) = true
    rw [iL_nd]; rfl
theorem okD_tup {xs : List PyData} (h : xs.all notDict = true) : okD (.tuple xs) = true := h
theorem okD_mem {xs : List PyData} (h : okD (.tuple xs) = true) : ∀ x ∈ xs, notDict x = true := fun x hx => List.all_eq_true.mp h x hx
theorem nd_app {a b : List PyData} (ha : a.all notDict = true) (hb : b.all notDict = true) : (a ++ b).all notDict = true := by rw [List.all_append, ha, hb]; rfl
theorem okD_nd {t : PyData} (h : okD t = true) : notDict t = true := by unfold okD at h; rw [Bool.and_eq_true] at h; exact h.1
theorem repr_bool {b : Bool} : PyData.showable (.bool b) = true ∧ (PyData.bool b).depth ≤ 64 ∧ (PyData.bool b).shown.length ≤ 16777216 :=
  repr_ok rfl (by simp [PyData.depth]) (by simp [PyData.bulk])
theorem repr_none : PyData.showable .none = true ∧ PyData.none.depth ≤ 64 ∧ PyData.none.shown.length ≤ 16777216 :=
  repr_ok rfl (by simp [PyData.depth]) (by simp [PyData.bulk])
theorem fac_dvd {a : Nat} : ∀ {b : Nat}, a ≤ b → fac a ∣ fac b
  | 0, h => by rw [show a = 0 by omega]; exact Nat.dvd_refl _
  | b + 1, h => by
    by_cases e : a = b + 1
    · rw [e]; exact Nat.dvd_refl _
    · exact Nat.dvd_trans (fac_dvd (by omega)) (Nat.dvd_mul_right _ _)
def fitAt (m : Nat) (xs : List PyData) (k : Nat) : Bool := match xs[k]? with
  | some x => isRestD (topN m k) x
  | none => false
def fitsD (m : Nat) (xs : List PyData) : Bool := (List.range xs.length).all (fitAt m xs)
def isFallsD (m : Nat) : PyData → Bool
  | .tuple xs => fitsD m xs && lastOk xs
  | _ => false
theorem isRestD_le {a b : Int} (h : a ≤ b) {x : PyData} (hx : isRestD a x = true) : isRestD b x = true := by
  cases x with
  | int c =>
    have hx : (decide (0 ≤ c) && decide (c < a)) = true := hx
    show (decide (0 ≤ c) && decide (c < b)) = true
    rw [Bool.and_eq_true, decide_eq_true_eq, decide_eq_true_eq] at hx ⊢
    omega
  | _ => exact absurd hx Bool.false_ne_true
theorem fits_rests {m : Nat} {xs : List PyData} (h : fitsD m xs = true) : xs.all (isRestD m) = true := by
  rw [List.all_eq_true]
  intro x hx
  obtain ⟨k, hk⟩ := List.getElem?_of_mem hx
  have hl := (List.getElem?_eq_some_iff.mp hk).1
  have := List.all_eq_true.mp h k (List.mem_range.mpr hl)
  unfold fitAt at this
  rw [hk] at this
  exact isRestD_le (by have := topN_le (m := m) k; omega) this
theorem fits_iL {m : Nat} {l : List Int} : fitsD m (iL l) = true ↔ ∀ k, k < l.length → 0 ≤ co l k ∧ co l k < topN m k := by
  unfold fitsD
  rw [iL_len, List.all_eq_true]
  constructor
  · intro h k hk
    have := h k (List.mem_range.mpr hk)
    unfold fitAt at this
    rw [co_get hk] at this
    have this : (decide (0 ≤ co l k) && decide (co l k < topN m k)) = true := this
    rw [Bool.and_eq_true, decide_eq_true_eq, decide_eq_true_eq] at this
    exact this
  · intro h k hk
    have hk := List.mem_range.mp hk
    unfold fitAt
    rw [co_get hk]
    show (decide (0 ≤ co l k) && decide (co l k < topN m k)) = true
    rw [Bool.and_eq_true, decide_eq_true_eq, decide_eq_true_eq]
    exact h k hk
/-- more places than high: no falls -/
theorem falls_high {m n : Nat} (hm : 0 < m) (hn : IsHigh m n) {xs : List PyData} (h : n < xs.length) : isFallsD m (.tuple xs) = false := by
  show (fitsD m xs && lastOk xs) = false
  by_cases hf : fitsD m xs = true
  · obtain ⟨l, rfl, hb⟩ := rests_iL (fits_rests hf)
    rw [iL_len] at h
    have hc := fits_iL.mp hf (l.length - 1) (by omega)
    have ht : topN m (l.length - 1) ≤ 1 := (topN_one hm _).mpr (Nat.dvd_trans hn.1 (fac_dvd (by omega)))
    obtain ⟨r, c, rfl⟩ := snoc_of (l := l) (fun z => by subst z; simp at h)
    rw [List.length_append, List.length_singleton, Nat.add_sub_cancel, co_app_r (Nat.le_refl _), Nat.sub_self] at hc
    rw [List.length_append, List.length_singleton, Nat.add_sub_cancel] at ht
    have : c = 0 := by have h1 : 0 ≤ c := hc.1; have h2 : c < topN m r.length := hc.2; omega
    rw [lastOk_snoc, this, Bool.and_eq_false_iff]
    exact .inr rfl
  · rw [Bool.not_eq_true] at hf
    rw [hf]; rfl
theorem bools_mapA {α : Type} {p : α → Bool} : ∀ {l : List α}, bools (l.map fun x => .bool (p x)) = some (l.map p)
  | [] => rfl
  | x :: l => by
    show (match bools (l.map fun x => .bool (p x)) with | some bs => some (p x :: bs) | none => none) = _
    rw [bools_mapA]; rfl
theorem all_idA {α : Type} {p : α → Bool} {l : List α} : (l.map p).all id = l.all p := by
  induction l with
  | nil => rfl
  | cons x l ih => rw [List.map_cons, List.all_cons, List.all_cons, ih]; rfl
/-- a whole number's F -/
def natF (G : Nat → PyData) : PyData → Option PyData
  | .int i => some (G i.toNat)
  | _ => none
theorem fm_nat {G : Nat → PyData} {n : Nat} : (rgL 0 (n : Int)).filterMap (natF G) = (List.range n).map G := by
  unfold rgL
  rw [show ((n : Int) - 0).toNat = n by omega]
  generalize List.range n = l
  induction l with
  | nil => rfl
  | cons x l ih =>
    rw [List.map_cons, List.filterMap_cons, List.map_cons]
    show G ((0 : Int) + (x : Int)).toNat :: _ = _
    rw [show ((0 : Int) + (x : Int)).toNat = x by omega, ih]
theorem last_slice {r : List Int} {c : Int} : cutD (r ++ [c]) (some (-1)) none = [c] := by
  unfold cutD
  have h1 : HT.sIx (r ++ [c]).length 0 (some (-1)) = r.length := by
    show (if (-1 : Int) < 0 then ((-1 : Int) + ((r ++ [c]).length : Int)).toNat else 0) = _
    rw [if_pos (by decide), List.length_append, List.length_singleton]; omega
  have h2 : HT.sIx (r ++ [c]).length (r ++ [c]).length none = r.length + 1 := by
    show (r ++ [c]).length = _
    simp
  rw [h1, h2, List.drop_left, show r.length + 1 - r.length = 1 by omega]; rfl
theorem filt_nil {m : Nat} {l : List Int} (hb : ∀ c ∈ l, 0 ≤ c) {p : Int → Bool} (hp : ∀ k, k < l.length → (p (k : Int) = true ↔ ¬ co l k < topN m k)) : decide ((rgI 0 (l.length : Int)).filter p = []) = fitsD m (iL l) := by
  by_cases hf : fitsD m (iL l) = true
  · rw [hf]
    refine decide_eq_true (List.filter_eq_nil_iff.mpr fun x hx => ?_)
    have hx := rgI_mem.mp hx
    obtain ⟨k, rfl⟩ : ∃ k : Nat, x = k := ⟨x.toNat, by omega⟩
    rw [hp k (by omega)]
    have := (fits_iL.mp hf k (by omega)).2
    omega
  · have hf' := hf
    rw [Bool.not_eq_true] at hf'
    rw [hf']
    refine decide_eq_false fun z => hf (fits_iL.mpr fun k hk => ?_)
    have := List.filter_eq_nil_iff.mp z (k : Int) (rgI_mem.mpr ⟨by omega, by omega⟩)
    rw [hp k hk] at this
    exact ⟨hb _ (List.mem_of_getElem? (co_lt hk)), by omega⟩
theorem filt_nil2 {m : Nat} {l : List Int} : decide ((rgI 0 (l.length : Int)).filter (fun x => !(decide (0 ≤ co l x.toNat) && decide (co l x.toNat < topN m x.toNat))) = []) = fitsD m (iL l) := by
  by_cases hf : fitsD m (iL l) = true
  · rw [hf]
    refine decide_eq_true (List.filter_eq_nil_iff.mpr fun x hx => ?_)
    have hx := rgI_mem.mp hx
    obtain ⟨k, rfl⟩ : ∃ k : Nat, x = k := ⟨x.toNat, by omega⟩
    have := fits_iL.mp hf k (by omega)
    rw [Int.toNat_natCast, decide_eq_true this.1, decide_eq_true this.2]
    exact Bool.false_ne_true
  · have hf' := hf
    rw [Bool.not_eq_true] at hf'
    rw [hf']
    refine decide_eq_false fun z => hf (fits_iL.mpr fun k hk => ?_)
    have := List.filter_eq_nil_iff.mp z (k : Int) (rgI_mem.mpr ⟨by omega, by omega⟩)
    rw [Int.toNat_natCast, Bool.not_eq_true', Bool.not_eq_false, Bool.and_eq_true, decide_eq_true_eq, decide_eq_true_eq] at this
    exact this
theorem ty_int_none  : isTy .int .none = false := Eq.trans rfl rfl
theorem ty_int_bool {b : Bool} : isTy .int (.bool b) = true := Eq.trans rfl rfl
theorem ty_int_int {i : Int} : isTy .int (.int i) = true := Eq.trans rfl rfl
theorem ty_int_str {s : Str} : isTy .int (.str s) = false := Eq.trans rfl rfl
theorem ty_int_list {l : List PyData} : isTy .int (.list l) = false := Eq.trans rfl rfl
theorem ty_int_tuple {l : List PyData} : isTy .int (.tuple l) = false := Eq.trans rfl rfl
theorem ty_bool_none  : isTy .bool .none = false := Eq.trans rfl rfl
theorem ty_bool_bool {b : Bool} : isTy .bool (.bool b) = true := Eq.trans rfl rfl
theorem ty_bool_int {i : Int} : isTy .bool (.int i) = false := Eq.trans rfl rfl
theorem ty_bool_str {s : Str} : isTy .bool (.str s) = false := Eq.trans rfl rfl
theorem ty_bool_list {l : List PyData} : isTy .bool (.list l) = false := Eq.trans rfl rfl
theorem ty_bool_tuple {l : List PyData} : isTy .bool (.tuple l) = false := Eq.trans rfl rfl
theorem ty_tuple_none  : isTy .tuple .none = false := Eq.trans rfl rfl
theorem ty_tuple_bool {b : Bool} : isTy .tuple (.bool b) = false := Eq.trans rfl rfl
theorem ty_tuple_int {i : Int} : isTy .tuple (.int i) = false := Eq.trans rfl rfl
theorem ty_tuple_str {s : Str} : isTy .tuple (.str s) = false := Eq.trans rfl rfl
theorem ty_tuple_list {l : List PyData} : isTy .tuple (.list l) = false := Eq.trans rfl rfl
theorem ty_tuple_tuple {l : List PyData} : isTy .tuple (.tuple l) = true := Eq.trans rfl rfl
theorem ty_list_none  : isTy .list .none = false := Eq.trans rfl rfl
theorem ty_list_bool {b : Bool} : isTy .list (.bool b) = false := Eq.trans rfl rfl
theorem ty_list_int {i : Int} : isTy .list (.int i) = false := Eq.trans rfl rfl
theorem ty_list_str {s : Str} : isTy .list (.str s) = false := Eq.trans rfl rfl
theorem ty_list_list {l : List PyData} : isTy .list (.list l) = true := Eq.trans rfl rfl
theorem ty_list_tuple {l : List PyData} : isTy .list (.tuple l) = false := Eq.trans rfl rfl
theorem ty_str_none  : isTy .str .none = false := Eq.trans rfl rfl
theorem ty_str_bool {b : Bool} : isTy .str (.bool b) = false := Eq.trans rfl rfl
theorem ty_str_int {i : Int} : isTy .str (.int i) = false := Eq.trans rfl rfl
theorem ty_str_str {s : Str} : isTy .str (.str s) = true := Eq.trans rfl rfl
theorem ty_str_list {l : List PyData} : isTy .str (.list l) = false := Eq.trans rfl rfl
theorem ty_str_tuple {l : List PyData} : isTy .str (.tuple l) = false := Eq.trans rfl rfl
end Mini
end
section
set_option Elab.async false
set_option linter.all false
set_option maxRecDepth 100000
set_option exponentiation.threshold 3000
/-! primes, factors. -/
namespace Mini
open PySem

/-- what is left when p is taken out -/
def rst (p n : Nat) : Nat := if h : 2 ≤ p ∧ 0 < n ∧ n % p = 0 then rst p (n / p) else n
termination_by n
decreasing_by exact Nat.div_lt_self h.2.1 (by omega)
def ordP (p n : Nat) : Nat := if h : 2 ≤ p ∧ 0 < n ∧ n % p = 0 then ordP p (n / p) + 1 else 0
termination_by n
decreasing_by exact Nat.div_lt_self h.2.1 (by omega)
theorem rst_step {p n : Nat} (hp : 2 ≤ p) (hn : 0 < n) (h : n % p = 0) : rst p n = rst p (n / p) := by rw [rst, dif_pos ⟨hp, hn, h⟩]
theorem ord_step {p n : Nat} (hp : 2 ≤ p) (hn : 0 < n) (h : n % p = 0) : ordP p n = ordP p (n / p) + 1 := by rw [ordP, dif_pos ⟨hp, hn, h⟩]
theorem rst_stop {p n : Nat} (h : ¬ n % p = 0) : rst p n = n := by rw [rst, dif_neg fun z => h z.2.2]
theorem ord_stop {p n : Nat} (h : ¬ n % p = 0) : ordP p n = 0 := by rw [ordP, dif_neg fun z => h z.2.2]
theorem pow_rst {p : Nat} (hp : 2 ≤ p) : ∀ {n : Nat}, 0 < n → p ^ ordP p n * rst p n = n := by
  intro n
  induction n using Nat.strongRecOn with
  | ind n ih =>
    intro hn
    by_cases h : n % p = 0
    · have hd := Nat.dvd_of_mod_eq_zero h
      have hq : 0 < n / p := Nat.div_pos (Nat.le_of_dvd hn hd) (by omega)
      rw [rst_step hp hn h, ord_step hp hn h, Nat.pow_succ, Nat.mul_comm (p ^ _) p, Nat.mul_assoc, ih _ (Nat.div_lt_self hn (by omega)) hq]
      exact Nat.mul_div_cancel' hd
    · rw [rst_stop h, ord_stop h, Nat.pow_zero, Nat.one_mul]
theorem rst_pos {p n : Nat} (hp : 2 ≤ p) (hn : 0 < n) : 0 < rst p n := by
  have := pow_rst hp hn
  rcases Nat.eq_zero_or_pos (rst p n) with z | z
  · rw [z, Nat.mul_zero] at this; omega
  · exact z
theorem rst_dvd {p n : Nat} (hp : 2 ≤ p) (hn : 0 < n) : rst p n ∣ n := ⟨p ^ ordP p n, by rw [Nat.mul_comm]; exact (pow_rst hp hn).symm⟩
theorem rst_le {p n : Nat} (hp : 2 ≤ p) (hn : 0 < n) : rst p n ≤ n := Nat.le_of_dvd hn (rst_dvd hp hn)
theorem rst_nd {p : Nat} (hp : 2 ≤ p) : ∀ {n : Nat}, 0 < n → ¬ p ∣ rst p n := by
  intro n
  induction n using Nat.strongRecOn with
  | ind n ih =>
    intro hn
    by_cases h : n % p = 0
    · have hd := Nat.dvd_of_mod_eq_zero h
      have hq : 0 < n / p := Nat.div_pos (Nat.le_of_dvd hn hd) (by omega)
      rw [rst_step hp hn h]
      exact ih _ (Nat.div_lt_self hn (by omega)) hq
    · rw [rst_stop h]
      exact fun z => h (Nat.mod_eq_zero_of_dvd z)
theorem pow_ord_le {p n : Nat} (hp : 2 ≤ p) (hn : 0 < n) : p ^ ordP p n ≤ n := Nat.le_of_dvd hn ⟨rst p n, (pow_rst hp hn).symm⟩
theorem ord_le {p n : Nat} (hp : 2 ≤ p) (hn : 0 < n) : ordP p n ≤ n := by
  have h1 := pow_ord_le hp hn
  have h2 : ordP p n < p ^ ordP p n := Nat.lt_pow_self (by omega)
  omega
/-- the pairs of the next k candidates -/
def prs : Nat → Nat → Nat → List (Nat × Nat)
  | 0, _, _ => []
  | k + 1, p, n => (if 0 < ordP p n then [(p, ordP p n)] else []) ++ prs k (p + 1) (rst p n)
theorem prs_mem : ∀ {k p n : Nat}, 2 ≤ p → 0 < n → ∀ q ∈ prs k p n, q.1 < p + k ∧ q.1 ^ q.2 ≤ n ∧ q.2 ≤ n
  | 0, _, _, _, _, q, h => absurd h (by simp [prs])
  | k + 1, p, n, hp, hn, q, h => by
    unfold prs at h
    rcases List.mem_append.mp h with h | h
    · split at h
      · rw [List.mem_singleton] at h
        subst h
        exact ⟨by show p < _; omega, pow_ord_le hp hn, ord_le hp hn⟩
      · exact absurd h (by simp)
    · obtain ⟨h1, h2, h3⟩ := prs_mem (by omega) (rst_pos hp hn) q h
      have := rst_le hp hn
      exact ⟨by omega, by omega, by omega⟩
theorem prs_len : ∀ {k p n : Nat}, (prs k p n).length ≤ k
  | 0, _, _ => Nat.le_refl _
  | k + 1, p, n => by
    have := prs_len (k := k) (p := p + 1) (n := rst p n)
    unfold prs
    rw [List.length_append]
    split
    · rw [List.length_singleton]; omega
    · rw [List.length_nil]; omega
theorem prs_one : ∀ {k p : Nat}, 2 ≤ p → prs k p 1 = []
  | 0, _, _ => rfl
  | k + 1, p, hp => by
    have h : ¬ 1 % p = 0 := by rw [Nat.mod_eq_of_lt (by omega)]; omega
    unfold prs
    rw [ord_stop h, rst_stop h, if_neg (Nat.lt_irrefl 0), prs_one (by omega)]; rfl
/-- a number without divisors from p on but itself -/
theorem prs_prime : ∀ {k p n : Nat}, 2 ≤ p → p ≤ n → n < p + k → (∀ d, p ≤ d → d < n → ¬ d ∣ n) → prs k p n = [(n, 1)]
  | 0, p, n, _, h1, h2, _ => absurd h2 (by omega)
  | k + 1, p, n, hp, h1, h2, hd => by
    by_cases e : p = n
    · subst e
      have hm : p % p = 0 := Nat.mod_self p
      have h1 : ¬ 1 % p = 0 := by rw [Nat.mod_eq_of_lt (by omega)]; omega
      unfold prs
      rw [ord_step hp (by omega) hm, rst_step hp (by omega) hm, Nat.div_self (by omega), ord_stop h1, rst_stop h1, if_pos (by omega), prs_one (by omega)]; rfl
    · have hm : ¬ n % p = 0 := fun z => hd p (Nat.le_refl _) (by omega) (Nat.dvd_of_mod_eq_zero z)
      unfold prs
      rw [ord_stop hm, rst_stop hm, if_neg (Nat.lt_irrefl 0), prs_prime (by omega) (by omega) (by omega) fun d h3 h4 => hd d (by omega) h4]; rfl
/-- each divisor above 1 has a divisor to 200 -/
def Smooth (n : Nat) : Prop := ∀ d, d ∣ n → 1 < d → ∃ e, 2 ≤ e ∧ e ≤ 200 ∧ e ∣ d
theorem smooth_of_le {n : Nat} (h0 : 0 < n) (h : n ≤ 200) : Smooth n := fun d hd h1 => ⟨d, h1, Nat.le_trans (Nat.le_of_dvd h0 hd) h, Nat.dvd_refl _⟩
theorem smooth_dvd {n m : Nat} (h : Smooth n) (hm : m ∣ n) : Smooth m := fun d hd h1 => h d (Nat.dvd_trans hd hm) h1
def primeB (p : Nat) : Bool := decide (2 ≤ p) && (List.range p).all fun d => decide (d < 2) || !decide (p % d = 0)
theorem primeB_dvd {p : Nat} (h : primeB p = true) {d : Nat} (hd : d ∣ p) : d = 1 ∨ d = p := by
  unfold primeB at h
  rw [Bool.and_eq_true, decide_eq_true_eq, List.all_eq_true] at h
  have h0 : 0 < p := by omega
  have hl := Nat.le_of_dvd h0 hd
  have hp := Nat.pos_of_dvd_of_pos hd h0
  by_cases e : d = p
  · exact .inr e
  · have := h.2 d (List.mem_range.mpr (by omega))
    rw [Bool.or_eq_true, decide_eq_true_eq, Bool.not_eq_true', decide_eq_false_iff_not] at this
    rcases this with z | z
    · exact .inl (by omega)
    · exact absurd (Nat.mod_eq_zero_of_dvd hd) z
theorem smooth_mul {n p : Nat} (h : Smooth n) (hp : primeB p = true) (hl : p ≤ 200) : Smooth (n * p) := fun d hd h1 => by
  have h2 : 2 ≤ p := by unfold primeB at hp; rw [Bool.and_eq_true, decide_eq_true_eq] at hp; exact hp.1
  by_cases z : p ∣ d
  · exact ⟨p, h2, hl, z⟩
  · have hc : Nat.Coprime d p := by
      rcases primeB_dvd hp (Nat.gcd_dvd_right d p) with e | e
      · exact e
      · exact absurd (e ▸ Nat.gcd_dvd_left d p) z
    exact h d (hc.dvd_of_dvd_mul_right hd) h1
/-- what is left is prime -/
theorem left_prime {p n : Nat} (h1 : 1 < n) (hs : Smooth n) (hd : ∀ d, 2 ≤ d → d < p → ¬ d ∣ n) (hp : n < p * p) : n ≤ 200 ∧ p ≤ n ∧ ∀ d, p ≤ d → d < n → ¬ d ∣ n := by
  have key : ∀ d, p ≤ d → d < n → ¬ d ∣ n := fun d h2 h3 ⟨e, he⟩ => by
    have he2 : 2 ≤ e := by
      rcases Nat.lt_or_ge e 2 with z | z
      · have : e = 0 ∨ e = 1 := by omega
        rcases this with z | z <;> subst z <;> omega
      · exact z
    have hep : e < p := by
      rcases Nat.lt_or_ge e p with z | z
      · exact z
      · have := Nat.mul_le_mul h2 z; omega
    exact hd e he2 hep ⟨d, by rw [he, Nat.mul_comm]⟩
  obtain ⟨d, d2, dl, dd⟩ := hs n (Nat.dvd_refl _) h1
  have dn := Nat.le_of_dvd (by omega) dd
  have hpd : p ≤ d := by
    rcases Nat.lt_or_ge d p with z | z
    · exact absurd dd (hd d d2 z)
    · exact z
  have : d = n := by
    rcases Nat.lt_or_ge d n with z | z
    · exact absurd dd (key d hpd z)
    · omega
  subst this
  exact ⟨dl, hpd, key⟩
theorem small_p {p n : Nat} (h1 : 1 < n) (hs : Smooth n) (hd : ∀ d, 2 ≤ d → d < p → ¬ d ∣ n) : p ≤ 200 := by
  obtain ⟨d, d2, dl, dd⟩ := hs n (Nat.dvd_refl _) h1
  rcases Nat.lt_or_ge d p with z | z
  · exact absurd dd (hd d d2 z)
  · omega
/-- pairs as data -/
def pL (l : List (Nat × Nat)) : List PyData := l.map fun q => .tuple [.int q.1, .int q.2]
theorem pL_snoc {l : List (Nat × Nat)} {a b : Nat} : pL l ++ [.tuple [.int a, .int b]] = pL (l ++ [(a, b)]) := by unfold pL; rw [List.map_append]; rfl
theorem pL_len {l : List (Nat × Nat)} : (pL l).length = l.length := List.length_map ..
theorem pL_small : ∀ {l : List (Nat × Nat)}, (∀ q ∈ l, q.1 < 2 ^ 400 ∧ q.2 < 2 ^ 400) → smallA (pL l) = true ∧ PyData.depthAll (pL l) ≤ 1 ∧ PyData.bulkAll (pL l) = 3 * l.length
  | [], _ => ⟨rfl, Nat.zero_le _, rfl⟩
  | q :: l, h => by
    obtain ⟨h1, h2, h3⟩ := pL_small (l := l) fun x hx => h x (List.mem_cons_of_mem _ hx)
    obtain ⟨a, b⟩ := h q (List.mem_cons_self ..)
    refine ⟨?_, ?_, ?_⟩
    · show (small (.tuple [.int q.1, .int q.2]) && smallA (pL l)) = true
      rw [h1, Bool.and_true]
      show (small (.int q.1) && (small (.int q.2) && true)) = true
      rw [show small (.int (q.1 : Int)) = true from decide_eq_true (by rw [Int.natAbs_natCast]; exact a), show small (.int (q.2 : Int)) = true from decide_eq_true (by rw [Int.natAbs_natCast]; exact b)]; rfl
    · show max (PyData.depth (.tuple [.int q.1, .int q.2])) (PyData.depthAll (pL l)) ≤ 1
      have : PyData.depth (.tuple [.int (q.1 : Int), .int q.2]) = 1 := by simp [PyData.depth, PyData.depthAll]
      omega
    · show PyData.bulk (.tuple [.int q.1, .int q.2]) + 1 + PyData.bulkAll (pL l) = _
      have : PyData.bulk (.tuple [.int (q.1 : Int), .int q.2]) = 2 := by simp [PyData.bulk, PyData.bulkAll]
      rw [h3, List.length_cons]; omega
theorem repr_pL {l : List (Nat × Nat)} (h : ∀ q ∈ l, q.1 < 2 ^ 400 ∧ q.2 < 2 ^ 400) (hl : l.length ≤ 10000) : PyData.showable (.tuple (pL l)) = true ∧ (PyData.tuple (pL l)).depth ≤ 64 ∧ (PyData.tuple (pL l)).shown.length ≤ 16777216 := by
  obtain ⟨h1, h2, h3⟩ := pL_small h
  refine repr_ok (by simpa [small] using h1) ?_ ?_
  · simp only [PyData.depth]; omega
  · simp only [PyData.bulk]; omega
/-- primes -/
def IsPr (n : Int) : Prop := 2 ≤ n ∧ ∀ d : Int, 2 ≤ d → d * d ≤ n → ¬ n % d = 0
theorem powL_snoc {l : List (Nat × Nat)} {q : Nat × Nat} : ((l ++ [q]).map fun q => ((q.1 ^ q.2 : Nat) : Int)) = (l.map fun q => ((q.1 ^ q.2 : Nat) : Int)) ++ [((q.1 ^ q.2 : Nat) : Int)] := by rw [List.map_append]; rfl
theorem stopIff {G : MG} {E : MExc → MEnv → MH → Prop} {c : MX} {a b : MSs} {e : MEnv} {h : MH} {D : MD} (q : wS G E (.iff c a b) e h D) : wS G E (.iff c a b) e h D := q
theorem trim_cut {m : Int} {l : List Int} (h : ∀ c ∈ l, 0 ≤ c ∧ c < m) : trim l = cut m l :=
  co_inj (trim_last _) (trim_last _) fun k => by
    rw [co_trim, co_cut]
    by_cases hk : k < l.length
    · have := h _ (List.mem_of_getElem? (co_lt hk))
      exact (Int.emod_eq_of_lt this.1 this.2).symm
    · rw [co_ge (by omega), Int.zero_emod]
theorem isP_trim {m : Int} {l : List Int} (h : ∀ c ∈ l, 0 ≤ c ∧ c < m) : IsP m (trim l) :=
  ⟨fun c hc => (h c (trim_mem hc)).1, fun c hc => (h c (trim_mem hc)).2, trim_last _⟩
/-- one more summand, by a number -/
theorem cut_scaled {m c : Int} {D P : List Int} : cut m (sumL c D P) = cut m (sumL 1 D (cut m (mulL (cut m [c]) P))) :=
  cut_ext fun k => by
    have h1 : EqM m (sumL 1 D (cut m (mulL (cut m [c]) P))) (sumL 1 D (mulL [c] P)) := EqM.sum EqM.refl (eqM_cut.trans (EqM.mul eqM_cut EqM.refl))
    rw [h1 k, co_sum, co_sum, mul_const_l, Int.one_mul]
theorem bare_line {m : Int} (hm : 2 ≤ m) (k : Nat) : trim [(0 - (k : Int)) % m, 1] = cut m [0 - (k : Int), 1] := by
  unfold cut
  rw [List.map_cons, List.map_cons, List.map_nil, Int.emod_eq_of_lt (a := 1) (by omega) (by omega)]
theorem nb_zero {m : Int} (hm : 2 ≤ m) : nbL m 0 = [1] := by
  show trim [1 % m] = [1]
  rw [Int.emod_eq_of_lt (by omega) (by omega)]
  exact trim_snoc (l := []) (by decide)
theorem co_pF : ∀ {l : List Int} {k i : Nat}, l.length ≤ i → co (pF k l) i = 0
  | [], _, _, _ => rfl
  | c :: l, k, i, h => by
    rw [List.length_cons] at h
    show co (sumL 1 [c] (mulL [-(k : Int), 1] (pF (k + 1) l))) i = 0
    rw [co_sum, co_line, co_const, if_neg (by omega), co_pF (by omega), Int.mul_zero]
    obtain ⟨j, rfl⟩ : ∃ j, i = j + 1 := ⟨i - 1, by omega⟩
    rw [sh_succ, co_pF (by omega)]; omega
theorem len_of_co {l : List Int} {n : Nat} (hl : l.getLast? ≠ some 0) (h : ∀ i, n ≤ i → co l i = 0) : l.length ≤ n := by
  by_cases e : l = []
  · subst e; exact Nat.zero_le _
  · rcases Nat.lt_or_ge n l.length with z | z
    · exact absurd (h (l.length - 1) (by omega)) (co_last hl e)
    · exact z
theorem cut_pF_len {m : Int} {l : List Int} {k : Nat} : (cut m (pF k l)).length ≤ l.length :=
  len_of_co (trim_last _) fun i hi => by rw [co_cut, co_pF hi, Int.zero_emod]
theorem falls_len {m n : Nat} (hm : 0 < m) {c : List Int} (hc : IsFalls m c) (hn : m ∣ fac n) : c.length ≤ n :=
  len_of_co hc.last fun i hi => by
    have h1 := hc.lo i
    have h2 := hc.hi i
    have h3 : topN m i ≤ 1 := (topN_one hm i).mpr (Nat.dvd_trans hn (fac_dvd hi))
    omega
theorem topN_1 {m : Nat} : topN m 1 = m := by unfold topN; rw [show fac 1 = 1 from rfl, Nat.gcd_one_right, Nat.div_one]
/-- the place that a search finds -/
theorem place_found {m : Nat} (hm : 0 < m) {F : List Int} (hF : IsFalls m F) {k : Nat} {v one : Int} (hv : v % m = co F k * ff (k : Int) k % m) (h0 : 0 ≤ one) (h1 : one < topN m k) : ((v - one * ff (k : Int) k) % m = 0) ↔ one = co F k := by
  constructor
  · intro h
    have d1 : (m : Int) ∣ (co F k - one) * fac k := by
      rw [← ff_self, Int.sub_mul]
      have e1 := dvd_of_emod_eq hv
      have e2 := Int.dvd_of_emod_eq_zero h
      have : co F k * ff (k : Int) k - one * ff (k : Int) k = (v - one * ff (k : Int) k) - (v - co F k * ff (k : Int) k) := by omega
      rw [this]
      exact Int.dvd_sub e2 e1
    have := small_dvd (top_of hm d1) (by have := hF.lo k; omega) (by have := hF.hi k; omega)
    omega
  · intro h
    subst h
    exact Int.emod_eq_zero_of_dvd (dvd_of_emod_eq hv)
theorem filter_one {n : Nat} {p : Int → Bool} {a : Int} (h0 : 0 ≤ a) (h1 : a < n) (hp : ∀ x : Int, 0 ≤ x → x < n → (p x = true ↔ x = a)) : (rgI 0 (n : Int)).filter p = [a] := by
  obtain ⟨a, rfl⟩ : ∃ k : Nat, a = k := ⟨a.toNat, by omega⟩
  have key : ∀ n : Nat, (∀ x : Int, 0 ≤ x → x < n → (p x = true ↔ x = (a : Int))) → ((List.range n).map fun (k : Nat) => (k : Int)).filter p = if a < n then [(a : Int)] else [] := by
    intro n
    induction n with
    | zero => intro _; rfl
    | succ n ih =>
      intro h
      rw [List.range_succ, List.map_append, List.filter_append, ih fun x h2 h3 => h x h2 (by omega)]
      by_cases e : n = a
      · subst e
        rw [if_neg (Nat.lt_irrefl _), if_pos (Nat.lt_succ_self _)]
        have : p (n : Int) = true := (h n (by omega) (by omega)).mpr rfl
        simp [this]
      · have : ¬ p (n : Int) = true := fun z => e (by have := (h n (by omega) (by omega)).mp z; omega)
        have e2 : ([n].map fun (k : Nat) => (k : Int)).filter p = [] := by
          rw [List.map_cons, List.map_nil, List.filter_cons_of_neg this]; rfl
        rw [e2, List.append_nil]
        by_cases z : a < n
        · rw [if_pos z, if_pos (by omega)]
        · rw [if_neg z, if_neg (by omega)]
  have e : rgI 0 (n : Int) = (List.range n).map fun (k : Nat) => (k : Int) := by
    have := rgI_nat (n := n) (F := id)
    rw [List.map_id] at this
    exact this
  rw [e, key n hp, if_pos (by omega)]
/-! products of numbers that are apart -/
def prodN : List Nat → Nat
  | [] => 1
  | n :: l => n * prodN l
theorem prodN_app : ∀ {a b : List Nat}, prodN (a ++ b) = prodN a * prodN b
  | [], b => by show _ = 1 * _; rw [Nat.one_mul]; rfl
  | n :: a, b => by
    show n * prodN (a ++ b) = n * prodN a * prodN b
    rw [prodN_app, Nat.mul_assoc]
theorem prodN_one {n : Nat} : prodN [n] = n := Nat.mul_one n
theorem prodN_pos : ∀ {l : List Nat}, (∀ n ∈ l, 0 < n) → 0 < prodN l
  | [], _ => Nat.one_pos
  | n :: l, h => Nat.mul_pos (h n (List.mem_cons_self ..)) (prodN_pos fun x hx => h x (List.mem_cons_of_mem _ hx))
theorem dvd_prodN : ∀ {l : List Nat} {n : Nat}, n ∈ l → n ∣ prodN l
  | m :: l, n, h => by
    rcases List.mem_cons.mp h with rfl | h
    · exact Nat.dvd_mul_right _ _
    · exact Nat.dvd_trans (dvd_prodN h) (Nat.dvd_mul_left _ _)
theorem prodN_le {b : Nat} : ∀ {l : List Nat}, (∀ n ∈ l, n ≤ b) → prodN l ≤ b ^ l.length
  | [], _ => Nat.le_refl _
  | n :: l, h => by
    show n * prodN l ≤ b ^ (l.length + 1)
    rw [Nat.pow_succ, Nat.mul_comm (b ^ _) b]
    exact Nat.mul_le_mul (h n (List.mem_cons_self ..)) (prodN_le fun x hx => h x (List.mem_cons_of_mem _ hx))
theorem cop_prodN {o : Nat} : ∀ {l : List Nat}, (∀ n ∈ l, Nat.Coprime n o) → Nat.Coprime (prodN l) o
  | [], _ => Nat.coprime_one_left o
  | n :: l, h => Nat.Coprime.mul_left (h n (List.mem_cons_self ..)) (cop_prodN fun x hx => h x (List.mem_cons_of_mem _ hx))
theorem prodN_dvd {z : Nat} : ∀ {l : List Nat}, l.Pairwise Nat.Coprime → (∀ n ∈ l, n ∣ z) → prodN l ∣ z
  | [], _, _ => Nat.one_dvd z
  | n :: l, hp, h => by
    obtain ⟨h1, h2⟩ := List.pairwise_cons.mp hp
    exact Nat.Coprime.mul_dvd_of_dvd_of_dvd (cop_prodN fun x hx => (h1 x hx).symm).symm (h n (List.mem_cons_self ..)) (prodN_dvd h2 fun x hx => h x (List.mem_cons_of_mem _ hx))
/-- a rest is known by its rests -/
theorem rest_uniq {l : List Nat} {x : Int} {r : Nat} (hp : l.Pairwise Nat.Coprime) (h0 : ∀ n ∈ l, 0 < n) (h : ∀ n ∈ l, (r : Int) % n = x % n) (hr : r < prodN l) : (r : Int) = x % prodN l := by
  have hd : prodN l ∣ ((r : Int) - x).natAbs := prodN_dvd hp fun n hn => by
    have := dvd_of_emod_eq (h n hn)
    have := Int.natAbs_dvd_natAbs.mpr this
    rwa [Int.natAbs_natCast] at this
  have h2 : (prodN l : Int) ∣ (r : Int) - x := Int.natAbs_dvd_natAbs.mp (by rw [Int.natAbs_natCast]; exact hd)
  have h3 := emod_eq_of_dvd h2
  rw [← h3, Int.emod_eq_of_lt (by omega) (by omega)]
/-- one more number joined -/
theorem join_step {N o r e : Nat} {x : Int} (ho : 0 < o) (hx : (N : Int) * x % o = 1 % o) (he : e < o) (hr : r < N) :
    ((r : Int) + N * ((((e : Int) - r) * x) % o)) = ((r + N * ((((e : Int) - r) * x) % o).toNat : Nat) : Int) ∧ r + N * ((((e : Int) - r) * x) % o).toNat < N * o ∧ (r + N * ((((e : Int) - r) * x) % o).toNat) % o = e := by
  have w0 := Int.emod_nonneg ((((e : Int) - r) * x)) (b := o) (by omega)
  have w1 := Int.emod_lt_of_pos ((((e : Int) - r) * x)) (b := o) (by omega)
  have h1 : ((r : Int) + N * ((((e : Int) - r) * x) % o)) = ((r + N * ((((e : Int) - r) * x) % o).toNat : Nat) : Int) := by
    rw [Int.natCast_add, Int.natCast_mul, Int.toNat_of_nonneg w0]
  refine ⟨h1, ?_, ?_⟩
  · generalize hw : ((((e : Int) - r) * x) % o).toNat = w at *
    have : w + 1 ≤ o := by omega
    have h2 : N * (w + 1) ≤ N * o := Nat.mul_le_mul_left _ this
    rw [Nat.mul_add, Nat.mul_one] at h2
    omega
  · have h2 : ((r + N * ((((e : Int) - r) * x) % o).toNat : Nat) : Int) % o = (e : Int) % o := by
      rw [← h1]
      have h3 : ((r : Int) + N * ((((e : Int) - r) * x) % o)) % o = ((r : Int) + N * (((e : Int) - r) * x)) % o := add_mod rfl (mul_mod rfl (Int.emod_emod _ _))
      rw [h3]
      have h4 : (N : Int) * (((e : Int) - r) * x) = ((e : Int) - r) * (N * x) := by rw [Int.mul_left_comm]
      rw [h4]
      have h5 : ((r : Int) + ((e : Int) - r) * (N * x)) % o = ((r : Int) + ((e : Int) - r) * 1) % o := add_mod rfl (mul_mod rfl hx)
      rw [h5, Int.mul_one]
      congr 1; omega
    have h3 : ((r + N * ((((e : Int) - r) * x) % o).toNat) % o : Nat) = e % o := by
      exact_mod_cast h2
    rw [h3, Nat.mod_eq_of_lt he]
/-- the powers of a number -/
def powsN (l : List (Nat × Nat)) : List Nat := l.map fun q => q.1 ^ q.2
theorem prs_prod : ∀ {k p n : Nat}, 2 ≤ p → p + k = 201 → 0 < n → Smooth n → (∀ d, 2 ≤ d → d < p → ¬ d ∣ n) → prodN (powsN (prs k p n)) = n
  | 0, p, n, hp, hk, hn, hs, hd => by
    rcases Nat.lt_or_ge 1 n with z | z
    · have := small_p z hs hd; omega
    · show 1 = n; omega
  | k + 1, p, n, hp, hk, hn, hs, hd => by
    have ih := prs_prod (k := k) (p := p + 1) (n := rst p n) (by omega) (by omega) (rst_pos hp hn) (smooth_dvd hs (rst_dvd hp hn)) fun d h1 h2 h3 => by
      rcases Nat.lt_or_ge d p with z | z
      · exact hd d h1 z (Nat.dvd_trans h3 (rst_dvd hp hn))
      · have : d = p := by omega
        subst this; exact rst_nd hp hn h3
    unfold prs powsN
    rw [List.map_append, prodN_app]
    rw [show (prs k (p + 1) (rst p n)).map (fun q => q.1 ^ q.2) = powsN (prs k (p + 1) (rst p n)) from rfl, ih]
    by_cases h : 0 < ordP p n
    · rw [if_pos h]
      show p ^ ordP p n * 1 * rst p n = n
      rw [Nat.mul_one, pow_rst hp hn]
    · rw [if_neg h]
      have h0 : ordP p n = 0 := by omega
      have := pow_rst hp hn
      rw [h0, Nat.pow_zero, Nat.one_mul] at this
      show 1 * rst p n = n
      rw [Nat.one_mul, this]
theorem prs_dvd : ∀ {k p n : Nat}, 2 ≤ p → 0 < n → ∀ x ∈ powsN (prs k p n), x ∣ n
  | 0, _, _, _, _, x, h => absurd h (by simp [prs, powsN])
  | k + 1, p, n, hp, hn, x, h => by
    unfold prs powsN at h
    rw [List.map_append] at h
    rcases List.mem_append.mp h with h | h
    · split at h
      · have : x = p ^ ordP p n := by simpa using h
        rw [this]; exact ⟨rst p n, (pow_rst hp hn).symm⟩
      · exact absurd h (by simp)
    · exact Nat.dvd_trans (prs_dvd (by omega) (rst_pos hp hn) x h) (rst_dvd hp hn)
theorem prs_cop : ∀ {k p n : Nat}, 2 ≤ p → 0 < n → (∀ d, 2 ≤ d → d < p → ¬ d ∣ n) → (powsN (prs k p n)).Pairwise Nat.Coprime
  | 0, _, _, _, _, _ => List.Pairwise.nil
  | k + 1, p, n, hp, hn, hd => by
    have ih := prs_cop (k := k) (p := p + 1) (n := rst p n) (by omega) (rst_pos hp hn) fun d h1 h2 h3 => by
      rcases Nat.lt_or_ge d p with z | z
      · exact hd d h1 z (Nat.dvd_trans h3 (rst_dvd hp hn))
      · have : d = p := by omega
        subst this; exact rst_nd hp hn h3
    have hds := fun x hx => prs_dvd (k := k) (p := p + 1) (n := rst p n) (by omega) (rst_pos hp hn) x hx
    unfold prs powsN
    rw [List.map_append]
    by_cases h : 0 < ordP p n
    · rw [if_pos h]
      refine List.pairwise_cons.mpr ⟨fun x hx => ?_, ih⟩
      have hpn : p ∣ n := by
        have := pow_rst hp hn
        obtain ⟨t, ht⟩ : ∃ t, ordP p n = t + 1 := ⟨ordP p n - 1, by omega⟩
        rw [ht, Nat.pow_succ, Nat.mul_assoc, Nat.mul_left_comm] at this
        exact ⟨_, this.symm⟩
      have hc : Nat.Coprime p (rst p n) := by
        have hg1 := Nat.gcd_dvd_left p (rst p n)
        have hg2 := Nat.gcd_dvd_right p (rst p n)
        have hgp : 0 < Nat.gcd p (rst p n) := Nat.gcd_pos_of_pos_left _ (by omega)
        rcases Nat.lt_or_ge (Nat.gcd p (rst p n)) 2 with z | z
        · show Nat.gcd p (rst p n) = 1; omega
        · have hle := Nat.le_of_dvd (by omega) hg1
          rcases Nat.lt_or_ge (Nat.gcd p (rst p n)) p with y | y
          · exact absurd (Nat.dvd_trans hg1 hpn) (hd _ z y)
          · have : Nat.gcd p (rst p n) = p := by omega
            rw [this] at hg2
            exact absurd hg2 (rst_nd hp hn)
      exact Nat.Coprime.coprime_dvd_right (hds x hx) (Nat.Coprime.pow_left _ hc)
    · rw [if_neg h]; exact ih
theorem prs_two : ∀ {k p n : Nat}, 2 ≤ p → ∀ x ∈ powsN (prs k p n), 2 ≤ x
  | 0, _, _, _, x, h => absurd h (by simp [prs, powsN])
  | k + 1, p, n, hp, x, h => by
    unfold prs powsN at h
    rw [List.map_append] at h
    rcases List.mem_append.mp h with h | h
    · split at h
      · rename_i ho
        have : x = p ^ ordP p n := by simpa using h
        obtain ⟨t, ht⟩ : ∃ t, ordP p n = t + 1 := ⟨ordP p n - 1, by omega⟩
        rw [this, ht, Nat.pow_succ]
        have : 1 ≤ p ^ t := Nat.one_le_pow _ _ (by omega)
        have := Nat.mul_le_mul this hp
        omega
      · exact absurd h (by simp)
    · exact prs_two (by omega) x h
end Mini
end
section
set_option Elab.async false
set_option linter.all false
set_option maxRecDepth 100000
set_option exponentiation.threshold 3000
/-! things of some depth and bulk; rows of polys of two letters. -/
namespace Mini
open PySem

structure Gd (d b : Nat) (t : PyData) : Prop where
  sm : small t = true
  cl : PyData.canLay0 t = true
  dp : t.depth ≤ d
  bk : t.bulk ≤ b
structure GA (d b : Nat) (xs : List PyData) : Prop where
  sm : smallA xs = true
  cl : PyData.canLayAll0 xs = true
  dp : PyData.depthAll xs ≤ d
  bk : PyData.bulkAll xs ≤ b
theorem dep_tup {xs : List PyData} : (PyData.tuple xs).depth = PyData.depthAll xs + 1 := by simp [PyData.depth]
theorem dep_lis {xs : List PyData} : (PyData.list xs).depth = PyData.depthAll xs + 1 := by simp [PyData.depth]
theorem GA.tup {d b : Nat} {xs : List PyData} (h : GA d b xs) : Gd (d + 1) b (.tuple xs) := ⟨by simpa [small] using h.sm, by simpa [PyData.canLay0] using h.cl, by rw [dep_tup]; have := h.dp; omega, by simpa [PyData.bulk] using h.bk⟩
theorem GA.lis {d b : Nat} {xs : List PyData} (h : GA d b xs) : Gd (d + 1) b (.list xs) := ⟨by simpa [small] using h.sm, by simpa [PyData.canLay0] using h.cl, by rw [dep_lis]; have := h.dp; omega, by simpa [PyData.bulk] using h.bk⟩
theorem Gd.tupA {d b : Nat} {xs : List PyData} (h : Gd (d + 1) b (.tuple xs)) : GA d b xs := ⟨by simpa [small] using h.sm, by simpa [PyData.canLay0] using h.cl, by have := h.dp; rw [dep_tup] at this; omega, by simpa [PyData.bulk] using h.bk⟩
theorem Gd.mono {d b d' b' : Nat} {t : PyData} (h : Gd d b t) (hd : d ≤ d') (hb : b ≤ b') : Gd d' b' t := ⟨h.sm, h.cl, Nat.le_trans h.dp hd, Nat.le_trans h.bk hb⟩
theorem GA.mono {d b d' b' : Nat} {t : List PyData} (h : GA d b t) (hd : d ≤ d') (hb : b ≤ b') : GA d' b' t := ⟨h.sm, h.cl, Nat.le_trans h.dp hd, Nat.le_trans h.bk hb⟩
theorem GA.nil {d b : Nat} : GA d b [] := ⟨rfl, rfl, Nat.zero_le _, Nat.zero_le _⟩
theorem GA.cons {d b c : Nat} {x : PyData} {xs : List PyData} (h : Gd d b x) (h' : GA d c xs) : GA d (b + 1 + c) (x :: xs) := by
  refine ⟨?_, ?_, ?_, ?_⟩
  · show (small x && smallA xs) = true
    rw [h.sm, h'.sm]; rfl
  · show (PyData.canLay0 x && PyData.canLayAll0 xs) = true
    rw [h.cl, h'.cl]; rfl
  · show max (PyData.depth x) (PyData.depthAll xs) ≤ d
    have := h.dp; have := h'.dp; omega
  · show PyData.bulk x + 1 + PyData.bulkAll xs ≤ _
    have := h.bk; have := h'.bk; omega
theorem GA.uncons {d b : Nat} {x : PyData} {xs : List PyData} (h : GA d b (x :: xs)) : Gd d (PyData.bulk x) x ∧ GA d (PyData.bulkAll xs) xs ∧ PyData.bulk x + 1 + PyData.bulkAll xs ≤ b := by
  have h1 : (small x && smallA xs) = true := h.sm
  have h2 : (PyData.canLay0 x && PyData.canLayAll0 xs) = true := h.cl
  have h3 : max (PyData.depth x) (PyData.depthAll xs) ≤ d := h.dp
  have h4 : PyData.bulk x + 1 + PyData.bulkAll xs ≤ b := h.bk
  rw [Bool.and_eq_true] at h1 h2
  exact ⟨⟨h1.1, h2.1, by omega, Nat.le_refl _⟩, ⟨h1.2, h2.2, by omega, Nat.le_refl _⟩, h4⟩
theorem GA.app {d : Nat} {ys : List PyData} {c : Nat} (hy : GA d c ys) : ∀ {xs : List PyData} {b : Nat}, GA d b xs → GA d (b + c) (xs ++ ys)
  | [], b, _ => hy.mono (Nat.le_refl _) (by omega)
  | x :: xs, b, h => by
    obtain ⟨h1, h2, h3⟩ := h.uncons
    exact (GA.cons h1 (GA.app hy h2)).mono (Nat.le_refl _) (by omega)
theorem GA.mem {d b : Nat} : ∀ {xs : List PyData}, GA d b xs → ∀ x ∈ xs, Gd d b x
  | y :: xs, h, x, hx => by
    obtain ⟨h1, h2, h3⟩ := h.uncons
    rcases List.mem_cons.mp hx with rfl | hx
    · exact h1.mono (Nat.le_refl _) (by omega)
    · exact (GA.mem h2 x hx).mono (Nat.le_refl _) (by omega)
theorem GA.len {d b : Nat} : ∀ {xs : List PyData}, GA d b xs → xs.length ≤ b
  | [], _ => Nat.zero_le _
  | y :: xs, h => by
    obtain ⟨h1, h2, h3⟩ := h.uncons
    have := GA.len h2
    rw [List.length_cons]; omega
theorem GA.sub {d b : Nat} {xs ys : List PyData} (s : List.Sublist ys xs) : GA d b xs → GA d b ys := by
  induction s generalizing b with
  | slnil => exact id
  | cons x _ ih =>
    intro h
    obtain ⟨h1, h2, h3⟩ := h.uncons
    exact (ih h2).mono (Nat.le_refl _) (by omega)
  | cons_cons x _ ih =>
    intro h
    obtain ⟨h1, h2, h3⟩ := h.uncons
    exact (GA.cons h1 (ih h2)).mono (Nat.le_refl _) (by omega)
theorem GA.rev {d : Nat} : ∀ {xs : List PyData} {b : Nat}, GA d b xs → GA d b xs.reverse
  | [], _, h => h
  | x :: xs, b, h => by
    obtain ⟨h1, h2, h3⟩ := h.uncons
    rw [List.reverse_cons]
    exact ((GA.cons h1 GA.nil : GA d (PyData.bulk x + 1 + 0) [x]).app (GA.rev h2)).mono (Nat.le_refl _) (by omega)
/-- one item is another one -/
theorem GA.put {d b c : Nat} {y : PyData} (hy : Gd d c y) : ∀ {xs : List PyData} {k : Nat} {x : PyData}, GA d b xs → xs[k]? = some x → GA d (b - PyData.bulk x + c) (xs.take k ++ y :: xs.drop (k + 1)) ∧ PyData.bulk x ≤ b
  | [], _, _, _, e => absurd e (by simp)
  | z :: xs, 0, x, h, e => by
    obtain ⟨h1, h2, h3⟩ := h.uncons
    have e : z = x := Option.some.inj e
    subst e
    exact ⟨(GA.cons hy h2 : GA d (c + 1 + _) (y :: xs)).mono (Nat.le_refl _) (by omega), by omega⟩
  | z :: xs, k + 1, x, h, e => by
    obtain ⟨h1, h2, h3⟩ := h.uncons
    obtain ⟨h4, h5⟩ := GA.put hy (xs := xs) (k := k) (x := x) h2 (by simpa using e)
    exact ⟨(GA.cons h1 h4).mono (Nat.le_refl _) (by omega), by omega⟩
theorem cutD_sub {xs : List PyData} {lo hi : Option Int} : List.Sublist (cutD xs lo hi) xs := (List.take_sublist _ _).trans (List.drop_sublist _ _)
theorem cutD_take {xs : List PyData} {k : Nat} : cutD xs none (some (k : Int)) = xs.take k := by
  unfold cutD
  rw [HT.sIx_nat]
  show ((xs.drop 0).take (min k xs.length - 0)) = _
  rw [List.drop_zero, Nat.sub_zero]
  rcases Nat.le_total k xs.length with z | z
  · rw [Nat.min_eq_left z]
  · rw [Nat.min_eq_right z, List.take_length, List.take_of_length_le z]
theorem cutD_dropD {xs : List PyData} {k : Nat} : cutD xs (some (k : Int)) none = xs.drop k := by
  unfold cutD
  rw [HT.sIx_nat]
  show ((xs.drop (min k xs.length)).take (xs.length - _)) = _
  rcases Nat.le_total k xs.length with z | z
  · rw [Nat.min_eq_left z]
    exact List.take_of_length_le (by rw [List.length_drop]; exact Nat.le_refl _)
  · rw [Nat.min_eq_right z, List.drop_length, List.drop_of_length_le z, List.take_nil]
theorem Gd.repr {d b : Nat} {t : PyData} (h : Gd d b t) (hd : d ≤ 64) (hb : b ≤ 40000) : PyData.showable t = true ∧ t.depth ≤ 64 ∧ t.shown.length ≤ 16777216 :=
  repr_ok h.sm (Nat.le_trans h.dp hd) (Nat.le_trans h.bk hb)
theorem Gd.shaped {d b : Nat} {t : PyData} (h : Gd d b t) (hd : d ≤ 64) : SeqAt.shaped t = true := by
  unfold SeqAt.shaped
  rw [h.cl, decide_eq_true (Nat.le_trans h.dp hd)]; rfl
theorem small_nd {t : PyData} (h : small t = true) : notDict t = true := by
  cases t <;> first | rfl | exact absurd h (by simp [small])
theorem Gd.nd {d b : Nat} {t : PyData} (h : Gd d b t) : notDict t = true := small_nd h.sm
theorem GA.nd {d b : Nat} {xs : List PyData} (h : GA d b xs) : xs.all notDict = true := List.all_eq_true.mpr fun x hx => (h.mem x hx).nd
theorem Gd.ok {d b : Nat} {t : PyData} (h : Gd d b t) : okD t = true := by
  unfold okD
  rw [h.nd, Bool.true_and]
  cases t with
  | tuple xs =>
    refine List.all_eq_true.mpr fun x hx => ?_
    have : GA (d) b xs := ⟨by simpa [small] using h.sm, by simpa [PyData.canLay0] using h.cl, by have := h.dp; rw [dep_tup] at this; omega, by simpa [PyData.bulk] using h.bk⟩
    exact (this.mem x hx).nd
  | _ => rfl
theorem Gd.len {d b : Nat} {t : PyData} (h : Gd d b t) : ∀ xs, t = .tuple xs → xs.length ≤ b := fun xs e => by
  subst e
  have : GA (d) b xs := ⟨by simpa [small] using h.sm, by simpa [PyData.canLay0] using h.cl, by have := h.dp; rw [dep_tup] at this; omega, by simpa [PyData.bulk] using h.bk⟩
  exact this.len
theorem GA_iL {d : Nat} : ∀ {l : List Int}, Bd l → GA d l.length (iL l)
  | [], _ => GA.nil
  | c :: l, h => by
    have h1 : Gd d 0 (.int c) := ⟨decide_eq_true (h c (List.mem_cons_self ..)), rfl, Nat.zero_le _, Nat.le_refl _⟩
    exact (GA.cons h1 (GA_iL fun i hi => h i (List.mem_cons_of_mem _ hi))).mono (Nat.le_refl _) (by rw [List.length_cons]; omega)
theorem GA.one {d b : Nat} {x : PyData} (h : Gd d b x) : GA d (b + 1) [x] := (GA.cons h (GA.nil (b := 0))).mono (Nat.le_refl _) (by omega)
/-- likeness to () -/
theorem eqv_unit {xs : List PyData} : PyData.eqv (.tuple xs) (.tuple []) = xs.isEmpty := by
  unfold PyData.eqv
  cases xs <;> rfl
def unitD (v : PyData) : Bool := PyData.eqv v (.tuple [])
theorem wEq_unit {v : PyData} {h : MH} {K : Bool → Prop} : wCmp .eq (.d v) (.d (.tuple [])) h K = ((SeqAt.shaped v = true ∧ SeqAt.shaped (.tuple []) = true) ∧ K (unitD v)) := by cases v <;> rfl
theorem wNe_unit {v : PyData} {h : MH} {K : Bool → Prop} : wCmp .ne (.d v) (.d (.tuple [])) h K = ((SeqAt.shaped v = true ∧ SeqAt.shaped (.tuple []) = true) ∧ K (!unitD v)) := by cases v <;> rfl
theorem sh_unit : SeqAt.shaped (.tuple []) = true := sh_tup (l := [])
def lastRow (xs : List PyData) : Bool := match xs.getLast? with
  | some v => !unitD v
  | none => true
def isP2D (m : Int) : PyData → Bool
  | .tuple xs => xs.all (isPolyD m) && lastRow xs
  | _ => false
theorem at_lastD {r : List PyData} {c : PyData} {K : PyData → Prop} (q : K c) : atW (r ++ [c]) (-1) K := by
  refine at_lit ?_ q
  have e : L2.ixN (r ++ [c]).length (-1) = some r.length := by
    unfold L2.ixN
    rw [if_neg (by omega), if_pos (by simp; omega)]
    congr 1
    rw [List.length_append, List.length_singleton]; omega
  unfold L2.atI
  rw [e]
  simp
theorem lastRow_snoc {r : List PyData} {c : PyData} : lastRow (r ++ [c]) = !unitD c := by
  unfold lastRow
  rw [List.getLast?_concat]
theorem snocD {l : List PyData} (h : l ≠ []) : ∃ (r : List PyData) (c : PyData), l = r ++ [c] := ⟨l.dropLast, l.getLast h, (List.dropLast_concat_getLast h).symm⟩
/-- rows -/
def rL (rows : List (List Int)) : List PyData := rows.map fun l => .tuple (iL l)
def trimR (rows : List (List Int)) : List (List Int) := (rows.reverse.dropWhile List.isEmpty).reverse
theorem trimR_snoc0 {l : List (List Int)} : trimR (l ++ [[]]) = trimR l := by
  unfold trimR; rw [List.reverse_append]; rfl
theorem trimR_snoc {l : List (List Int)} {c : List Int} (h : c ≠ []) : trimR (l ++ [c]) = l ++ [c] := by
  unfold trimR
  rw [List.reverse_append]
  show ((c :: l.reverse).dropWhile _).reverse = _
  rw [List.dropWhile_cons_of_neg (by cases c <;> simp_all), List.reverse_cons, List.reverse_reverse]
theorem trimR_nil : trimR [] = [] := rfl
theorem rL_snoc {l : List (List Int)} {c : List Int} : rL (l ++ [c]) = rL l ++ [.tuple (iL c)] := by unfold rL; rw [List.map_append]; rfl
theorem rL_len {l : List (List Int)} : (rL l).length = l.length := List.length_map ..
theorem snocR {l : List (List Int)} (h : l ≠ []) : ∃ (r : List (List Int)) (c : List Int), l = r ++ [c] := ⟨l.dropLast, l.getLast h, (List.dropLast_concat_getLast h).symm⟩
theorem trimR_mem {l : List (List Int)} {c : List Int} (h : c ∈ trimR l) : c ∈ l := by
  unfold trimR at h
  rw [List.mem_reverse] at h
  have := (List.dropWhile_sublist (l := l.reverse) List.isEmpty).mem h
  rwa [List.mem_reverse] at this
theorem trimR_len {l : List (List Int)} : (trimR l).length ≤ l.length := by
  unfold trimR
  rw [List.length_reverse]
  have := (List.dropWhile_sublist (l := l.reverse) List.isEmpty).length_le
  rwa [List.length_reverse] at this
theorem GA_rL {d n : Nat} : ∀ {rows : List (List Int)}, (∀ l ∈ rows, Bd l ∧ l.length ≤ n) → GA (d + 1) ((n + 1) * rows.length) (rL rows)
  | [], _ => GA.nil
  | l :: rows, h => by
    obtain ⟨h1, h2⟩ := h l (List.mem_cons_self ..)
    refine (GA.cons (GA_iL h1).tup (GA_rL fun x hx => h x (List.mem_cons_of_mem _ hx))).mono (Nat.le_refl _) ?_
    rw [List.length_cons, Nat.mul_add]; omega
end Mini
end
section
set_option Elab.async false
set_option linter.all false
set_option maxRecDepth 100000
/-! polys that are 0 everywhere, formally. -/
namespace Mini
open PySem

theorem hs_co {m k : Int} : ∀ {l : List Int} {i : Nat}, co l i % m = (co (hs m k l) i - k * co (hs m k l) (i + 1)) % m
  | [], i => by show 0 % m = (0 - k * 0) % m; rw [Int.mul_zero]; rfl
  | c :: l, 0 => by
    show c % m = ((horner m k l * k + c) % m - k * co (hs m k l) 0) % m
    rw [hs_head, Int.emod_sub_emod, Int.mul_comm k]
    congr 1; omega
  | c :: l, i + 1 => hs_co (l := l) (i := i)
/-- the falls' places, one after the other -/
def nbN (m : Int) : Nat → Nat → List Int → List Int
  | 0, _, _ => []
  | t + 1, k, l => horner m k l :: nbN m t (k + 1) (hs m k l).tail
theorem nbN_len {m : Int} : ∀ {t k : Nat} {l : List Int}, (nbN m t k l).length = t
  | 0, _, _ => rfl
  | t + 1, k, l => by show (nbN m t (k + 1) _).length + 1 = _; rw [nbN_len]
theorem co_tail {l : List Int} {i : Nat} : co l.tail i = co l (i + 1) := by cases l <;> rfl
theorem hs_eqM {m : Int} {k : Nat} {l : List Int} : EqM m l (sumL 1 [horner m k l] (mulL [-(k : Int), 1] (hs m k l).tail)) := fun i => by
  rw [co_sum, co_line, co_const, hs_co (k := k)]
  cases i with
  | zero =>
    rw [if_pos rfl, co_tail, hs_head]
    show _ = (horner m k l + 1 * (-(k : Int) * co (hs m k l) (0 + 1) + 0)) % m
    congr 1
    rw [Int.neg_mul]; omega
  | succ i =>
    rw [if_neg (by omega), sh_succ, co_tail, co_tail]
    congr 1
    rw [Int.neg_mul]; omega
theorem nb_eqM {m : Int} : ∀ {t k : Nat} {l : List Int}, l.length ≤ t → EqM m l (pF k (nbN m t k l))
  | 0, k, l, h => by
    have : l = [] := List.length_eq_zero_iff.mp (by omega)
    subst this; exact EqM.refl
  | t + 1, k, l, h => by
    refine hs_eqM.trans (EqM.sum EqM.refl (EqM.mul EqM.refl (nb_eqM ?_)))
    rw [List.length_tail, hs_len]; omega
theorem horner_rng {m x : Int} (hm : 0 < m) : ∀ l : List Int, 0 ≤ horner m x l ∧ horner m x l < m := fun l => by
  rw [horner_eq]
  exact ⟨Int.emod_nonneg _ (by omega), Int.emod_lt_of_pos _ hm⟩
theorem nbN_rng {m : Int} (hm : 0 < m) : ∀ {t k : Nat} {l : List Int}, ∀ c ∈ nbN m t k l, 0 ≤ c ∧ c < m
  | 0, _, _, c, h => absurd h (by simp [nbN])
  | t + 1, k, l, c, h => by
    rcases List.mem_cons.mp h with rfl | h
    · exact horner_rng hm l
    · exact nbN_rng hm c h
theorem nb_fv {m x : Int} {f : List Int} : fv x (nbN m f.length 0 f) % m = ev x f % m := by
  rw [← ev_pF0]; exact (ev_eqM (nb_eqM (Nat.le_refl _))).symm
theorem nb_poly {m : Int} {f : List Int} (hf : IsP m f) : cut m (pF 0 (nbN m f.length 0 f)) = f := by
  rw [← EqM.cut (nb_eqM (Nat.le_refl _)), cut_id hf]
/-- which places are met by their bounds -/
def metB (m : Nat) (c : List Int) : Bool := (List.range c.length).all fun k => decide (co c k % (topN m k : Int) = 0)
theorem met_iff {m : Nat} {c : List Int} : metB m c = true ↔ ∀ k, (topN m k : Int) ∣ co c k := by
  unfold metB
  rw [List.all_eq_true]
  constructor
  · intro h k
    by_cases hk : k < c.length
    · exact Int.dvd_of_emod_eq_zero (of_decide_eq_true (h k (List.mem_range.mpr hk)))
    · rw [co_ge (by omega)]; exact Int.dvd_zero _
  · intro h k _
    exact decide_eq_true (Int.emod_eq_zero_of_dvd (h k))
theorem met_null {m : Nat} {c : List Int} (h : metB m c = true) (x : Int) : fv x c % m = 0 := by
  have := fv_alike (m := m) (c := c) (d := []) (fun k => by rw [co_nil, Int.sub_zero]; exact met_iff.mp h k) x
  rw [this, fv_nil, Int.zero_emod]
theorem null_met {m n : Nat} (hm : 0 < m) (hn : m ∣ fac n) {c : List Int} (h : ∀ x : Nat, x < n → fv (x : Int) c % m = 0) : metB m c = true := by
  refine met_iff.mpr fun k => ?_
  by_cases hk : k < n
  · have := fv_uniq hm (c := c) (d := []) (n := n) (fun x hx => by rw [h x hx, fv_nil, Int.zero_emod]) k hk
    rwa [co_nil, Int.sub_zero] at this
  · have h1 : topN m k ≤ 1 := (topN_one hm k).mpr (Nat.dvd_trans hn (fac_dvd (by omega)))
    have h2 := topN_pos hm k
    have : topN m k = 1 := by omega
    rw [this]; exact Int.one_dvd _
/-- the paper's rests -/
def payL (m : Nat) (c : List Int) : List Int := (List.range c.length).map fun k => co c k / (topN m k : Int)
theorem pay_len {m : Nat} {c : List Int} : (payL m c).length = c.length := by unfold payL; rw [List.length_map, List.length_range]
theorem co_pay {m : Nat} {c : List Int} {k : Nat} : co (payL m c) k = co c k / (topN m k : Int) := by
  unfold payL
  by_cases hk : k < c.length
  · rw [co_map_range hk]
  · rw [co_ge (by rw [List.length_map, List.length_range]; omega), co_ge (by omega), Int.zero_ediv]
theorem ext_co : ∀ {a b : List Int}, a.length = b.length → (∀ k, co a k = co b k) → a = b
  | [], [], _, _ => rfl
  | [], _ :: _, h, _ => absurd h (by simp)
  | _ :: _, [], h, _ => absurd h (by simp)
  | x :: a, y :: b, hl, h => by
    have h0 : x = y := h 0
    rw [h0, ext_co (a := a) (b := b) (by simpa using hl) fun k => h (k + 1)]
theorem tl_pay {m : Nat} {c : List Int} (h : metB m c = true) : tlL m (payL m c) = c := by
  refine ext_co (by rw [tl_len, pay_len]) fun k => ?_
  rw [co_tl, co_pay]
  exact Int.ediv_mul_cancel (met_iff.mp h k)
theorem pay_rng {m : Nat} (hm : 0 < m) {c : List Int} (hc : ∀ x ∈ c, 0 ≤ x ∧ x < (m : Int)) : ∀ x ∈ payL m c, 0 ≤ x ∧ x < (m : Int) := fun x hx => by
  unfold payL at hx
  obtain ⟨k, hk, rfl⟩ := List.mem_map.mp hx
  have h1 := hc _ (List.mem_of_getElem? (co_lt (List.mem_range.mp hk)))
  have h2 := topN_pos hm k
  refine ⟨Int.ediv_nonneg h1.1 (by omega), ?_⟩
  have h3 : co c k / (topN m k : Int) ≤ co c k := Int.ediv_le_self _ h1.1
  omega
/-- powers of falls: coefficients that are alike -/
theorem pF_ext {m : Int} : ∀ {a b : List Int} {k : Nat}, EqM m a b → EqM m (pF k a) (pF k b)
  | [], [], _, _ => EqM.refl
  | [], d :: b, k, h => by
    have ih : EqM m (pF (k + 1) []) (pF (k + 1) b) := pF_ext fun i => h (i + 1)
    have e : EqM m [0] [d] := eqM_const (h 0)
    refine EqM.trans ?_ (EqM.sum e (EqM.mul (a := [-(k : Int), 1]) EqM.refl ih))
    intro i
    rw [co_sum, co_const]
    show 0 % m = ((if i = 0 then 0 else 0) + 1 * co (mulL [-(k : Int), 1] []) i) % m
    rw [mul_nil_r]
    split <;> rfl
  | c :: a, [], k, h => by
    have ih : EqM m (pF (k + 1) a) (pF (k + 1) []) := pF_ext fun i => h (i + 1)
    have e : EqM m [c] [0] := eqM_const (h 0)
    refine (EqM.sum e (EqM.mul (a := [-(k : Int), 1]) EqM.refl ih)).trans ?_
    intro i
    rw [co_sum, co_const]
    show ((if i = 0 then 0 else 0) + 1 * co (mulL [-(k : Int), 1] []) i) % m = 0 % m
    rw [mul_nil_r]
    split <;> rfl
  | c :: a, d :: b, k, h => EqM.sum (eqM_const (h 0)) (EqM.mul EqM.refl (pF_ext fun i => h (i + 1)))
/-- a place without a share -/
theorem pF_skip {m : Int} {k : Nat} {D P r U : List Int} (hD : IsP m D) (h : EqM m U (sumL 1 D (mulL P (pF k (0 :: r))))) : EqM m U (sumL 1 D (mulL (cut m (mulL P (cut m [0 - (k : Int), 1]))) (pF (k + 1) r))) := by
  have h1 := pF_fold h
  have h2 : EqM m (cut m (sumL 1 D (cut m (mulL (cut m [0]) P)))) D := by
    refine eqM_cut.trans ?_
    have h3 : EqM m (cut m (mulL (cut m [0]) P)) [] := eqM_cut.trans ((EqM.mul eqM_cut EqM.refl).trans fun i => by
      show co (mulL [0] P) i % m = 0 % m
      rw [mul_const_l, Int.zero_mul])
    refine (EqM.sum EqM.refl h3).trans fun i => ?_
    rw [co_sum, co_nil, Int.mul_zero, Int.add_zero]
  exact h1.trans (EqM.sum h2 EqM.refl)
/-- the first of the rests below n that does so -/
def firstD (p : Nat → Bool) (n : Nat) : PyData := match (List.range n).find? p with
  | some x => .int x
  | none => .none
theorem first_succ {p : Nat → Bool} {n : Nat} (h : ∀ x, x < n → p x = false) : firstD p (n + 1) = if p n then .int n else .none := by
  unfold firstD
  rw [List.range_succ, List.find?_append, List.find?_eq_none.mpr fun x hx => by rw [h x (List.mem_range.mp hx)]; exact Bool.false_ne_true]
  show (match (List.find? p [n]) with | some x => PyData.int (x : Nat) | none => .none) = _
  rw [List.find?_cons]
  cases p n <;> rfl
theorem first_none {p : Nat → Bool} {n : Nat} (h : ∀ x, x < n → p x = false) : firstD p n = .none := by
  unfold firstD
  rw [List.find?_eq_none.mpr fun x hx => by rw [h x (List.mem_range.mp hx)]; exact Bool.false_ne_true]
theorem first_at {p : Nat → Bool} {n x : Nat} (hx : x < n) (h : ∀ y, y < x → p y = false) (hp : p x = true) : firstD p n = .int x := by
  unfold firstD
  have : List.range n = List.range (x + 1) ++ (List.range n).drop (x + 1) := by
    have : List.range (x + 1) = (List.range n).take (x + 1) := by rw [List.take_range, Nat.min_eq_left (by omega)]
    rw [this, List.take_append_drop]
  rw [this, List.find?_append]
  have h2 : (List.range (x + 1)).find? p = some x := by
    rw [List.range_succ, List.find?_append, List.find?_eq_none.mpr fun y hy => by rw [h y (List.mem_range.mp hy)]; exact Bool.false_ne_true]
    show List.find? p [x] = _
    rw [List.find?_cons, hp]
  rw [h2]; rfl
/-- the first of all rests is the first of those below the least number whose product it divides -/
theorem first_high {p : Nat → Bool} {n m : Nat} (hnm : n ≤ m) (h : (∀ x, x < n → p x = false) → ∀ x, x < m → p x = false) : firstD p n = firstD p m := by
  by_cases z : ∀ x, x < n → p x = false
  · rw [first_none z, first_none (h z)]
  · have : ∃ x, x < n ∧ p x = true := by
      refine Classical.byContradiction fun c => z fun x hx => ?_
      cases e : p x with
      | false => rfl
      | true => exact absurd ⟨x, hx, e⟩ c
    have key : ∀ t, t ≤ n → (∀ y, y < t → p y = false) ∨ ∃ x, x < t ∧ (∀ y, y < x → p y = false) ∧ p x = true := by
      intro t
      induction t with
      | zero => exact fun _ => .inl fun y hy => absurd hy (Nat.not_lt_zero _)
      | succ t ih =>
        intro ht
        rcases ih (by omega) with h1 | ⟨x, h1, h2, h3⟩
        · cases e : p t with
          | false => exact .inl fun y hy => by rcases Nat.lt_or_ge y t with z | z; exact h1 y z; have : y = t := by omega
                                               rw [this]; exact e
          | true => exact .inr ⟨t, Nat.lt_succ_self _, h1, e⟩
        · exact .inr ⟨x, by omega, h2, h3⟩
    rcases key n (Nat.le_refl _) with h1 | ⟨x, h1, h2, h3⟩
    · exact absurd h1 z
    · rw [first_at h1 h2 h3, first_at (by omega) h2 h3]
theorem first_head {p : Nat → Bool} {n : Nat} : firstD p n = (match (List.range n).filter p with | x :: _ => .int (x : Nat) | [] => .none) := by
  unfold firstD
  rw [← List.head?_filter]
  cases (List.range n).filter p <;> rfl
theorem high_le {m n : Nat} (hm : 0 < m) (h : IsHigh m n) : n ≤ m := by
  rcases Nat.lt_or_ge m n with z | z
  · refine absurd ?_ (h.2 m z)
    obtain ⟨k, rfl⟩ : ∃ k, m = k + 1 := ⟨m - 1, by omega⟩
    show k + 1 ∣ fac (k + 1)
    first | exact Nat.dvd_mul_left _ _ | exact Nat.dvd_mul_right _ _
  · exact z
/-- alike at the first rests: alike everywhere -/
theorem high_all {m n : Nat} (hm : 0 < m) (hn : IsHigh m n) {f : List Int} (h : ∀ x : Nat, x < n → ev (x : Int) f % m = 0) (x : Int) : ev x f % m = 0 := by
  have h1 := null_met hm hn.1 (c := nbN m f.length 0 f) fun x hx => by rw [nb_fv]; exact h x hx
  rw [← nb_fv]; exact met_null h1 x
theorem ev_apart {m x : Int} {f g : List Int} : ev x (cut m (sumL (-1) f g)) % m = 0 ↔ ev x f % m = ev x g % m := by
  rw [ev_eqM eqM_cut, ev_sum]
  constructor
  · intro h
    refine emod_eq_of_dvd ?_
    have := Int.dvd_of_emod_eq_zero h
    rwa [show ev x f + -1 * ev x g = ev x f - ev x g by omega] at this
  · intro h
    rw [show ev x f + -1 * ev x g = ev x f - ev x g by omega]
    exact Int.emod_eq_zero_of_dvd (dvd_of_emod_eq h)
end Mini
end
section
set_option Elab.async false
set_option linter.all false
set_option maxRecDepth 100000
/-! pairs of two lists; sums with a factor; the bounds below the least number whose product is divided. -/
namespace Mini
open PySem

theorem seqW_has {h : MH} {v : MV} {l : List Int} {K : List PyData → Prop} (e : HasL h v l) (q : K (iL l)) : seqW v h K := by
  rcases e with rfl | rfl | ⟨i, rfl, hi⟩
  · exact q
  · exact q
  · exact cell_at hi q
def pairF (f : Int → Int → Int) : PyData → Option PyData
  | .tuple [.int x, .int y] => some (.int (f x y))
  | _ => none
theorem fm_pair {f : Int → Int → Int} : ∀ {a b : List Int}, (zipL (iL a) (iL b)).filterMap (pairF f) = iL (List.zipWith f a b)
  | [], _ => rfl
  | _ :: _, [] => rfl
  | x :: a, y :: b => by
    show (PyData.tuple [.int x, .int y] :: zipL (iL a) (iL b)).filterMap (pairF f) = .int (f x y) :: iL (List.zipWith f a b)
    rw [List.filterMap_cons_some (show pairF f (.tuple [.int x, .int y]) = some (.int (f x y)) from rfl), fm_pair]
theorem zip_mem {x : PyData} : ∀ {a b : List Int}, x ∈ zipL (iL a) (iL b) → ∃ u v, u ∈ a ∧ v ∈ b ∧ x = .tuple [.int u, .int v]
  | [], _, h => absurd h (by simp [iL, zipL])
  | _ :: _, [], h => absurd h (by simp [iL, zipL])
  | u :: a, v :: b, h => by
    have h : x ∈ (PyData.tuple [.int u, .int v] :: zipL (iL a) (iL b)) := h
    rcases List.mem_cons.mp h with rfl | h
    · exact ⟨u, v, List.mem_cons_self .., List.mem_cons_self .., rfl⟩
    · obtain ⟨u', v', h1, h2, h3⟩ := zip_mem h
      exact ⟨u', v', List.mem_cons_of_mem _ h1, List.mem_cons_of_mem _ h2, h3⟩
theorem zip_len : ∀ {a b : List Int}, (zipL (iL a) (iL b)).length ≤ a.length
  | [], _ => Nat.le_refl _
  | _ :: _, [] => Nat.zero_le _
  | x :: a, y :: b => by
    show (zipL (iL a) (iL b)).length + 1 ≤ a.length + 1
    exact Nat.succ_le_succ zip_len
theorem co_zw {f : Int → Int → Int} : ∀ {a b : List Int} {k : Nat}, k < a.length → k < b.length → co (List.zipWith f a b) k = f (co a k) (co b k)
  | [], _, _, h, _ => absurd h (Nat.not_lt_zero _)
  | _ :: _, [], _, _, h => absurd h (Nat.not_lt_zero _)
  | x :: a, y :: b, 0, _, _ => rfl
  | x :: a, y :: b, k + 1, h, h' => co_zw (a := a) (b := b) (k := k) (Nat.lt_of_succ_lt_succ h) (Nat.lt_of_succ_lt_succ h')
theorem co_pad {l : List Int} {n k : Nat} : co (l ++ List.replicate n 0) k = co l k := by
  by_cases h : k < l.length
  · exact co_app_l h
  · rw [co_app_r (by omega), co_rep, co_ge (by omega)]
theorem zw_sum {m s : Int} {f g : List Int} : List.zipWith (fun x y => (x + s * y) % m) (f ++ List.replicate (max f.length g.length - f.length) 0) (g ++ List.replicate (max f.length g.length - g.length) 0) = (sumL s f g).map (· % m) := by
  refine ext_co ?_ fun k => ?_
  · rw [List.length_zipWith, List.length_map, sum_len, List.length_append, List.length_append, List.length_replicate, List.length_replicate]; omega
  · by_cases h : k < max f.length g.length
    · rw [co_zw (by rw [List.length_append, List.length_replicate]; omega) (by rw [List.length_append, List.length_replicate]; omega), co_pad, co_pad, co_map (Int.zero_emod m), co_sum]
    · rw [co_ge (by rw [List.length_zipWith, List.length_append, List.length_append, List.length_replicate, List.length_replicate]; omega), co_ge (by rw [List.length_map, sum_len]; omega)]
theorem trim_sum {m s : Int} {f g : List Int} : trim ((sumL s f g).map (· % m)) = cut m (sumL s f g) := rfl
/-- a place, times what stands for its power -/
theorem pF_foldC {m c : Int} {k : Nat} {D P r U : List Int} (h : EqM m U (sumL 1 D (mulL P (pF k (c :: r))))) : EqM m U (sumL 1 (cut m (sumL c D P)) (mulL (cut m (mulL P (cut m [0 - (k : Int), 1]))) (pF (k + 1) r))) := by
  refine (pF_fold h).trans (EqM.sum ?_ EqM.refl)
  refine eqM_cut.trans (EqM.trans ?_ eqM_cut.symm)
  refine (EqM.sum EqM.refl (eqM_cut.trans (EqM.mul eqM_cut EqM.refl))).trans fun i => ?_
  rw [co_sum, co_sum, mul_const_l, Int.one_mul]
/-- the bounds, as long as they are above 1 -/
def topL (m n : Nat) : List Int := (List.range n).map fun k => (topN m k : Int)
theorem topL_len {m n : Nat} : (topL m n).length = n := by unfold topL; rw [List.length_map, List.length_range]
theorem co_top {m n k : Nat} (h : k < n) : co (topL m n) k = topN m k := co_map_range h
theorem topL_succ {m n : Nat} : topL m (n + 1) = topL m n ++ [(topN m n : Int)] := by
  unfold topL; rw [List.range_succ, List.map_append]; rfl
theorem top_past {m n k : Nat} (hm : 0 < m) (hn : IsHigh m n) (h : n ≤ k) : topN m k = 1 := by
  have h1 : topN m k ≤ 1 := (topN_one hm k).mpr (Nat.dvd_trans hn.1 (fac_dvd h))
  have h2 := topN_pos hm k
  omega
/-- each place's bound, 1 beyond -/
theorem co_caps {m n j k : Nat} (hm : 0 < m) (hn : IsHigh m n) (hk : k < n + j) : co (topL m n ++ List.replicate j 1) k = topN m k := by
  by_cases h : k < n
  · rw [co_app_l (by rw [topL_len]; exact h), co_top h]
  · rw [co_app_r (by rw [topL_len]; omega), top_past hm hn (by omega), topL_len]
    unfold co
    rw [List.getElem?_replicate, if_pos (by omega)]; rfl
theorem high_ex {m : Nat} (hm : 0 < m) : ∃ n, IsHigh m n := by
  have key : ∀ t, (∃ n, IsHigh m n) ∨ ∀ j, j < t → ¬ m ∣ fac j := by
    intro t
    induction t with
    | zero => exact .inr fun j h => absurd h (Nat.not_lt_zero _)
    | succ t ih =>
      rcases ih with h | h
      · exact .inl h
      · by_cases z : m ∣ fac t
        · exact .inl ⟨t, z, h⟩
        · exact .inr fun j hj => by
            rcases Nat.lt_or_ge j t with y | y
            · exact h j y
            · have : j = t := by omega
              subst this; exact z
  rcases key (m + 1) with h | h
  · exact h
  · exact absurd (dvd_fac hm (Nat.le_refl _)) (h m (Nat.lt_succ_self _))
theorem zw_caps {m n : Nat} (hm : 0 < m) (hn : IsHigh m n) {a : List Int} : List.zipWith (fun x y => x * y) a (topL m n ++ List.replicate a.length 1) = tlL m a := by
  refine ext_co ?_ fun k => ?_
  · rw [List.length_zipWith, List.length_append, topL_len, List.length_replicate, tl_len]; omega
  · rw [co_tl]
    by_cases h : k < a.length
    · rw [co_zw h (by rw [List.length_append, topL_len, List.length_replicate]; omega), co_caps hm hn (by omega)]
    · rw [co_ge (by rw [List.length_zipWith, List.length_append, topL_len, List.length_replicate]; omega), co_ge (by omega), Int.zero_mul]
theorem map_rng {m : Int} : ∀ {L : List Int}, (∀ c ∈ L, 0 ≤ c ∧ c < m) → L.map (· % m) = L
  | [], _ => rfl
  | c :: L, h => by
    have h1 := h c (List.mem_cons_self ..)
    rw [List.map_cons, Int.emod_eq_of_lt h1.1 h1.2, map_rng fun x hx => h x (List.mem_cons_of_mem _ hx)]
theorem set_rng {m v : Int} {L : List Int} {i : Nat} (h : ∀ c ∈ L, 0 ≤ c ∧ c < m) (v0 : 0 ≤ v) (v1 : v < m) : ∀ c ∈ L.set i v, 0 ≤ c ∧ c < m := fun c hc => by
  rcases List.mem_or_eq_of_mem_set hc with z | z
  · exact h c z
  · rw [z]; exact ⟨v0, v1⟩
theorem trim_line {m : Nat} (m0 : 2 ≤ m) {k : Nat} : trim [(0 - (k : Int)) % m, 1] = cut (m : Int) [0 - (k : Int), 1] := by
  unfold cut
  rw [List.map_cons, List.map_cons, List.map_nil, show (1 : Int) % m = 1 from Int.emod_eq_of_lt (by decide) (by omega)]
theorem cut_le {m : Int} {l : List Int} {n : Nat} (h : ∀ i, n ≤ i → co l i % m = 0) : (cut m l).length ≤ n := by
  rcases Nat.lt_or_ge n (cut m l).length with z | z
  · refine absurd ?_ (co_last (trim_last _) (fun e : cut m l = [] => by rw [e] at z; exact absurd z (Nat.not_lt_zero _)))
    rw [show trim (l.map (· % m)) = cut m l from rfl, co_cut]
    exact h _ (by omega)
  · exact z
theorem cutpF_len {m : Int} {l : List Int} : (cut m (pF 0 l)).length ≤ l.length := cut_le fun i hi => by rw [co_pF hi, Int.zero_emod]
theorem first_cases {p : Nat → Bool} {n : Nat} : (∃ x, x < n ∧ p x = true ∧ firstD p n = .int (x : Nat)) ∨ ((∀ x, x < n → p x = false) ∧ firstD p n = .none) := by
  unfold firstD
  cases e : (List.range n).find? p with
  | none => exact .inr ⟨fun x hx => by have := List.find?_eq_none.mp e x (List.mem_range.mpr hx); simpa using this, rfl⟩
  | some x => exact .inl ⟨x, List.mem_range.mp (List.mem_of_find?_eq_some e), List.find?_some e, rfl⟩
theorem alike_all {m : Nat} (hm : 0 < m) {f g : List Int} (h : ∀ x : Nat, x < m → ev (x : Int) f % m = ev (x : Int) g % m) (x : Int) : ev x f % m = ev x g % m := by
  obtain ⟨n, hn⟩ := high_ex hm
  have := high_le hm hn
  exact ev_apart.mp (high_all hm hn (fun y hy => ev_apart.mpr (h y (by omega))) x)
theorem cut_nil {m : Int} {l : List Int} (h : ∀ i, co l i % m = 0) : cut m l = [] :=
  List.length_eq_zero_iff.mp (Nat.le_zero.mp (cut_le fun i _ => h i))
theorem cut_self {m : Int} {f : List Int} : cut m (sumL (-1) f f) = [] := cut_nil fun i => by
  rw [co_sum, show co f i + -1 * co f i = 0 by omega, Int.zero_emod]
theorem flt_none {l : List PyData} : l.filterMap (fltF fun _ => false) = iL [] := by
  induction l with
  | nil => rfl
  | cons x l ih =>
    rw [List.filterMap_cons_none (by cases x <;> rfl), ih]
theorem flat_iL : ∀ {l : List Int}, (iL l).all flatD = true
  | [] => rfl
  | x :: l => by rw [iL_cons, List.all_cons, flat_iL]; rfl
theorem inD_iL {y : Int} {L : List Int} (h : y ∈ L) : inD (.int y) (iL L) = true := by
  unfold inD
  refine List.any_eq_true.mpr ⟨.int y, ?_, by rw [eqv_int, decide_eq_true rfl]⟩
  exact List.mem_map_of_mem h
theorem repr_two {a b : List Int} (ha : Bd a) (hb : Bd b) (la : a.length ≤ 10000) (lb : b.length ≤ 10000) : PyData.showable (.tuple [.tuple (iL a), .tuple (iL b)]) = true ∧ (PyData.tuple [.tuple (iL a), .tuple (iL b)]).depth ≤ 64 ∧ (PyData.tuple [.tuple (iL a), .tuple (iL b)]).shown.length ≤ 16777216 := by
  refine repr_ok ?_ ?_ ?_
  · simp [small, smallA, small_iL ha, small_iL hb]
  · simp [PyData.depth, PyData.depthAll, depth_iL]
  · simp [PyData.bulk, PyData.bulkAll, bulk_iL]; omega
/-! constants of the text -/
theorem conInt {K : PySem.W.Frag} {h : Heap} {mg : Str → Option Value} {x : String} {i : Int} {t : Tok} (X : K.In h) (G : h.Ns mainGlobals mg) (a : PySem.W.nsIn K mainGlobals (Str.ofString x) = some (some (.int i t))) : ∃ u, mg (nm x) = some u ∧ RelC K (.int i) u := ⟨_, PySem.W.mg_of X G a, .int i t⟩
theorem conStr {K : PySem.W.Frag} {h : Heap} {mg : Str → Option Value} {x : String} {i : Str} {t : Tok} (X : K.In h) (G : h.Ns mainGlobals mg) (a : PySem.W.nsIn K mainGlobals (Str.ofString x) = some (some (.str i t))) : ∃ u, mg (nm x) = some u ∧ RelC K (.str i) u := ⟨_, PySem.W.mg_of X G a, .str i t⟩
abbrev relK {K : PySem.W.Frag} {h : Heap} (_ : K.In h) (c : PyData) (u : Value) : Prop := RelC K c u
theorem relTup {K : PySem.W.Frag} {a : Addr} {dd : Option Addr} {its : Array Value} {n : Nat} {sl : Array (Option Value)} {ds : List PyData} (g : gnd = true) (l : K.lookup a = some ⟨.type "tuple", dd, .seq its n, sl⟩) (z : decide (its.size ≤ 1000) = true) (q : RelCs K ds its.toList) : RelC K (.tuple ds) (.ref a) := .tup g l (by have := of_decide_eq_true z; rw [sizeLine_eq]; omega) q
theorem conTup {K : PySem.W.Frag} {h : Heap} {mg : Str → Option Value} {x : String} {a : Addr} {dd : Option Addr} {its : Array Value} {n : Nat} {sl : Array (Option Value)} {ds : List PyData} (X : K.In h) (G : h.Ns mainGlobals mg) (g : gnd = true) (e : PySem.W.nsIn K mainGlobals (Str.ofString x) = some (some (.ref a))) (l : K.lookup a = some ⟨.type "tuple", dd, .seq its n, sl⟩) (z : decide (its.size ≤ 1000) = true) (q : RelCs K ds its.toList) : ∃ u, mg (nm x) = some u ∧ RelC K (.tuple ds) u := ⟨_, PySem.W.mg_of X G e, relTup g l z q⟩
/-! classes of refusals, as they stand in the written part -/
def FldsOk (K : PySem.W.Frag) (C : Addr) : List String → Prop
  | [] => True
  | f :: r => PySem.W.findIn K (.ref C) (Str.ofString f) = some none ∧ FldsOk K C r
theorem FldsOk.at_ {K : PySem.W.Frag} {C : Addr} : ∀ {fs : List String}, FldsOk K C fs → ∀ f ∈ fs.map nm, PySem.W.findIn K (.ref C) f = some none
  | [], _, f, h => absurd h (by simp)
  | g :: fs, q, f, h => by
    rw [List.map_cons] at h
    rcases List.mem_cons.mp h with rfl | h
    · exact q.1
    · exact FldsOk.at_ q.2 f h
section
open PySem PySem.Spec PyProof.Rows L2
theorem withExc {K : PySem.W.Frag} {h : Heap} {mg : Str → Option Value} {x qual : String} {fs : List String} {st : Stmt} {C B fI : Addr} {nm' q : Str} {N : Addr} {bs bm : List Value} {sn : List Str} {sub ab col dd k0 k1 k2 k3 k5 : _} {oc kV dc pm cd ct : Value} {od an : Option Addr} {sl : Array (Option Value)} {R : Prop} (X : K.In h) (G : h.Ns mainGlobals mg)
    (a : PySem.W.nsIn K mainGlobals (Str.ofString x) = some (some (.ref C)))
    (l : K.lookup C = some (excClassObj nm' q C N bs bm true sn sub ab col dd k0 k1 k2 k3 k5 "ValueError.__new__"))
    (rv : PySem.HandSPX.refsVE bm = true)
    (sa : PySem.W.findIn K (.ref C) "__setattr__" = some (some (.builtin "object.__setattr__"))) (eC : PySem.W.subIn K (.ref C) (.type "BaseException") = some true) (tC : PySem.W.typeIn K (.ref C) = some (.type "type")) (kC : PySem.W.keepIn K (.ref C) = true)
    (iC : PySem.W.findIn K (.ref C) "__init__" = some (some (.ref fI))) (tI : PySem.W.typeIn K (.ref fI) = some (.type "function"))
    (fl : K.lookup fI = some ⟨oc, od, .func (PySem.W.fnOf "__init__" (Str.ofString qual) (defArgs st) (defBody st) (defScope st) .none kV dc pm an cd ct), sl⟩) (fc : PySem.W.codeIn K cd (Str.ofString qual) = true) (fk : PySem.W.keepIn K (.ref fI) = true)
    (b : PySem.W.nsIn K mainGlobals (Str.ofString "RestError") = some (some (.ref B))) (ga : PySem.W.specialIn K (.ref B) "__getattribute__" = some (some (.builtin "type.__getattribute__"))) (rd : PySem.W.readsIn K B (.type "type") = true)
    (vV : PySem.W.findCls K (.ref B) (.type "type") "__init__" = some (.val (.builtin "ValueError.__init__")))
    (hf : FldsOk K C fs) (ne : fs ≠ []) (hn : fs.length ≤ 800) (ki : kIni ⟨nm "self" :: fs.map nm, defScope st, true, [], [], [], [], [], [], []⟩ (fs.map nm) (defBody st) = true) (S : FnScope (nm "self" :: fs.map nm) (nm "self" :: fs.map nm) (defScope st))
    (bi : ∀ (kV doc pm : Value) (an : Option Addr) (cdv ct : Value) (us : List Value), us.length = (nm "self" :: fs.map nm).length → bindArgs (PySem.W.fnOf "__init__" (Str.ofString qual) (defArgs st) (defBody st) (defScope st) .none kV doc pm an cdv ct) ⟨us, []⟩ = pure ((nm "self" :: fs.map nm).zip us))
    (r : ExD K mg x fs → R) : R :=
  r ⟨C, B, fI, _, _, st, PySem.W.mg_of X G a, ⟨⟨_, _, _, _, _, _, _, _, _, _, _, _, _, _, _, l, rv⟩, sa, eC, tC, kC⟩, hf.at_, iC, tI, fun_mk fl fc fk, PySem.W.mg_of X G b, ga, rd, vV, ne, hn, ki, S, bi⟩
theorem withExm {K : PySem.W.Frag} {h : Heap} {mg : Str → Option Value} {x y : String} {b : Bool} {A1 A2 : Addr} {R : Prop} (X : K.In h) (G : h.Ns mainGlobals mg)
    (a1 : PySem.W.nsIn K mainGlobals (Str.ofString x) = some (some (.ref A1))) (a2 : PySem.W.nsIn K mainGlobals (Str.ofString y) = some (some (.ref A2)))
    (h1 : PySem.W.subIn K (.ref A2) (.type "BaseException") = some true) (h2 : PySem.W.hasDictIn K A2 = true) (h3 : PySem.W.typeIn K (.ref A2) = some (.type "type")) (h4 : PySem.W.subIn K (.ref A1) (.ref A2) = some b) (r : ExmOk K mg (x, y, b) → R) : R :=
  r ⟨A1, A2, PySem.W.mg_of X G a1, PySem.W.mg_of X G a2, PySem.W.exm_ref h1 h2 h3 h4⟩
theorem withIso {K : PySem.W.Frag} {h : Heap} {mg : Str → Option Value} {x y : String} {b : Bool} {A1 A2 : Addr} {R : Prop} (X : K.In h) (G : h.Ns mainGlobals mg)
    (a1 : PySem.W.nsIn K mainGlobals (Str.ofString x) = some (some (.ref A1))) (a2 : PySem.W.nsIn K mainGlobals (Str.ofString y) = some (some (.ref A2)))
    (h2 : PySem.W.hasDictIn K A2 = true) (h3 : PySem.W.typeIn K (.ref A2) = some (.type "type")) (h4 : PySem.W.subIn K (.ref A1) (.ref A2) = some b) (ne : (Value.ref A1 == Value.ref A2) = false) (r : IsoOk K mg (x, y, b) → R) : R :=
  r ⟨A1, PySem.W.mg_of X G a1, .inr ⟨A2, PySem.W.mg_of X G a2, by
    obtain ⟨cd, hc, _⟩ := PySem.W.any_some h2
    have e2 : ((PySem.W.clsIn K A2).isSome && PySem.W.typeIn K (.ref A2) == some (.type "type")) = true := by rw [hc, h3] <;> rfl
    show (if (Value.ref A1 == Value.ref A2) = true then some true else if ((PySem.W.clsIn K A2).isSome && PySem.W.typeIn K (.ref A2) == some (.type "type")) = true then PySem.W.subIn K (.ref A1) (.ref A2) else none) = some b
    rw [ne, if_neg Bool.false_ne_true, if_pos e2]
    exact h4⟩⟩
theorem withIsoS {K : PySem.W.Frag} {h : Heap} {mg : Str → Option Value} {x : String} {A1 : Addr} {R : Prop} (X : K.In h) (G : h.Ns mainGlobals mg)
    (a1 : PySem.W.nsIn K mainGlobals (Str.ofString x) = some (some (.ref A1))) (r : IsoOk K mg (x, x, true) → R) : R :=
  r ⟨A1, PySem.W.mg_of X G a1, .inr ⟨A1, PySem.W.mg_of X G a1, by
    unfold PySem.W.kitOne
    rw [if_pos (beq_self_eq_true _)]⟩⟩
theorem withIsoV {K : PySem.W.Frag} {h : Heap} {mg : Str → Option Value} {x : String} {A1 : Addr} {R : Prop} (X : K.In h) (G : h.Ns mainGlobals mg)
    (a1 : PySem.W.nsIn K mainGlobals (Str.ofString x) = some (some (.ref A1))) (h4 : PySem.W.subIn K (.ref A1) (.type "ValueError") = some true) (r : IsoOk K mg (x, "ValueError", true) → R) : R :=
  r ⟨A1, PySem.W.mg_of X G a1, .inl ⟨rfl, by
    have hm : PySem.W.kitMeta "ValueError" = true := by decide +kernel
    have hn : (Value.ref A1 == Value.type "ValueError") = false := Bool.eq_false_iff.mpr fun q => nomatch (beq_iff_eq.mp q)
    show (if (Value.ref A1 == Value.type "ValueError") = true then some true else if PySem.W.kitMeta "ValueError" = true then PySem.W.subIn K (.ref A1) (.type "ValueError") else none) = some true
    rw [hn, if_neg Bool.false_ne_true, if_pos hm]
    exact h4⟩⟩
theorem withExf {K : PySem.W.Frag} {h : Heap} {mg : Str → Option Value} {x : String} {fs : List String} {A : Addr} {R : Prop} (X : K.In h) (G : h.Ns mainGlobals mg)
    (a : PySem.W.nsIn K mainGlobals (Str.ofString x) = some (some (.ref A)))
    (hg : PySem.W.findIn K (.ref A) "__getattribute__" = some (some (.builtin "BaseException.__getattribute__"))) (hk : PySem.W.findIn K (.ref A) "__getattr__" = some none) (hs : PySem.W.subIn K (.ref A) (.type "BaseException") = some true)
    (hd : PySem.W.hasDictIn K A = true) (ha : PySem.W.findIn K (.ref A) "__class__" = some (some (.builtin "object.__class__"))) (hn : PySem.W.specialIn K (.builtin "object.__class__") "__get__" = some (some (.builtin "getset_descriptor.__get__")))
    (ht : PySem.W.takesIn K (.builtin "object.__class__") = some true) (hm : PySem.W.mroIn K A (.type "object") = some true) (hf : FldsOk K A fs) (r : ExfOk K mg (x, fs) → R) : R :=
  r ⟨A, PySem.W.mg_of X G a, ⟨hg, hk, hs, hd, ha, hn, ht, hm⟩, fun f hf2 => FldsOk.at_ hf (nm f) (List.mem_map_of_mem hf2)⟩
end
theorem wRaise_of {C : String} {fs : List String} {vs : List MV} {ds : List PyData} {e : MEnv} {h : MH} {E : MExc → MEnv → MH → Prop} (a : allD vs = some ds) (b : ds.length = fs.length) (c : fs.length ≤ 1000) (q : E ⟨C, (fs.zip ds).reverse⟩ e h) : wRaise C fs vs e h E := by
  unfold wRaise; rw [a]; exact ⟨⟨b, c⟩, q⟩
theorem wCat_at {all : Bool} {C c : String} {fl : List (String × PyData)} {cs : List String} {hd : MHd} {E : MExc → MEnv → MH → Prop} {D : MD} {e : MEnv} {h : MH} (a : cs.contains c = true) (b : (all || c == C) = true) (q : wHd hd ⟨c, fl⟩ e h D) : wCat all C cs hd E D ⟨c, fl⟩ e h :=
  ⟨a, by rw [if_pos b]; exact q⟩
theorem wHd_named {j : Nat} {b : MHs} {x : MExc} {e : MEnv} {h : MH} {D : MD} : wHd (.named j b) x e h D = (j < e.length ∧ wHs x b (e.set j none) fun e1 => D.nx (e1.set j none) h) := rfl
theorem wHs_nil {x : MExc} {e : MEnv} {K : MEnv → Prop} : wHs x .nil e K = K e := Eq.trans rfl rfl
theorem wHs_set {x : MExc} {i : Nat} {v : MHv} {r : MHs} {e : MEnv} {K : MEnv → Prop} {d : PyData} (h : hvV x v = some d) (q : wHs x r (e.set i (some (.d d))) K) : wHs x (.set i v r) e K := by unfold wHs; rw [h]; exact q
theorem wHs_t {x : MExc} {c : MHc} {b r : MHs} {e : MEnv} {K : MEnv → Prop} (h : hcV x c = true) (q : wHs x b e fun e1 => wHs x r e1 K) : wHs x (.iff c b r) e K := by unfold wHs; rw [if_pos h]; exact q
theorem wHs_f {x : MExc} {c : MHc} {b r : MHs} {e : MEnv} {K : MEnv → Prop} (h : hcV x c = false) (q : wHs x r e K) : wHs x (.iff c b r) e K := by unfold wHs; rw [if_neg (by rw [h]; exact Bool.false_ne_true)]; exact q
theorem wHd_set {i : Nat} {c : PyData} {x : MExc} {e : MEnv} {h : MH} {D : MD} : wHd (.set i c) x e h D = D.nx (e.set i (some (.d c))) h := rfl
theorem caps_rng {m n j : Nat} (hm : 0 < m) (hn : IsHigh m n) : ∀ v ∈ topL m n ++ List.replicate j 1, 1 ≤ v ∧ v ≤ (m : Int) := fun v hv => by
  rcases List.mem_append.mp hv with z | z
  · unfold topL at z
    obtain ⟨k, _, rfl⟩ := List.mem_map.mp z
    have h1 := topN_pos hm k
    have h2 := topN_le (m := m) k
    omega
  · rw [List.eq_of_mem_replicate z]; omega
theorem zw_pay {m n : Nat} (hm : 0 < m) (hn : IsHigh m n) {a : List Int} : List.zipWith (fun x y => x / y) a (topL m n ++ List.replicate a.length 1) = payL m a := by
  refine ext_co ?_ fun k => ?_
  · rw [List.length_zipWith, List.length_append, topL_len, List.length_replicate, pay_len]; omega
  · rw [co_pay]
    by_cases h : k < a.length
    · rw [co_zw h (by rw [List.length_append, topL_len, List.length_replicate]; omega), co_caps hm hn (by omega)]
    · rw [co_ge (by rw [List.length_zipWith, List.length_append, topL_len, List.length_replicate]; omega), co_ge (by omega), Int.zero_ediv]
theorem cutD_sb {a : List Int} {lo hi : Option Int} : ∃ u, cutD (iL a) lo hi = iL u ∧ (∀ c ∈ u, c ∈ a) ∧ u.length ≤ a.length := by
  refine ⟨cutD a lo hi, cutD_iL, fun c hc => ?_, cutD_len⟩
  unfold cutD at hc
  exact List.mem_of_mem_drop (List.mem_of_mem_take hc)
end Mini
end
section
set_option Elab.async false
set_option linter.all false
set_option maxRecDepth 100000
/-! the degree of a least form; differences of falls. -/
namespace Mini
open PySem

theorem dif_shift {F : Nat → Int} : ∀ {n j : Nat}, dif (n + 1) F j = dif n (fun i => F (i + 1) - F i) j
  | 0, j => rfl
  | n + 1, j => by
    show dif (n + 1) F (j + 1) - dif (n + 1) F j = dif n (fun i => F (i + 1) - F i) (j + 1) - dif n (fun i => F (i + 1) - F i) j
    rw [dif_shift, dif_shift]
theorem dif_smul {s : Int} {F : Nat → Int} : ∀ {n j : Nat}, dif n (fun i => s * F i) j = s * dif n F j
  | 0, j => rfl
  | n + 1, j => by
    show dif n (fun i => s * F i) (j + 1) - dif n (fun i => s * F i) j = s * (dif n F (j + 1) - dif n F j)
    rw [dif_smul, dif_smul, Int.mul_sub]
theorem dif_add {F G : Nat → Int} : ∀ {n j : Nat}, dif n (fun i => F i + G i) j = dif n F j + dif n G j
  | 0, j => rfl
  | n + 1, j => by
    show dif n (fun i => F i + G i) (j + 1) - dif n (fun i => F i + G i) j = dif n F (j + 1) - dif n F j + (dif n G (j + 1) - dif n G j)
    rw [dif_add, dif_add]; omega
theorem dif_zero : ∀ {n j : Nat}, dif n (fun _ => 0) j = 0
  | 0, j => rfl
  | n + 1, j => by
    show dif n (fun _ => 0) (j + 1) - dif n (fun _ => 0) j = 0
    rw [dif_zero, dif_zero]; rfl
theorem dif_ff : ∀ {n k : Nat}, dif n (fun i => ff (i : Int) k) 0 = if n = k then (fac k : Int) else 0
  | 0, 0 => rfl
  | 0, k + 1 => by
    show ff ((0 : Nat) : Int) (k + 1) = _
    rw [ff_big (Nat.succ_pos k), if_neg (by omega)]
  | n + 1, 0 => by
    rw [dif_shift, if_neg (by omega)]
    show dif n (fun i => (1 : Int) - 1) 0 = 0
    exact dif_zero
  | n + 1, k + 1 => by
    rw [dif_shift]
    have e : (fun i : Nat => ff ((i + 1 : Nat) : Int) (k + 1) - ff (i : Int) (k + 1)) = fun i : Nat => ((k : Int) + 1) * ff (i : Int) k := by
      funext i
      have := ff_step (x := (i : Int)) (k := k)
      rw [show ((i + 1 : Nat) : Int) = (i : Int) + 1 from rfl, this]; omega
    rw [e, dif_smul, dif_ff]
    by_cases h : n = k
    · subst h
      rw [if_pos rfl, if_pos rfl, Int.mul_comm]; rfl
    · rw [if_neg h, if_neg (by omega), Int.mul_zero]
theorem dif_sumTo {H : Nat → Nat → Int} {n : Nat} : ∀ {L : Nat}, dif n (fun i => sumTo L fun k => H k i) 0 = sumTo L fun k => dif n (H k) 0
  | 0 => dif_zero
  | L + 1 => by
    show dif n (fun i => sumTo L (fun k => H k i) + H L i) 0 = sumTo L (fun k => dif n (H k) 0) + dif n (H L) 0
    rw [dif_add, dif_sumTo]
theorem sumTo_one {n : Nat} {F : Nat → Int} : ∀ {L : Nat}, sumTo L (fun k => if n = k then F k else 0) = if n < L then F n else 0
  | 0 => rfl
  | L + 1 => by
    show sumTo L (fun k => if n = k then F k else 0) + (if n = L then F L else 0) = _
    rw [sumTo_one]
    by_cases h : n = L
    · subst h; rw [if_pos rfl, if_neg (by omega), if_pos (by omega), Int.zero_add]
    · rw [if_neg h, Int.add_zero]
      by_cases h2 : n < L
      · rw [if_pos h2, if_pos (by omega)]
      · rw [if_neg h2, if_neg (by omega)]
theorem dif_fv {n : Nat} {c : List Int} : dif n (fun i => fv (i : Int) c) 0 = co c n * fac n := by
  have e : (fun i : Nat => fv (i : Int) c) = fun i : Nat => sumTo c.length fun k => co c k * ff (i : Int) k := rfl
  rw [e, dif_sumTo]
  rw [sumTo_congr (G := fun k => if n = k then co c k * (fac k : Int) else 0) fun k _ => by
    rw [dif_smul, dif_ff]
    by_cases h : n = k
    · rw [if_pos h, if_pos h]
    · rw [if_neg h, if_neg h, Int.mul_zero]]
  rw [sumTo_one]
  by_cases h : n < c.length
  · rw [if_pos h]
  · rw [if_neg h, co_ge (by omega), Int.zero_mul]
theorem dif_mod {m : Int} {F G : Nat → Int} (h : ∀ i, F i % m = G i % m) : ∀ {n j : Nat}, dif n F j % m = dif n G j % m
  | 0, j => h j
  | n + 1, j => by
    show (dif n F (j + 1) - dif n F j) % m = (dif n G (j + 1) - dif n G j) % m
    rw [Int.sub_emod, dif_mod h, dif_mod h (j := j), ← Int.sub_emod]
/-- the least form -/
def leastL (m : Nat) (f : List Int) : List Int := cut (m : Int) (pF 0 (cutF m (nbN m f.length 0 f)))
theorem pF_lead : ∀ {l : List Int} {k : Nat} {d : Int}, co (pF k (l ++ [d])) l.length = d
  | [], k, d => by
    show co (sumL 1 [d] (mulL [-(k : Int), 1] [])) 0 = d
    rw [co_sum, mul_nil_r]
    show d + 1 * 0 = d
    omega
  | x :: l, k, d => by
    show co (sumL 1 [x] (mulL [-(k : Int), 1] (pF (k + 1) (l ++ [d])))) (l.length + 1) = d
    rw [co_sum, co_line, co_const, if_neg (by omega), sh_succ, pF_lead, co_pF (by simp)]
    omega
theorem cutpF_full {m : Nat} {c : List Int} (hm : 0 < m) (hc : IsFalls m c) : (cut (m : Int) (pF 0 c)).length = c.length := by
  refine Nat.le_antisymm cutpF_len ?_
  by_cases e : c = []
  · subst e; exact Nat.zero_le _
  · obtain ⟨l, d, rfl⟩ := snoc_of e
    rw [List.length_append, List.length_singleton]
    refine Nat.succ_le_of_lt ?_
    refine Classical.byContradiction fun h => ?_
    have h1 : co (cut (m : Int) (pF 0 (l ++ [d]))) l.length = 0 := co_ge (by omega)
    rw [co_cut, pF_lead] at h1
    have hd : co (l ++ [d]) l.length = d := by rw [co_app_r (Nat.le_refl _), Nat.sub_self]; rfl
    have h2 := hc.lo l.length
    have h3 := hc.hi l.length
    have h4 := topN_le (m := m) l.length
    rw [hd] at h2 h3
    rw [Int.emod_eq_of_lt h2 (by omega)] at h1
    exact hc.last (by rw [h1]; simp)
/-- the difference at the degree is no nought -/
theorem deg_dif {m : Nat} {f c : List Int} (hm : 0 < m) (hc : IsFalls m c) (hv : ∀ x : Int, fv x c % m = ev x f % m) (e : c ≠ []) : dif (c.length - 1) (fun i => ev (i : Int) f % m) 0 % m ≠ 0 := by
  intro z
  have h1 : dif (c.length - 1) (fun i : Nat => ev (i : Int) f % m) 0 % m = (co c (c.length - 1) * fac (c.length - 1)) % m := by
    rw [← dif_fv]
    exact dif_mod fun i => by rw [Int.emod_emod, hv]
  rw [h1] at z
  have h2 := small_dvd (top_of hm (Int.dvd_of_emod_eq_zero z)) (by have := hc.lo (c.length - 1); have := topN_pos hm (c.length - 1); omega) (hc.hi _)
  exact co_last hc.last e h2
theorem trim_pF {m : Int} {l : List Int} : cut m (pF 0 (trim l)) = cut m (pF 0 l) := EqM.cut (pF_ext fun i => by rw [co_trim])
/-- places by their bounds, as many as there are bounds above 1 -/
theorem zw_low {m n : Nat} (hm : 0 < m) (hn : IsHigh m n) {a : List Int} : cut (m : Int) (pF 0 (List.zipWith (fun x y => x % y) (a.take n) (topL m n))) = cut (m : Int) (pF 0 (cutF m a)) := by
  refine EqM.cut (pF_ext fun k => ?_)
  rw [co_cutF]
  have ht : ∀ k, k < n → co (a.take n) k = co a k := fun k hk => by
    unfold co; rw [List.getElem?_take, if_pos hk]
  by_cases h : k < min a.length n
  · rw [co_zw (by rw [List.length_take]; omega) (by rw [topL_len]; omega), ht k (by omega), co_top (by omega)]
  · rw [co_ge (by rw [List.length_zipWith, List.length_take, topL_len]; omega)]
    by_cases h2 : k < n
    · rw [co_ge (l := a) (by omega), Int.zero_emod, Int.zero_emod, Int.zero_emod]
    · rw [top_past hm hn (by omega), show ((1 : Nat) : Int) = 1 from rfl, Int.emod_one]
end Mini
end
section
set_option Elab.async false
set_option linter.all false
set_option maxRecDepth 100000
set_option maxHeartbeats 2000000
/-! Mini: small helps. -/
namespace Mini
open PySem
theorem wX_join {T : List MF} {k : Nat} {E : ME} {a b : MX} {e : MEnv} {h : MH} {c : Bool} {Q : MQ} (R : MQ) (ra : wX (wF T k) E a e h R) (rb : wX (wF T k) E b e h R) (q : ∀ v h, R v h → Q v h) : if c = true then wX (wF T k) E a e h Q else wX (wF T k) E b e h Q := by
  cases c
  · rw [if_neg Bool.false_ne_true]; exact wX_mono (wF_mono T k) (fun _ _ z => z) b _ _ q rb
  · rw [if_pos rfl]; exact wX_mono (wF_mono T k) (fun _ _ z => z) a _ _ q ra
theorem get_newL {h : MH} {n : Nat} {x : MCell} (e : n = h.length) : (h ++ [x])[n]? = some x := by subst e; exact get_new
theorem set_newL {h : MH} {n : Nat} {x y : MCell} (e : n = h.length) : (h ++ [x]).set n y = h ++ [y] := by subst e; exact set_new
theorem take_setapp {h g : MH} {i : Nat} {y : MCell} : (h.set i y ++ g).take h.length = h.set i y := List.take_left' (by simp)
theorem bne_ff : (false != false) = false := Eq.trans rfl rfl
theorem bne_ft : (false != true) = true := Eq.trans rfl rfl
theorem bne_tf : (true != false) = true := Eq.trans rfl rfl
theorem bne_tt : (true != true) = false := Eq.trans rfl rfl
theorem bne_fb {b : Bool} : (false != b) = b := by cases b <;> rfl
theorem bne_tb {b : Bool} : (true != b) = !b := by cases b <;> rfl
theorem if_yes {p : Prop} [Decidable p] {A B : Prop} (h : p) (q : A) : if decide p = true then A else B := by rw [decide_eq_true h, if_pos rfl]; exact q
theorem if_no {p : Prop} [Decidable p] {A B : Prop} (h : ¬ p) (q : B) : if decide p = true then A else B := by rw [decide_eq_false h, if_neg Bool.false_ne_true]; exact q
theorem ifn_yes {p : Prop} [Decidable p] {A B : Prop} (h : ¬ p) (q : A) : if (!decide p) = true then A else B := by rw [decide_eq_false h]; exact q
theorem ifn_no {p : Prop} [Decidable p] {A B : Prop} (h : p) (q : B) : if (!decide p) = true then A else B := by rw [decide_eq_true h]; exact q
theorem ite_decN {p : Prop} [Decidable p] {A B : Prop} (a : ¬ p → A) (b : p → B) : if (!decide p) = true then A else B := by
  by_cases h : p
  · exact ifn_no h (b h)
  · exact ifn_yes h (a h)
theorem ite_mem {A B : Prop} {b : Bool} (a : b = true → A) (c : b = false → B) : if b = true then A else B := ite_bool a c
theorem isEmpty_iL {l : List Int} : (iL l).isEmpty = l.isEmpty := by cases l <;> rfl
theorem isEmpty_dec {α : Type} [DecidableEq α] {l : List α} : l.isEmpty = decide (l = []) := by cases l <;> simp
theorem eqv_nilI {l : List Int} : PyData.eqv (.tuple (iL l)) (.tuple []) = decide (l = []) := eqv_tup (b := [])
theorem eqv_nilL {l : List Int} : PyData.eqv (.list (iL l)) (.list []) = decide (l = []) := eqv_lis (b := [])
theorem sh_nil : SeqAt.shaped (.tuple []) = true := sh_tup (l := [])
theorem sh_nill : SeqAt.shaped (.list []) = true := sh_lis (l := [])
theorem get2 {h : MH} {a b : MCell} : (h ++ [a] ++ [b])[h.length]? = some a := get_old get_new
theorem get3 {h : MH} {a b c : MCell} : (h ++ [a] ++ [b] ++ [c])[h.length]? = some a := get_old (get_old get_new)
theorem set2 {h : MH} {a b y : MCell} : (h ++ [a] ++ [b]).set h.length y = h ++ [y] ++ [b] := by rw [set_old get_new, set_new]
theorem set3 {h : MH} {a b c y : MCell} : (h ++ [a] ++ [b] ++ [c]).set h.length y = h ++ [y] ++ [b] ++ [c] := by rw [set_old get2, set2]
theorem take_app2 {h : MH} {a b : MCell} : (h ++ [a] ++ [b]).take h.length = h := by rw [List.append_assoc, take_app]
theorem take_app3 {h : MH} {a b c : MCell} : (h ++ [a] ++ [b] ++ [c]).take h.length = h := by rw [List.append_assoc, List.append_assoc, take_app]
theorem b2i_nn {b : Bool} : 0 ≤ b2i b := by cases b <;> decide
theorem b2i_le {b : Bool} : b2i b ≤ 1 := by cases b <;> decide
theorem rep_b2i {b : Bool} {x : PyData} : rep (b2i b) [x] = if b then [x] else [] := by cases b <;> rfl
theorem trE_t {n : Nat} {K : MEnv → MH → Prop} {e : MEnv} {h : MH} (q : K (cutE n e) (h.take n)) : trE true n K e h := by
  unfold trE
  rw [if_pos rfl]
  exact q
theorem len1 {h : MH} {a : MCell} : (h ++ [a]).length = h.length + 1 := by simp
theorem take_s1 {h : MH} {a b : MCell} : (h ++ [a] ++ [b]).take (h.length + 1) = h ++ [a] := by rw [← len1 (a := a), take_app]
theorem take_s2 {h : MH} {a b c : MCell} : (h ++ [a] ++ [b] ++ [c]).take (h.length + 1) = h ++ [a] := by rw [← len1 (a := a), take_app2]
theorem get4 {h : MH} {a b c d : MCell} : (h ++ [a] ++ [b] ++ [c] ++ [d])[h.length]? = some a := get_old get3
theorem get5 {h : MH} {a b c d e : MCell} : (h ++ [a] ++ [b] ++ [c] ++ [d] ++ [e])[h.length]? = some a := get_old get4
theorem get6 {h : MH} {a b c d e f : MCell} : (h ++ [a] ++ [b] ++ [c] ++ [d] ++ [e] ++ [f])[h.length]? = some a := get_old get5
theorem set4 {h : MH} {a b c d y : MCell} : (h ++ [a] ++ [b] ++ [c] ++ [d]).set h.length y = h ++ [y] ++ [b] ++ [c] ++ [d] := by rw [set_old get3, set3]
theorem set5 {h : MH} {a b c d e y : MCell} : (h ++ [a] ++ [b] ++ [c] ++ [d] ++ [e]).set h.length y = h ++ [y] ++ [b] ++ [c] ++ [d] ++ [e] := by rw [set_old get4, set4]
theorem set6 {h : MH} {a b c d e f y : MCell} : (h ++ [a] ++ [b] ++ [c] ++ [d] ++ [e] ++ [f]).set h.length y = h ++ [y] ++ [b] ++ [c] ++ [d] ++ [e] ++ [f] := by rw [set_old get5, set5]
theorem take_app4 {h : MH} {a b c d : MCell} : (h ++ [a] ++ [b] ++ [c] ++ [d]).take h.length = h := by simp only [List.append_assoc, take_app]
theorem take_app5 {h : MH} {a b c d e : MCell} : (h ++ [a] ++ [b] ++ [c] ++ [d] ++ [e]).take h.length = h := by simp only [List.append_assoc, take_app]
theorem take_app6 {h : MH} {a b c d e f : MCell} : (h ++ [a] ++ [b] ++ [c] ++ [d] ++ [e] ++ [f]).take h.length = h := by simp only [List.append_assoc, take_app]
theorem take_s3 {h : MH} {a b c d : MCell} : (h ++ [a] ++ [b] ++ [c] ++ [d]).take (h.length + 1) = h ++ [a] := by rw [← len1 (a := a), take_app3]
theorem take_s4 {h : MH} {a b c d e : MCell} : (h ++ [a] ++ [b] ++ [c] ++ [d] ++ [e]).take (h.length + 1) = h ++ [a] := by rw [← len1 (a := a), take_app4]
theorem take_s5 {h : MH} {a b c d e f : MCell} : (h ++ [a] ++ [b] ++ [c] ++ [d] ++ [e] ++ [f]).take (h.length + 1) = h ++ [a] := by rw [← len1 (a := a), take_app5]
theorem take_s0 {h : MH} {a : MCell} : (h ++ [a]).take (h.length + 1) = h ++ [a] := by rw [← len1 (a := a), take_all]
theorem get_c {h g : MH} {a : MCell} : (h ++ a :: g)[h.length]? = some a := by simp
theorem set_c {h g : MH} {a y : MCell} : (h ++ a :: g).set h.length y = h ++ y :: g := by rw [List.set_append_right _ _ (Nat.le_refl _), Nat.sub_self]; rfl
theorem getL {h g : MH} {j : Nat} {v : MCell} (e : g[j]? = some v) : (h ++ g)[h.length + j]? = some v := by rw [List.getElem?_append_right (by omega), show h.length + j - h.length = j by omega]; exact e
theorem setL {h g : MH} {j : Nat} {y : MCell} : (h ++ g).set (h.length + j) y = h ++ g.set j y := by rw [List.set_append_right _ _ (by omega), show h.length + j - h.length = j by omega]
theorem len_c1 {h : MH} {a : MCell} : (h ++ [a]).length = h.length + 1 := by simp
theorem len_c2 {h : MH} {a b : MCell} : (h ++ [a, b]).length = h.length + 2 := by simp
theorem len_c3 {h : MH} {a b c : MCell} : (h ++ [a, b, c]).length = h.length + 3 := by simp
theorem len_c4 {h : MH} {a b c d : MCell} : (h ++ [a, b, c, d]).length = h.length + 4 := by simp
theorem len_c5 {h : MH} {a b c d e : MCell} : (h ++ [a, b, c, d, e]).length = h.length + 5 := by simp
theorem len_c6 {h : MH} {a b c d e f : MCell} : (h ++ [a, b, c, d, e, f]).length = h.length + 6 := by simp
theorem take_c1 {h g : MH} {a : MCell} : (h ++ a :: g).take (h.length + 1) = h ++ [a] := by rw [show h ++ a :: g = h ++ [a] ++ g by simp, ← len_c1 (a := a), take_app]
end Mini
end
section
set_option Elab.async false
set_option linter.all false
set_option maxRecDepth 100000
set_option maxHeartbeats 2000000
set_option exponentiation.threshold 3000
/-! Mini: things that are judged: depth, bulk, whole numbers; words that are due. -/
namespace Mini
open PySem
mutual
def leI (c : Nat) : PyData → Bool
  | .none | .bool _ | .str _ => true
  | .int i => decide (i.natAbs ≤ c)
  | .list xs | .tuple xs => leIA c xs
  | .dict _ => false
def leIA (c : Nat) : List PyData → Bool
  | [] => true
  | x :: xs => leI c x && leIA c xs
end
theorem leIA_all {c : Nat} : ∀ {xs : List PyData}, leIA c xs = xs.all (leI c)
  | [] => rfl
  | x :: xs => by show (leI c x && leIA c xs) = _; rw [leIA_all]; rfl
mutual
theorem leI_mono {c c' : Nat} (h : c ≤ c') : ∀ t : PyData, leI c t = true → leI c' t = true
  | .none, _ | .bool _, _ | .str _, _ => rfl
  | .int i, z => decide_eq_true (Nat.le_trans (of_decide_eq_true z) h)
  | .list xs, z => leIA_mono h xs z
  | .tuple xs, z => leIA_mono h xs z
  | .dict _, z => z
theorem leIA_mono {c c' : Nat} (h : c ≤ c') : ∀ xs : List PyData, leIA c xs = true → leIA c' xs = true
  | [], _ => rfl
  | x :: xs, z => by
    have z' : (leI c x && leIA c xs) = true := z
    rw [Bool.and_eq_true] at z'
    show (leI c' x && leIA c' xs) = true
    rw [leI_mono h x z'.1, leIA_mono h xs z'.2]; rfl
end
/-- a thing of some depth, bulk and whole numbers -/
structure Th (d b c : Nat) (t : PyData) : Prop where
  g : Gd d b t
  i : leI c t = true
structure ThA (d b c : Nat) (xs : List PyData) : Prop where
  g : GA d b xs
  i : ∀ x ∈ xs, leI c x = true
theorem Th.mono {d b c d' b' c' : Nat} {t : PyData} (h : Th d b c t) (hd : d ≤ d') (hb : b ≤ b') (hc : c ≤ c') : Th d' b' c' t := ⟨h.g.mono hd hb, leI_mono hc t h.i⟩
theorem ThA.mono {d b c d' b' c' : Nat} {t : List PyData} (h : ThA d b c t) (hd : d ≤ d') (hb : b ≤ b') (hc : c ≤ c') : ThA d' b' c' t := ⟨h.g.mono hd hb, fun x hx => leI_mono hc x (h.i x hx)⟩
theorem ThA.tup {d b c : Nat} {xs : List PyData} (h : ThA d b c xs) : Th (d + 1) b c (.tuple xs) := ⟨h.g.tup, by show leIA c xs = true; rw [leIA_all]; exact List.all_eq_true.mpr h.i⟩
theorem ThA.lis {d b c : Nat} {xs : List PyData} (h : ThA d b c xs) : Th (d + 1) b c (.list xs) := ⟨h.g.lis, by show leIA c xs = true; rw [leIA_all]; exact List.all_eq_true.mpr h.i⟩
theorem Th.tupA {d b c : Nat} {xs : List PyData} (h : Th (d + 1) b c (.tuple xs)) : ThA d b c xs := ⟨h.g.tupA, by have z : leIA c xs = true := h.i; rw [leIA_all] at z; exact List.all_eq_true.mp z⟩
theorem Th.lisA {d b c : Nat} {xs : List PyData} (h : Th (d + 1) b c (.list xs)) : ThA d b c xs := ⟨⟨by simpa [small] using h.g.sm, by simpa [PyData.canLay0] using h.g.cl, by have := h.g.dp; rw [dep_lis] at this; omega, by simpa [PyData.bulk] using h.g.bk⟩, by have z : leIA c xs = true := h.i; rw [leIA_all] at z; exact List.all_eq_true.mp z⟩
theorem ThA.app {d b b' c : Nat} {xs ys : List PyData} (h : ThA d b c xs) (h' : ThA d b' c ys) : ThA d (b + b') c (xs ++ ys) := ⟨h.g.app (xs := xs) (b := b) (ys := ys) (c := b') (hy := h'.g) |> id, fun x hx => by
  rcases List.mem_append.mp hx with z | z
  · exact h.i x z
  · exact h'.i x z⟩
theorem ThA.sub {d b c : Nat} {xs ys : List PyData} (s : List.Sublist ys xs) (h : ThA d b c xs) : ThA d b c ys := ⟨h.g.sub s, fun x hx => h.i x (s.mem hx)⟩
theorem ThA.rev {d b c : Nat} {xs : List PyData} (h : ThA d b c xs) : ThA d b c xs.reverse := ⟨h.g.rev, fun x hx => h.i x (List.mem_reverse.mp hx)⟩
theorem ThA.one {d b c : Nat} {x : PyData} (h : Th d b c x) : ThA d (b + 1) c [x] := ⟨GA.one h.g, fun y hy => by rw [List.mem_singleton] at hy; subst hy; exact h.i⟩
theorem ThA.put {d b b' c : Nat} {y : PyData} (hy : Th d b' c y) {xs : List PyData} {k : Nat} {x : PyData} (h : ThA d b c xs) (e : xs[k]? = some x) : ThA d (b - PyData.bulk x + b') c (xs.take k ++ y :: xs.drop (k + 1)) ∧ PyData.bulk x ≤ b := by
  obtain ⟨g1, g2⟩ := GA.put hy.g h.g e
  refine ⟨⟨g1, fun z hz => ?_⟩, g2⟩
  rcases List.mem_append.mp hz with w | w
  · exact h.i z (List.mem_of_mem_take w)
  · rcases List.mem_cons.mp w with rfl | w
    · exact hy.i
    · exact h.i z (List.mem_of_mem_drop w)
theorem ThA.mem {d b c : Nat} {xs : List PyData} (h : ThA d b c xs) {x : PyData} (hx : x ∈ xs) : Th d (PyData.bulk x) c x := by
  have g := h.g.mem x hx
  exact ⟨⟨g.sm, g.cl, g.dp, Nat.le_refl _⟩, h.i x hx⟩
theorem bulk_app : ∀ {xs ys : List PyData}, PyData.bulkAll (xs ++ ys) = PyData.bulkAll xs + PyData.bulkAll ys
  | [], ys => by show _ = 0 + _; rw [Nat.zero_add]; rfl
  | x :: xs, ys => by
    show PyData.bulk x + 1 + PyData.bulkAll (xs ++ ys) = PyData.bulk x + 1 + PyData.bulkAll xs + _
    rw [bulk_app]; omega
theorem ThA.self {d b c : Nat} {xs : List PyData} (h : ThA d b c xs) : ThA d (PyData.bulkAll xs) c xs := ⟨⟨h.g.sm, h.g.cl, h.g.dp, Nat.le_refl _⟩, h.i⟩
theorem th_int {c : Nat} {i : Int} (h : i.natAbs ≤ c) (hc : c < 2 ^ 400) : Th 0 0 c (.int i) := ⟨⟨decide_eq_true (Nat.lt_of_le_of_lt h hc), rfl, Nat.zero_le _, Nat.zero_le _⟩, decide_eq_true h⟩
theorem small_str {s : String} : small (.str (Str.ofString s)) = true := by
  show ((Str.ofString s).cps.toList.all fun c => decide (c < 16 ^ 8)) = true
  rw [Str.ofString_eq_toList]
  rw [List.all_eq_true]
  intro x hx
  simp only [List.mem_map] at hx
  obtain ⟨ch, -, rfl⟩ := hx
  have : ch.toNat < 2 ^ 32 := ch.val.toNat_lt
  exact decide_eq_true (by have : (2 : Nat) ^ 32 = 16 ^ 8 := by decide
                           omega)
theorem strOk_of {s : String} : PyData.canLay0 (.str (Str.ofString s)) = true := by
  show (Str.ofString s).cps.all (· < 0x110000) = true
  rw [Str.ofString_eq_toList]
  simp only [List.all_toArray, List.all_eq_true, List.mem_map]
  rintro x ⟨ch, -, rfl⟩
  have := ch.valid
  have h2 : ch.toNat < 0x110000 := by
    rcases this with z | z
    · have : ch.toNat < 0xd800 := z
      omega
    · exact z.2
  exact decide_eq_true h2
theorem th_tos {c : Nat} {i : Int} (h : i.natAbs < 2 ^ 104) : Th 0 110 c (.str (Str.ofString (toString i))) := by
  refine ⟨⟨small_str, strOk_of, Nat.zero_le _, ?_⟩, rfl⟩
  have hl : i.natAbs.log2 < 104 := log2_lt h (by decide)
  have := int_text_length_le (k := 104) (by decide) hl
  have e : (Str.ofString (toString i)).length ≤ 110 := by rw [ofString_length]; exact Nat.le_trans this (by decide)
  exact e
theorem th_snoc {d b c : Nat} {z w : Str} (h : Th d b c (.str z)) (hw : small (.str w) = true) (hw2 : PyData.canLay0 (.str w) = true) (hl : w.length ≤ 1) : Th d (b + 1) c (.str (z ++ w)) := by
  refine ⟨⟨?_, ?_, Nat.zero_le _, ?_⟩, rfl⟩
  rotate_left
  · have h1 : z.cps.all (· < 0x110000) = true := h.g.cl
    have h2 : w.cps.all (· < 0x110000) = true := hw2
    show (z ++ w).cps.all (· < 0x110000) = true
    rw [show (z ++ w).cps = z.cps ++ w.cps from rfl, Array.all_append, h1, h2]; rfl
  rotate_left
  · have h1 : (z.cps.toList.all fun c => decide (c < 16 ^ 8)) = true := h.g.sm
    have h2 : (w.cps.toList.all fun c => decide (c < 16 ^ 8)) = true := hw
    show ((z ++ w).cps.toList.all fun c => decide (c < 16 ^ 8)) = true
    rw [show (z ++ w).cps.toList = z.cps.toList ++ w.cps.toList from Array.toList_append, List.all_append, h1, h2]; rfl
  · have h3 : z.cps.size ≤ b := h.g.bk
    have h4 : w.cps.size ≤ 1 := hl
    show (z ++ w).cps.size ≤ b + 1
    rw [show (z ++ w).cps.size = z.cps.size + w.cps.size from Array.size_append]
    omega
/-! what a text of a whole number or of None is the repr of -/
theorem ofString_inj {s t : String} (h : Str.ofString s = Str.ofString t) : s = t := by
  rw [Str.ofString_eq_toList, Str.ofString_eq_toList] at h
  have h2 : (s.toList.map Char.toNat) = (t.toList.map Char.toNat) := by
    have := congrArg Str.cps h
    simpa using this
  have inj : ∀ a b : List Char, a.map Char.toNat = b.map Char.toNat → a = b := by
    intro a
    induction a with
    | nil => intro b e; cases b with | nil => rfl | cons _ _ => cases e
    | cons x a ih =>
      intro b e
      cases b with
      | nil => cases e
      | cons y b =>
        simp only [List.map_cons, List.cons.injEq] at e
        rw [ih b e.2, Char.toNat_inj.mp e.1]
  have := inj _ _ h2
  rw [← String.ofList_toList (s := s), ← String.ofList_toList (s := t), this]
def fc (s : Str) : Option Nat := s.cps.toList.head?
theorem fc_app {a b : Str} {c : Nat} (h : fc a = some c) : fc (a ++ b) = some c := by
  unfold fc at *
  rw [show (a ++ b).cps.toList = a.cps.toList ++ b.cps.toList from Array.toList_append]
  cases e : a.cps.toList with
  | nil => rw [e] at h; cases h
  | cons x r => rw [e] at h; exact h
theorem fc_from {c : Nat} : ∀ (ts : List Str) (k : Nat) (acc : Str), fc acc = some c → fc (textFrom k acc ts) = some c
  | [], _, _, h => h
  | t :: ts, k, acc, h => fc_from ts (k + 1) _ (fc_app (fc_app h))
theorem fc_lis {xs : List PyData} : fc (PyData.list xs).shown = some 91 := fc_app (fc_from _ _ _ (by decide +kernel))
theorem fc_tup {xs : List PyData} : fc (PyData.tuple xs).shown = some 40 := fc_app (fc_app (by decide +kernel))
theorem fc_str {x : Str} : fc (PyData.str x).shown = some 39 ∨ fc (PyData.str x).shown = some 34 := by
  have key : ∀ (g : Nat → Array Nat) (z : Nat) (l : List Nat) (acc : Array Nat) (q : Nat), acc.toList.head? = some q → ((l.foldl (fun out c => out ++ g c) acc).push z).toList.head? = some q := by
    intro g z
    intro l
    induction l with
    | nil =>
      intro acc q h
      rw [List.foldl_nil, Array.toList_push]
      cases e : acc.toList with
      | nil => rw [e] at h; cases h
      | cons y r => rw [e] at h; exact h
    | cons c l ih =>
      intro acc q h
      rw [List.foldl_cons]
      refine ih _ q ?_
      rw [Array.toList_append]
      cases e : acc.toList with
      | nil => rw [e] at h; cases h
      | cons y r => rw [e] at h; exact h
  have h1 : fc (PyData.str x).shown = some (reprQuote x) := by
    have e0 : (PyData.str x).shown = reprText x := rfl
    rw [e0]
    unfold fc reprText
    rw [← Array.foldl_toList]
    exact key _ _ _ _ _ rfl
  rw [h1]
  unfold reprQuote
  split
  · exact .inr rfl
  · exact .inl rfl
theorem fc_nat {n : Nat} : ∃ c, 48 ≤ c ∧ c ≤ 57 ∧ fc (PyData.int n).shown = some c := by
  have e : (PyData.int (n : Int)).shown = Str.ofString (Nat.repr n) := rfl
  have hp : 0 < (Nat.toDigits 10 n).length := Nat.length_toDigits_pos
  obtain ⟨d, r, hd⟩ : ∃ d r, Nat.toDigits 10 n = d :: r := by
    cases h : Nat.toDigits 10 n with
    | nil => rw [h] at hp; cases hp
    | cons d r => exact ⟨d, r, rfl⟩
  have hdig : d.isDigit = true := Nat.isDigit_of_mem_toDigits (b := 10) (n := n) (by decide) (by decide) (by rw [hd]; exact List.mem_cons_self)
  refine ⟨d.toNat, ?_, ?_, ?_⟩
  · have : (d.isDigit) = (decide (d.val ≥ 48) && decide (d.val ≤ 57)) := rfl
    rw [this] at hdig
    simp only [Bool.and_eq_true, decide_eq_true_eq] at hdig
    exact UInt32.le_iff_toNat_le.mp hdig.1
  · have : (d.isDigit) = (decide (d.val ≥ 48) && decide (d.val ≤ 57)) := rfl
    rw [this] at hdig
    simp only [Bool.and_eq_true, decide_eq_true_eq] at hdig
    exact UInt32.le_iff_toNat_le.mp hdig.2
  · rw [e, Str.ofString_eq_toList]
    unfold fc
    rw [Nat.toList_repr, hd]
    rfl
theorem fc_neg {n : Nat} : fc (PyData.int (Int.negSucc n)).shown = some 45 := by
  have e : (PyData.int (Int.negSucc n)).shown = Str.ofString (Int.repr (Int.negSucc n)) := rfl
  rw [e, Int.repr_eq_if, if_neg (by omega), Str.ofString_eq_toList]
  unfold fc
  rw [String.toList_append]
  rfl
theorem int_shown {a b : Int} (h : (PyData.int a).shown = (PyData.int b).shown) : a = b := Int.repr_injective (ofString_inj h)
theorem deg_shown {z : PyData} (hz : notDict z = true) {v : PyData} (hv : v = .none ∨ ∃ n : Nat, v = .int n) (h : z.shown = v.shown) : z = v := by
  have h' := congrArg fc h
  rcases hv with rfl | ⟨n, rfl⟩
  · have hN : fc PyData.none.shown = some 78 := by decide +kernel
    rw [hN] at h'
    cases z with
    | none => rfl
    | bool b => cases b <;> exact absurd h' (by decide +kernel)
    | int j =>
      cases j with
      | ofNat j =>
        obtain ⟨c, h1, h2, h3⟩ := fc_nat (n := j)
        rw [show (Int.ofNat j) = (j : Int) from rfl, h3] at h'
        cases h'; omega
      | negSucc j => rw [fc_neg] at h'; cases h'
    | str x => rcases fc_str (x := x) with e | e <;> (rw [e] at h'; cases h')
    | list xs => rw [fc_lis] at h'; cases h'
    | tuple xs => rw [fc_tup] at h'; cases h'
    | dict _ => cases hz
  · obtain ⟨c, h1, h2, h3⟩ := fc_nat (n := n)
    rw [h3] at h'
    cases z with
    | none => rw [show fc PyData.none.shown = some 78 by decide +kernel] at h'; cases h'; omega
    | bool b =>
      cases b
      · rw [show fc (PyData.bool false).shown = some 70 by decide +kernel] at h'; cases h'; omega
      · rw [show fc (PyData.bool true).shown = some 84 by decide +kernel] at h'; cases h'; omega
    | int j => rw [int_shown h]
    | str x => rcases fc_str (x := x) with e | e <;> (rw [e] at h'; cases h'; omega)
    | list xs => rw [fc_lis] at h'; cases h'; omega
    | tuple xs => rw [fc_tup] at h'; cases h'; omega
    | dict _ => cases hz
/-- the first place at which they are unlike -/
def First (f d : List Int) (j : Nat) : Prop := (∀ i, i < j → co f i = co d i) ∧ co f j ≠ co d j
theorem First.uniq {f d : List Int} {i j : Nat} (a : First f d i) (b : First f d j) : i = j := by
  rcases Nat.lt_trichotomy i j with z | z | z
  · exact absurd (b.1 i z) a.2
  · exact z
  · exact absurd (a.1 j z) b.2
theorem First.lt {f d : List Int} {j n : Nat} (a : First f d j) (hf : f.length ≤ n) (hd : d.length ≤ n) : j < n := by
  rcases Nat.lt_or_ge j n with z | z
  · exact z
  · exact absurd (by rw [co_ge (by omega), co_ge (by omega)]) a.2
theorem flt_t {p : Int → Bool} {x : Int} (h : p x = true) : fltF p (.int x) = some (.int x) := by unfold fltF; simp [h]
theorem flt_f {p : Int → Bool} {x : Int} (h : p x = false) : fltF p (.int x) = none := by unfold fltF; simp [h]
def isRestsD (m : Int) : PyData → Bool
  | .tuple xs => xs.all (isRestD m)
  | _ => false
/-- what is due -/
def wordD (w : String) (n : Int) : PyData := .tuple [.str (Str.ofString w), .int n]
theorem iL_inj : ∀ {a b : List Int}, iL a = iL b → a = b
  | [], [], _ => rfl
  | [], _ :: _, h => by cases h
  | _ :: _, [], h => by cases h
  | x :: a, y :: b, h => by
    simp only [iL_cons, List.cons.injEq, PyData.int.injEq] at h
    rw [h.1, iL_inj h.2]
theorem First.ne {f d : List Int} {j : Nat} (a : First f d j) : d ≠ f := fun e => a.2 (by rw [e])
theorem word_repr {w : String} {n : Nat} (hw : (Str.ofString w).length ≤ 100) (hn : n ≤ 1000) : PyData.showable (wordD w n) = true ∧ (wordD w n).depth ≤ 64 ∧ (wordD w n).shown.length ≤ 16777216 := by
  refine repr_ok ?_ ?_ ?_
  · show (small (.str (Str.ofString w)) && (small (.int n) && true)) = true
    rw [small_str, show small (.int n) = true from decide_eq_true (by
      have : (1000 : Nat) < 2 ^ 400 := by decide +kernel
      omega)]; rfl
  · simp [wordD, PyData.depth, PyData.depthAll]
  · have : PyData.bulk (.str (Str.ofString w)) ≤ 100 := hw
    simp [wordD, PyData.bulkAll, PyData.bulk] at this ⊢
    omega
theorem rests_of {m : Nat} {t : PyData} (h : isRestsD m t = true) : ∃ a : List Int, t = .tuple (iL a) ∧ ∀ c ∈ a, 0 ≤ c ∧ c < (m : Int) := by
  cases t with
  | tuple xs =>
    obtain ⟨l, rfl, hb⟩ := rests_iL (show xs.all (isRestD m) = true from h)
    exact ⟨l, rfl, hb⟩
  | _ => cases h
theorem poly_of_D {m : Nat} {t : PyData} (h : isPolyD m t = true) : ∃ g : List Int, t = .tuple (iL g) ∧ IsP m g := by
  cases t with
  | tuple xs =>
    have h' : (xs.all (isRestD m) && lastOk xs) = true := h
    rw [Bool.and_eq_true] at h'
    obtain ⟨l, rfl, hb⟩ := rests_iL h'.1
    refine ⟨l, rfl, ⟨fun c hc => (hb c hc).1, fun c hc => (hb c hc).2, fun z => ?_⟩⟩
    by_cases e : l = []
    · subst e; cases z
    · obtain ⟨r, c, rfl⟩ := snoc_of e
      rw [lastOk_snoc] at h'
      simp at z
      subst z
      exact absurd h'.2 (by simp)
  | _ => cases h
theorem isPoly_of {m : Nat} {g : List Int} (h : IsP m g) : isPolyD m (.tuple (iL g)) = true := by
  show ((iL g).all (isRestD m) && lastOk (iL g)) = true
  rw [h.rests, Bool.true_and]
  by_cases e : g = []
  · subst e; rfl
  · obtain ⟨r, c, rfl⟩ := snoc_of e
    rw [lastOk_snoc, decide_eq_false (fun z => h.last (by rw [z]; simp))]; rfl
theorem isRests_of {m : Nat} {a : List Int} (h : ∀ c ∈ a, 0 ≤ c ∧ c < (m : Int)) : isRestsD m (.tuple (iL a)) = true := all_rest h
theorem three_of {xs : List PyData} (h : xs.length = 3) : ∃ a b c, xs = [a, b, c] := by
  match xs, h with
  | [a, b, c], _ => exact ⟨a, b, c, rfl⟩
theorem First.low {f d : List Int} {j n : Nat} (a : First f d j) (hf : f.length ≤ n) (hd : d.length ≤ n) : j ≤ n := Nat.le_of_lt (a.lt hf hd)
theorem GA_iLn {d n : Nat} {l : List Int} (h : Bd l) (hl : l.length ≤ n) : GA d n (iL l) := (GA_iL h).mono (Nat.le_refl _) hl
theorem th_ints {d c n : Nat} {l : List Int} (h : ∀ x ∈ l, x.natAbs ≤ c) (hc : c < 2 ^ 400) (hl : l.length ≤ n) : ThA d n c (iL l) := ⟨GA_iLn (fun x hx => Nat.lt_of_le_of_lt (h x hx) hc) hl, fun x hx => by
  obtain ⟨i, hi, rfl⟩ := iL_mem hx
  exact decide_eq_true (h i hi)⟩
theorem ThA.cons {d b b' c : Nat} {x : PyData} {xs : List PyData} (h : Th d b c x) (h' : ThA d b' c xs) : ThA d (b + 1 + b') c (x :: xs) := (ThA.one h).app h'
theorem ThA.nil {d b c : Nat} : ThA d b c [] := ⟨GA.nil, fun x hx => absurd hx (by simp)⟩
end Mini
end
section
set_option Elab.async false
set_option linter.all false
set_option maxRecDepth 100000
set_option maxHeartbeats 2000000
/-! Mini: shuffles: what undoes a polynomial that shuffles the rests is a polynomial. -/
namespace Mini
open PySem
/-- of m + 1 numbers below m two are the same -/
theorem pigeon : ∀ (m : Nat) (g : Nat → Nat), (∀ i, i ≤ m → g i < m) → ∃ i j, i < j ∧ j ≤ m ∧ g i = g j
  | 0, g, h => absurd (h 0 (Nat.le_refl _)) (Nat.not_lt_zero _)
  | m + 1, g, h => by
    by_cases hv : ∃ i, i ≤ m ∧ g i = g (m + 1)
    · obtain ⟨i, hi, e⟩ := hv
      exact ⟨i, m + 1, by omega, Nat.le_refl _, e⟩
    · have hv : ∀ i, i ≤ m → g i ≠ g (m + 1) := fun i hi e => hv ⟨i, hi, e⟩
      have hb := h (m + 1) (Nat.le_refl _)
      obtain ⟨i, j, hij, hj, e⟩ := pigeon m (fun i => if g i = m then g (m + 1) else g i) fun i hi => by
        have h1 := h i (by omega)
        have h2 := hv i hi
        split
        · omega
        · omega
      refine ⟨i, j, hij, by omega, ?_⟩
      have h1 := hv i (by omega)
      have h2 := hv j hj
      split at e <;> split at e <;> omega
/-- values at unlike rests are unlike -/
def InjP (m : Nat) (f : List Int) : Prop := ∀ x y : Nat, x < m → y < m → ev (x : Int) f % m = ev (y : Int) f % m → x = y
/-- a polynomial upon itself, n times -/
def itP (f : List Int) : Nat → List Int
  | 0 => [0, 1]
  | n + 1 => uponL f (itP f n)
theorem ev_x {x : Int} : ev x [0, 1] = x := by simp [ev]
theorem ev_it {x : Int} {f : List Int} {n : Nat} : ev x (itP f (n + 1)) = ev (ev x (itP f n)) f := ev_upon
theorem ev_it' {x : Int} {f : List Int} : ∀ {n : Nat}, ev x (itP f (n + 1)) = ev (ev x f) (itP f n)
  | 0 => by rw [ev_it]; show ev (ev x [0, 1]) f = ev (ev x f) [0, 1]; rw [ev_x, ev_x]
  | n + 1 => by rw [ev_it, ev_it', ← ev_it]
theorem ev_it_add {x : Int} {f : List Int} {a : Nat} : ∀ {b : Nat}, ev x (itP f (a + b)) = ev (ev x (itP f a)) (itP f b)
  | 0 => by show _ = ev _ [0, 1]; rw [ev_x]; rfl
  | b + 1 => by rw [← Nat.add_assoc, ev_it, ev_it_add, ← ev_it]
theorem modN {m : Nat} (m0 : 0 < m) (z : Int) : ∃ y : Nat, y < m ∧ z % m = y := ⟨(z % m).toNat, by have := Int.emod_lt_of_pos z (show (0 : Int) < m by omega); have := Int.emod_nonneg z (show (m : Int) ≠ 0 by omega); omega, by have := Int.emod_nonneg z (show (m : Int) ≠ 0 by omega); omega⟩
/-- injective, of any whole numbers -/
theorem InjP.int {m : Nat} {f : List Int} (m0 : 0 < m) (h : InjP m f) {x y : Int} (e : ev x f % m = ev y f % m) : x % m = y % m := by
  obtain ⟨a, ha, ea⟩ := modN m0 x
  obtain ⟨b, hb, eb⟩ := modN m0 y
  rw [ea, eb]
  have := h a b ha hb (by rw [← ea, ← eb, ev_modx (y := x) (Int.emod_emod _ _), ev_modx (x := y % m) (y := y) (Int.emod_emod _ _)]; exact e)
  rw [this]
theorem it_inj {m : Nat} {f : List Int} (m0 : 0 < m) (h : InjP m f) : ∀ (n : Nat) {x y : Int}, ev x (itP f n) % m = ev y (itP f n) % m → x % m = y % m
  | 0, x, y, e => by
    rw [show itP f 0 = [0, 1] from rfl, ev_x, ev_x] at e; exact e
  | n + 1, x, y, e => by
    rw [ev_it, ev_it] at e
    exact it_inj m0 h n (h.int m0 e)
/-- each rest comes back -/
theorem it_back {m : Nat} {f : List Int} (m0 : 0 < m) (h : InjP m f) (x : Int) : ∃ k, 1 ≤ k ∧ k ≤ m ∧ ev x (itP f k) % m = x % m := by
  obtain ⟨i, j, hij, hj, e⟩ := pigeon m (fun i => (ev x (itP f i) % m).toNat) fun i _ => by
    have := Int.emod_lt_of_pos (ev x (itP f i)) (show (0 : Int) < m by omega)
    have := Int.emod_nonneg (ev x (itP f i)) (show (m : Int) ≠ 0 by omega)
    omega
  have e : ev x (itP f i) % m = ev x (itP f j) % m := by
    have := Int.emod_nonneg (ev x (itP f i)) (show (m : Int) ≠ 0 by omega)
    have := Int.emod_nonneg (ev x (itP f j)) (show (m : Int) ≠ 0 by omega)
    omega
  refine ⟨j - i, by omega, by omega, ?_⟩
  have hb : itP f j = itP f ((j - i) + i) := by rw [show (j - i) + i = j by omega]
  rw [hb, ev_it_add] at e
  exact (it_inj m0 h i e).symm
theorem it_mul {m : Nat} {f : List Int} {x : Int} {k : Nat} (e : ev x (itP f k) % m = x % m) : ∀ t : Nat, ev x (itP f (k * t)) % m = x % m
  | 0 => by show ev x [0, 1] % m = _; rw [ev_x]
  | t + 1 => by
    rw [Nat.mul_succ, ev_it_add, ev_modx (it_mul e t), e]
theorem it_all {m : Nat} {f : List Int} (m0 : 0 < m) (h : InjP m f) (x : Int) : ev x (itP f (fac m)) % m = x % m := by
  obtain ⟨k, k1, k2, e⟩ := it_back m0 h x
  obtain ⟨t, ht⟩ := dvd_fac (n := m) k1 k2
  rw [ht]
  exact it_mul e t
/-- what undoes is a polynomial -/
def Undoes (m : Nat) (f C : List Int) : Prop := (∀ x : Int, ev (ev x f) C % m = x % m) ∧ ∀ x : Int, ev (ev x C) f % m = x % m
theorem undo_ex {m : Nat} {f : List Int} (m0 : 0 < m) (h : InjP m f) : ∃ C, Undoes m f C := by
  refine ⟨itP f (fac m - 1), fun x => ?_, fun x => ?_⟩
  · rw [← ev_it', show fac m - 1 + 1 = fac m by have := fac_pos m; omega]; exact it_all m0 h x
  · rw [← ev_it, show fac m - 1 + 1 = fac m by have := fac_pos m; omega]; exact it_all m0 h x
theorem Undoes.inj {m : Nat} {f C : List Int} (h : Undoes m f C) : InjP m f := fun x y hx hy e => by
  have h1 := h.1 x
  rw [← ev_modx (Int.emod_emod (ev (x : Int) f) m), e, ev_modx (Int.emod_emod (ev (y : Int) f) m), h.1 y] at h1
  rw [Int.emod_eq_of_lt (by omega) (by omega), Int.emod_eq_of_lt (by omega) (by omega)] at h1
  omega
theorem Undoes.symm {m : Nat} {f C : List Int} (h : Undoes m f C) : Undoes m C f := ⟨h.2, h.1⟩
/-- alike everywhere -/
def Alike (m : Nat) (f g : List Int) : Prop := ∀ x : Int, ev x f % m = ev x g % m
theorem Alike.refl {m : Nat} {f : List Int} : Alike m f f := fun _ => rfl
theorem Alike.symm {m : Nat} {f g : List Int} (h : Alike m f g) : Alike m g f := fun x => (h x).symm
theorem Alike.trans {m : Nat} {f g k : List Int} (h : Alike m f g) (h' : Alike m g k) : Alike m f k := fun x => (h x).trans (h' x)
theorem Alike.ev {m : Nat} {f g : List Int} (h : Alike m f g) {x y : Int} (e : x % m = y % m) : Mini.ev x f % m = Mini.ev y g % m := (ev_modx e).trans (h y)
theorem InjP.alike {m : Nat} {f g : List Int} (h : InjP m f) (a : Alike m f g) : InjP m g := fun x y hx hy e => h x y hx hy (by rw [a, a]; exact e)
theorem Undoes.alike {m : Nat} {f g C D : List Int} (h : Undoes m f C) (a : Alike m f g) (b : Alike m C D) : Undoes m g D :=
  ⟨fun x => by rw [← b, ← ev_modx (f := C) (a x)]; exact h.1 x, fun x => by rw [← a, ← ev_modx (f := f) (b x)]; exact h.2 x⟩
/-- what undoes is one -/
theorem Undoes.uniq {m : Nat} {f C D : List Int} (h : Undoes m f C) (h' : Undoes m f D) : Alike m C D := fun x => by
  have h1 := h.1 (ev x D)
  have h2 : ev (ev x D) f % m = x % m := h'.2 x
  rw [ev_modx h2] at h1
  exact h1
theorem least_ev {m : Nat} {f : List Int} : Alike m (leastL m f) f := fun x => by
  unfold leastL
  rw [ev_cutpF, fv_cutF, nb_fv]
/-- least forms of alike ones are the same -/
theorem least_same {m : Nat} (m0 : 0 < m) {f g : List Int} (h : Alike m f g) : leastL m f = leastL m g := by
  unfold leastL
  rw [falls_uniq m0 (cutF_is m0 (nbN m f.length 0 f)) (cutF_is m0 (nbN m g.length 0 g)) fun x => by rw [fv_cutF, fv_cutF, nb_fv, nb_fv]; exact h _]
theorem least_least {m : Nat} (m0 : 0 < m) {f : List Int} : leastL m (leastL m f) = leastL m f := least_same m0 least_ev
theorem inj_alike_of {m : Nat} {f g : List Int} (h : ∀ x : Nat, x < m → ev (x : Int) f % m = ev (x : Int) g % m) (m0 : 0 < m) : Alike m f g := alike_all m0 h
/-- upon one another -/
theorem InjP.upon {m : Nat} {f g : List Int} (m0 : 0 < m) (hf : InjP m f) (hg : InjP m g) : InjP m (uponL f g) := fun x y hx hy e => by
  rw [ev_upon, ev_upon] at e
  exact hg x y hx hy (hf.int m0 e)
theorem cop_dvd {m : Nat} {a z : Int} (h : Int.gcd a m = 1) (d : (m : Int) ∣ a * z) : (m : Int) ∣ z := by
  have d' : m ∣ a.natAbs * z.natAbs := by
    have := Int.natAbs_dvd_natAbs.mpr d
    rwa [Int.natAbs_mul, Int.natAbs_natCast] at this
  have c : Nat.Coprime m a.natAbs := by
    have : Int.gcd a m = Nat.gcd a.natAbs m := rfl
    rw [this] at h
    exact (Nat.gcd_comm _ _).trans h
  have := Nat.Coprime.dvd_of_dvd_mul_left c d'
  exact Int.natAbs_dvd_natAbs.mp (by rwa [Int.natAbs_natCast])
theorem inj_of {m : Nat} {f : List Int} {u : Int → Int → Int} (h : ∀ x y : Int, ev x f - ev y f = u x y * (x - y)) (c : ∀ x y : Int, Int.gcd (u x y) m = 1) : InjP m f := fun x y hx hy e => by
  have e1 := dvd_of_emod_eq e
  rw [h] at e1
  have := small_dvd (cop_dvd (c _ _) e1) (by omega) (by omega)
  omega
/-! a dict that tells where each value stands first -/
def dI (g : Nat → Int) (n : Nat) : List (PyData × PyData) := (List.range n).map fun x => (.int (g x), .int (x : Nat))
theorem dI_len {g : Nat → Int} {n : Nat} : (dI g n).length = n := by unfold dI; rw [List.length_map, List.length_range]
theorem dI_succ {g : Nat → Int} {n : Nat} : dI g (n + 1) = dI g n ++ [(.int (g n), .int (n : Nat))] := by unfold dI; rw [List.range_succ, List.map_append]; rfl
theorem dget_app {a b : List (PyData × PyData)} {k : PyData} : dgetP (a ++ b) k = (dgetP a k).or (dgetP b k) := by
  unfold dgetP
  rw [List.find?_append]
  cases a.find? fun p => keyIs p.1 k <;> rfl
theorem dI_cases {g : Nat → Int} {v : Int} : ∀ n : Nat, (∃ x, x < n ∧ g x = v ∧ (∀ y, y < x → g y ≠ v) ∧ dgetP (dI g n) (.int v) = some (.int (x : Nat))) ∨ ((∀ x, x < n → g x ≠ v) ∧ dgetP (dI g n) (.int v) = none)
  | 0 => .inr ⟨fun x h => absurd h (Nat.not_lt_zero _), rfl⟩
  | n + 1 => by
    rw [dI_succ, dget_app]
    rcases dI_cases (g := g) (v := v) n with ⟨x, h1, h2, h3, h4⟩ | ⟨h1, h2⟩
    · exact .inl ⟨x, by omega, h2, h3, by rw [h4]; rfl⟩
    · rw [h2]
      by_cases e : g n = v
      · refine .inl ⟨n, by omega, e, fun y hy => h1 y hy, ?_⟩
        simp [dgetP, List.find?_cons, keyIs, e]
      · refine .inr ⟨fun x hx => ?_, by simp [dgetP, List.find?_cons, keyIs, e]⟩
        by_cases z : x = n
        · subst z; exact e
        · exact h1 x (by omega)
theorem dany_get {ps : List (PyData × PyData)} {k : PyData} : (ps.any fun p => keyIs p.1 k) = (dgetP ps k).isSome := by
  unfold dgetP
  induction ps with
  | nil => rfl
  | cons p ps ih =>
    rw [List.any_cons, List.find?_cons, ih]
    cases keyIs p.1 k <;> rfl
theorem dput_new {ps : List (PyData × PyData)} {k v : PyData} (h : dgetP ps k = none) : dputP ps k v = ps ++ [(k, v)] := by
  unfold dputP
  rw [dany_get, h, if_neg (by simp)]
theorem dI_put {g : Nat → Int} {n : Nat} (h : dgetP (dI g n) (.int (g n)) = none) : dputP (dI g n) (.int (g n)) (.int (n : Nat)) = dI g (n + 1) := by
  rw [dput_new h, dI_succ]
/-- two rests with like values: the least second one, its first one -/
structure Meet (m : Nat) (f : List Int) (x y : Nat) : Prop where
  lt : x < y
  hi : y < m
  eq : ev (x : Int) f % m = ev (y : Int) f % m
  first : ∀ a b : Nat, a < b → b < y → ev (a : Int) f % m ≠ ev (b : Int) f % m
theorem Meet.uniq {m : Nat} {f : List Int} {x y x' y' : Nat} (h : Meet m f x y) (h' : Meet m f x' y') : x = x' ∧ y = y' := by
  have hy : y = y' := by
    rcases Nat.lt_trichotomy y y' with z | z | z
    · exact absurd h.eq (h'.first x y h.lt z)
    · exact z
    · exact absurd h'.eq (h.first x' y' h'.lt z)
  subst hy
  refine ⟨?_, rfl⟩
  rcases Nat.lt_trichotomy x x' with z | z | z
  · exact absurd (h.eq.trans h'.eq.symm) (h.first x x' z h'.lt)
  · exact z
  · exact absurd (h'.eq.trans h.eq.symm) (h.first x' x z h.lt)
theorem Meet.not {m : Nat} {f : List Int} {x y : Nat} (h : Meet m f x y) : ¬ InjP m f := fun i => by
  have := i x y (Nat.lt_trans h.lt h.hi) h.hi h.eq
  have := h.lt
  omega
theorem inj_of_lt {m : Nat} {f : List Int} (h : ∀ a b : Nat, a < b → b < m → ev (a : Int) f % m ≠ ev (b : Int) f % m) : InjP m f := fun x y hx hy e => by
  rcases Nat.lt_trichotomy x y with z | z | z
  · exact absurd e (h x y z hy)
  · exact z
  · exact absurd e.symm (h y x z hx)
/-- a line -/
theorem inj_line {m : Nat} {a b : Int} (h : Int.gcd a m = 1) : InjP m [b, a] := inj_of (u := fun _ _ => a) (fun x y => by
  simp only [ev]
  rw [Int.mul_zero, Int.mul_zero, Int.add_zero, Int.mul_sub, Int.mul_comm x a, Int.mul_comm y a]; omega) fun _ _ => h
/-- by c each divisor of m shows -/
def Rad (m : Nat) (c : Int) : Prop := ∃ N : Nat, (m : Int) ∣ c ^ N
theorem rad_unit {m : Nat} {c t : Int} (h : Rad m c) : Int.gcd (1 + c * t) m = 1 := by
  obtain ⟨N, hN⟩ := h
  have h1 : Int.gcd (1 + c * t) c = 1 := by
    rw [Int.gcd_add_mul_left_left]
    exact Int.one_gcd
  have h3 := Int.gcd_pow_right_of_gcd_eq_one (k := N) h1
  have h4 : Int.gcd (1 + c * t) m ∣ Int.gcd (1 + c * t) (c ^ N) := Int.gcd_dvd_gcd_of_dvd_right _ hN
  rw [h3] at h4
  exact Nat.dvd_one.mp h4
theorem ev_quot (x y : Int) : ∀ h : List Int, ∃ q, ev x h - ev y h = q * (x - y)
  | [] => ⟨0, by simp [ev]⟩
  | c :: h => by
    obtain ⟨q, e⟩ := ev_quot x y h
    refine ⟨ev x h + y * q, ?_⟩
    simp only [ev]
    have e1 : ev x h = ev y h + q * (x - y) := by omega
    rw [Int.add_mul, Int.mul_assoc, ← e]
    have e2 : ev x h * (x - y) = x * ev x h - y * ev x h := by rw [Int.mul_sub, Int.mul_comm, Int.mul_comm (ev x h) y]
    rw [e2, Int.mul_sub]; omega
/-- x and a multiple of what shows all divisors -/
theorem inj_rad {m : Nat} {c : Int} {h : List Int} (r : Rad m c) {f : List Int} (e : ∀ x : Int, ev x f = x + c * ev x h) : InjP m f := by
  have key : ∀ x y : Int, ∃ u : Int, ev x f - ev y f = u * (x - y) ∧ Int.gcd u m = 1 := fun x y => by
    obtain ⟨q, hq⟩ := ev_quot x y h
    refine ⟨1 + c * q, ?_, rad_unit r⟩
    rw [e, e, Int.add_mul, Int.one_mul, Int.mul_assoc, ← hq, Int.mul_sub]; omega
  intro x y hx hy e'
  obtain ⟨u, h1, h2⟩ := key x y
  have e1 := dvd_of_emod_eq e'
  rw [h1] at e1
  have := small_dvd (cop_dvd h2 e1) (by omega) (by omega)
  omega
/-- powers that shuffle -/
def powOk (m w : Nat) : Bool := (List.range 61).any fun d => (List.range m).all fun x => x ^ (w * d) % m == x % m
theorem pow_inj {m w : Nat} (h : powOk m w = true) {x y : Nat} (hx : x < m) (hy : y < m) (e : ((x : Int) ^ w) % m = ((y : Int) ^ w) % m) : x = y := by
  unfold powOk at h
  obtain ⟨d, -, hd⟩ := List.any_eq_true.mp h
  have key : ∀ z, z < m → z ^ (w * d) % m = z := fun z hz => by
    have := List.all_eq_true.mp hd z (List.mem_range.mpr hz)
    rw [beq_iff_eq, Nat.mod_eq_of_lt hz] at this
    exact this
  have e' : x ^ w % m = y ^ w % m := by exact_mod_cast e
  rw [← key x hx, ← key y hy, Nat.pow_mul, Nat.pow_mul, Nat.pow_mod, e', ← Nat.pow_mod]
theorem ev_mono {x a : Int} : ∀ n : Nat, ev x (List.replicate n 0 ++ [a]) = a * x ^ n
  | 0 => by show a + x * 0 = a * x ^ 0; rw [Int.pow_zero]; omega
  | n + 1 => by
    rw [List.replicate_succ]
    show 0 + x * ev x (List.replicate n 0 ++ [a]) = _
    rw [ev_mono n, Int.pow_succ, Int.zero_add, Int.mul_left_comm, Int.mul_comm x]
/-- a line of a power -/
theorem inj_pow {m w : Nat} {a b : Int} {f : List Int} (h : powOk m w = true) (ha : Int.gcd a m = 1) (e : ∀ x : Int, ev x f = b + a * x ^ w) : InjP m f := fun x y hx hy e' => by
  have e1 := dvd_of_emod_eq e'
  rw [e, e, show b + a * (x : Int) ^ w - (b + a * (y : Int) ^ w) = a * ((x : Int) ^ w - (y : Int) ^ w) by rw [Int.mul_sub]; omega] at e1
  exact pow_inj h hx hy (emod_eq_of_dvd (cop_dvd ha e1))
def tabP : Bool := (List.range 65).all fun m => (List.range 65).all fun n => decide (m < 2) || !decide (Nat.gcd m (fac (n - 1)) = 1) || !decide (fac n % m = 0) || [3, 5, 7].all fun e => !decide (Nat.gcd e (m - 1) = 1) || powOk m e
theorem tabP_ok : tabP = true := by decide +kernel
theorem pow_prime {m n e : Nat} (m0 : 2 ≤ m) (hm : m ≤ 64) (hn : n ≤ 64) (h1 : Nat.gcd m (fac (n - 1)) = 1) (h2 : m ∣ fac n) (he : e = 3 ∨ e = 5 ∨ e = 7) (h3 : Nat.gcd e (m - 1) = 1) : powOk m e = true := by
  have := List.all_eq_true.mp (List.all_eq_true.mp tabP_ok m (List.mem_range.mpr (by omega))) n (List.mem_range.mpr (by omega))
  rw [decide_eq_false (by omega : ¬ m < 2), decide_eq_true h1, decide_eq_true (Nat.mod_eq_zero_of_dvd h2)] at this
  have := List.all_eq_true.mp this e (by simp; omega)
  rw [decide_eq_true h3] at this
  exact this
def gMs : List Nat := [17, 19, 23, 29, 31, 34, 38, 46, 49, 51, 57, 58, 62]
def gPr : List Nat := [2, 3, 17, 19, 23, 29, 31]
def tabG : Bool := gMs.all fun m => [1, 3, 5, 7, 11].all fun w => !(decide (w = 1) || (!decide (m = 49) && gPr.all fun p => !decide (m % p = 0) || decide (Nat.gcd w (p - 1) ≤ 1))) || powOk m w
theorem tabG_ok : tabG = true := by decide +kernel
theorem pow_great {m w : Nat} (hm : m ∈ gMs) (hw : w ∈ [1, 3, 5, 7, 11]) (h : w = 1 ∨ (m ≠ 49 ∧ ∀ p ∈ gPr, m % p = 0 → Nat.gcd w (p - 1) ≤ 1)) : powOk m w = true := by
  have := List.all_eq_true.mp (List.all_eq_true.mp tabG_ok m hm) w hw
  have c : (decide (w = 1) || (!decide (m = 49) && gPr.all fun p => !decide (m % p = 0) || decide (Nat.gcd w (p - 1) ≤ 1))) = true := by
    rcases h with h | ⟨h1, h2⟩
    · rw [decide_eq_true h, Bool.true_or]
    · rw [decide_eq_false h1, Bool.not_false, Bool.true_and, Bool.or_eq_true]
      refine .inr (List.all_eq_true.mpr fun p hp => ?_)
      by_cases z : m % p = 0
      · rw [decide_eq_true (h2 p hp z), Bool.or_true]
      · rw [decide_eq_false z]; rfl
  rw [c] at this
  exact this
theorem ev_cut' {m : Nat} {l : List Int} (x : Int) : ev x (cut (m : Int) l) % m = ev x l % m := ev_eqM eqM_cut
/-- nought everywhere -/
def NullP (m : Nat) (f : List Int) : Prop := ∀ x : Int, ev x f % m = 0
theorem NullP.mul {m : Nat} {f g : List Int} (h : NullP m f) : NullP m (cut (m : Int) (mulL f g)) := fun x => by rw [val_times, h, Int.zero_mul, Int.zero_emod]
theorem NullP.add {m : Nat} {f g : List Int} (h : NullP m g) : Alike m f (cut (m : Int) (sumL 1 f g)) := fun x => by rw [val_plus, h, Int.add_zero, Int.emod_emod]
theorem null_top {m a : Nat} {c : Int} : NullP m (cut (m : Int) (pF 0 (List.replicate a 0 ++ [(topN m a : Int) * c]))) := fun x => by
  rw [ev_cutpF]
  refine met_null (met_iff.mpr fun k => ?_) x
  by_cases h : k < a
  · rw [co_app_l (by rw [List.length_replicate]; exact h), co_rep]; exact Int.dvd_zero _
  · rw [co_app_r (by rw [List.length_replicate]; omega), List.length_replicate]
    by_cases z : k = a
    · subst z; rw [Nat.sub_self, co_zero]; exact Int.dvd_mul_right _ _
    · rw [co_ge (by simp; omega)]; exact Int.dvd_zero _
end Mini
end
section
set_option Elab.async false
set_option linter.all false
set_option maxRecDepth 100000
set_option maxHeartbeats 2000000
/-! Mini: tables of the values at all rests. -/
namespace Mini
open PySem
def tabL (m : Nat) (f : List Int) : List Int := (List.range m).map fun x : Nat => ev (x : Int) f % m
theorem tab_len {m : Nat} {f : List Int} : (tabL m f).length = m := by unfold tabL; rw [List.length_map, List.length_range]
theorem co_tab {m x : Nat} {f : List Int} (h : x < m) : co (tabL m f) x = ev (x : Int) f % m := by unfold tabL; rw [co_range, if_pos h]
theorem tab_of {m : Nat} {f : List Int} : (rgI 0 m).map (fun x => ev x f % m) = tabL m f := by
  unfold rgI tabL
  rw [List.map_map, show ((m : Int) - 0).toNat = m by omega]
  refine List.map_congr_left fun x _ => ?_
  show ev (0 + (x : Int)) f % m = _
  rw [Int.zero_add]
theorem tab_alike {m : Nat} {f g : List Int} (h : Alike m f g) : tabL m f = tabL m g := by
  unfold tabL
  exact List.map_congr_left fun x _ => h x
theorem tab_x {m : Nat} : rgI 0 m = tabL m [0, 1] := by
  unfold rgI tabL
  rw [show ((m : Int) - 0).toNat = m by omega]
  refine List.map_congr_left fun x hx => ?_
  have := List.mem_range.mp hx
  rw [ev_x, Int.zero_add, Int.emod_eq_of_lt (by omega) (by omega)]
theorem tab_mem {m : Nat} {f : List Int} (m0 : 0 < m) {y : Int} (h : y ∈ tabL m f) : 0 ≤ y ∧ y < m := by
  unfold tabL at h
  obtain ⟨x, _, rfl⟩ := List.mem_map.mp h
  exact ⟨Int.emod_nonneg _ (by omega), Int.emod_lt_of_pos _ (by omega)⟩
theorem tab_upon {m : Nat} {f g : List Int} (m0 : 0 < m) : (tabL m f).map (fun y => co (tabL m g) y.toNat) = tabL m (uponL g f) := by
  have e : ∀ x ∈ List.range m, (fun y : Int => co (tabL m g) y.toNat) (ev ((x : Nat) : Int) f % m) = ev (x : Int) (uponL g f) % m := fun x hx => by
    have h0 := Int.emod_nonneg (ev (x : Int) f) (show (m : Int) ≠ 0 by omega)
    have h1 := Int.emod_lt_of_pos (ev (x : Int) f) (show (0 : Int) < m by omega)
    dsimp only
    rw [co_tab (by omega), show (((ev (x : Int) f % m).toNat : Nat) : Int) = ev (x : Int) f % m by omega, ev_upon]
    exact ev_modx (Int.emod_emod _ _)
  have : (tabL m f).map (fun y => co (tabL m g) y.toNat) = (List.range m).map fun x : Nat => (fun y : Int => co (tabL m g) y.toNat) (ev (x : Int) f % m) := by unfold tabL; rw [List.map_map]; rfl
  rw [this]
  unfold tabL
  exact List.map_congr_left e
theorem tab_take {m n : Nat} {f : List Int} (h : n ≤ m) : (tabL m f).take n = (List.range n).map fun j : Nat => ev (j : Int) f % m := by
  unfold tabL
  rw [← List.map_take, List.take_range, Nat.min_eq_left h]
theorem it_upon {m : Nat} {f : List Int} {a b : Nat} : Alike m (uponL (itP f a) (itP f b)) (itP f (b + a)) := fun x => by rw [ev_upon, ev_it_add]
/-- where y first stands -/
theorem fix_iL {y : Int} : ∀ {l : List Int} {j : Nat}, (iL l).findIdx? (fun z => PyData.eqv z (.int y)) = some j ↔ j < l.length ∧ co l j = y ∧ ∀ i, i < j → co l i ≠ y := by
  intro l
  induction l with
  | nil => intro j; exact ⟨fun h => by simp [iL] at h, fun h => absurd h.1 (Nat.not_lt_zero _)⟩
  | cons z l ih =>
    intro j
    rw [iL_cons, List.findIdx?_cons, eqv_int]
    by_cases e : z = y
    · rw [decide_eq_true e, if_pos rfl]
      constructor
      · intro h; cases h; exact ⟨by simp, e, fun i hi => absurd hi (Nat.not_lt_zero _)⟩
      · rintro ⟨-, -, h⟩
        rcases j with _ | j
        · rfl
        · exact absurd e (h 0 (by omega))
    · rw [decide_eq_false e, if_neg Bool.false_ne_true]
      rcases j with _ | j
      · constructor
        · intro h
          rw [Option.map_eq_some_iff] at h
          obtain ⟨a, _, ha⟩ := h
          omega
        · rintro ⟨-, h, -⟩; exact absurd h e
      · constructor
        · intro h
          rw [Option.map_eq_some_iff] at h
          obtain ⟨a, ha, haj⟩ := h
          have : a = j := by omega
          subst this
          obtain ⟨h1, h2, h3⟩ := ih.mp ha
          refine ⟨by rw [List.length_cons]; omega, h2, fun i hi => ?_⟩
          rcases i with _ | i
          · exact e
          · exact h3 i (by omega)
        · rintro ⟨h1, h2, h3⟩
          rw [List.length_cons] at h1
          rw [ih.mpr ⟨by omega, h2, fun i hi => h3 (i + 1) (by omega)⟩]
          rfl
theorem inD_iff {y : Int} {L : List Int} : inD (.int y) (iL L) = decide (y ∈ L) := by
  by_cases h : y ∈ L
  · rw [inD_iL h, decide_eq_true h]
  · rw [decide_eq_false h]
    unfold inD
    rw [List.any_eq_false]
    intro z hz
    obtain ⟨x, hx, rfl⟩ := iL_mem hz
    rw [eqv_int, decide_eq_true_eq]
    intro e; subst e; exact h hx
theorem mem_co {l : List Int} {y : Int} : y ∈ l ↔ ∃ j, j < l.length ∧ co l j = y := by
  rw [List.mem_iff_getElem]
  constructor
  · rintro ⟨j, hj, rfl⟩; exact ⟨j, hj, by unfold co; rw [List.getElem?_eq_getElem hj]; rfl⟩
  · rintro ⟨j, hj, rfl⟩; exact ⟨j, hj, by unfold co; rw [List.getElem?_eq_getElem hj]; rfl⟩
theorem co_take {l : List Int} {n j : Nat} (h : j < n) : co (l.take n) j = co l j := by unfold co; rw [List.getElem?_take_of_lt h]
/-- the least second rest, when there is one -/
theorem meet_at {m : Nat} {f : List Int} {x y : Nat} (hx : x < y) (hy : y < m) (e : ev (x : Int) f % m = ev (y : Int) f % m) (d : ∀ a b : Nat, a < b → b < y → ev (a : Int) f % m ≠ ev (b : Int) f % m) : Meet m f x y := ⟨hx, hy, e, d⟩
theorem meet_ex {m : Nat} {f : List Int} (h : ¬ InjP m f) : ∃ x y, Meet m f x y := by
  have go : ∀ n, n ≤ m → (∀ a b : Nat, a < b → b < n → ev (a : Int) f % m ≠ ev (b : Int) f % m) ∨ ∃ x y, Meet m f x y := by
    intro n
    induction n with
    | zero => intro _; exact .inl fun a b _ h => absurd h (Nat.not_lt_zero _)
    | succ n ih =>
      intro hn
      rcases ih (by omega) with z | z
      · by_cases e : ∃ a, a < n ∧ ev (a : Int) f % m = ev (n : Int) f % m
        · obtain ⟨a, ha, ea⟩ := e
          exact .inr ⟨a, n, ha, by omega, ea, z⟩
        · refine .inl fun a b ha hb => ?_
          by_cases y : b = n
          · subst y; exact fun w => e ⟨a, ha, w⟩
          · exact z a b ha (by omega)
      · exact .inr z
  rcases go m (Nat.le_refl _) with z | z
  · exact absurd (inj_of_lt z) h
  · exact z
theorem uniq_go : ∀ (l acc : List Int), (l.foldl (fun acc x => if acc.any (· == x) = true then acc else acc ++ [x]) acc).length ≤ acc.length + l.length ∧ (acc.Nodup → ((l.foldl (fun acc x => if acc.any (· == x) = true then acc else acc ++ [x]) acc).length = acc.length + l.length ↔ (acc ++ l).Nodup)) := by
  intro l
  induction l with
  | nil => intro acc; exact ⟨Nat.le_refl _, fun h => ⟨fun _ => by rw [List.append_nil]; exact h, fun _ => rfl⟩⟩
  | cons x l ih =>
    intro acc
    rw [List.foldl_cons]
    by_cases hx : x ∈ acc
    · rw [if_pos (List.any_eq_true.mpr ⟨x, hx, by simp⟩)]
      have h1 := (ih acc).1
      refine ⟨by rw [List.length_cons]; omega, fun hn => ⟨fun h => by rw [List.length_cons] at h; omega, fun h => ?_⟩⟩
      rw [List.nodup_append] at h
      exact absurd rfl (h.2.2 x hx x List.mem_cons_self)
    · rw [if_neg (by rw [List.any_eq_true]; rintro ⟨y, hy, e⟩; rw [beq_iff_eq] at e; subst e; exact hx hy)]
      obtain ⟨h1, h2⟩ := ih (acc ++ [x])
      rw [List.length_append, List.length_singleton] at h1 h2
      refine ⟨by rw [List.length_cons]; omega, fun hn => ?_⟩
      have hn2 : (acc ++ [x]).Nodup := by
        rw [List.nodup_append]
        exact ⟨hn, by simp, fun a ha b hb e => by rw [List.mem_singleton] at hb; subst hb; subst e; exact hx ha⟩
      have h3 := h2 hn2
      rw [List.append_assoc, List.singleton_append] at h3
      rw [← h3, List.length_cons]
      omega
theorem uniq_nodup {l : List Int} : (uniq l).length = l.length ↔ l.Nodup := by
  have := (uniq_go l []).2 List.nodup_nil
  rw [List.length_nil, Nat.zero_add, List.nil_append] at this
  exact this
theorem tab_nodup {m : Nat} {f : List Int} : (tabL m f).Nodup ↔ InjP m f := by
  rw [List.nodup_iff_pairwise_ne]
  unfold tabL
  rw [List.pairwise_map, List.pairwise_iff_getElem]
  constructor
  · intro h
    exact inj_of_lt fun a b ha hb => by
      have := h a b (by rw [List.length_range]; omega) (by rw [List.length_range]; omega) ha
      rw [List.getElem_range, List.getElem_range] at this
      exact this
  · intro h i j hi hj hij e
    rw [List.getElem_range, List.getElem_range] at e
    rw [List.length_range] at hi hj
    have := h i j hi hj e
    omega
theorem tab_uniq {m : Nat} {f : List Int} : (((uniq (tabL m f)).length : Int) = (m : Int)) ↔ InjP m f := by
  rw [← tab_nodup, ← uniq_nodup, tab_len]
  omega
theorem tab_idx {m : Nat} {f F : List Int} (m0 : 0 < m) (hU : Undoes m f F) {x : Int} (h0 : 0 ≤ x) (h1 : x < m) : (iL (tabL m f)).findIdx? (fun z => PyData.eqv z (.int x)) = some (ev x F % m).toNat := by
  have g0 := Int.emod_nonneg (ev x F) (show (m : Int) ≠ 0 by omega)
  have g1 := Int.emod_lt_of_pos (ev x F) (show (0 : Int) < m by omega)
  have e : ev ((ev x F % m).toNat : Nat) f % m = x := by
    rw [show (((ev x F % m).toNat : Nat) : Int) = ev x F % m by omega, ev_modx (Int.emod_emod _ _), hU.2 x, Int.emod_eq_of_lt h0 h1]
  refine fix_iL.mpr ⟨by rw [tab_len]; omega, by rw [co_tab (by omega)]; exact e, fun i hi e2 => ?_⟩
  rw [co_tab (by omega)] at e2
  have := hU.inj i _ (by omega) (by omega) (e2.trans e.symm)
  omega
theorem isIff {T : List MF} {k : Nat} {E : MExc → MEnv → MH → Prop} {D : MD} {c : MX} {a b : MSs} {r : MSs} {e : MEnv} {h : MH} (q : wSs (wF T k) E (.cons (.iff c a b) r) e h D) : wSs (wF T k) E (.cons (.iff c a b) r) e h D := q
theorem iff_sts {T : List MF} {k : Nat} {E : MExc → MEnv → MH → Prop} {D : MD} {α : Type} {c : MX} {a b : MSs} {r : MSs} {e : MEnv} {h : MH} (st : α → MEnv) (hp : α → MH) (P : α → Prop)
    (q : wX (wF T k) (fun x h' => E x e h') c e h fun x h1 => wTru x h1 fun t => if t then wSs (wF T k) E a e h1 { nx := fun e' h' => ∃ s, e' = st s ∧ h' = hp s ∧ P s, rt := D.rt, bk := D.bk, ct := D.ct } else wSs (wF T k) E b e h1 { nx := fun e' h' => ∃ s, e' = st s ∧ h' = hp s ∧ P s, rt := D.rt, bk := D.bk, ct := D.ct })
    (fin : ∀ s, P s → wSs (wF T k) E r (st s) (hp s) D) : wSs (wF T k) E (.cons (.iff c a b) r) e h D := by
  refine toSs ?_
  show wS (wF T k) E (.iff c a b) e h _
  exact iff_st st hp P q fin
theorem iL_take {l : List Int} {n : Nat} : (iL l).take n = iL (l.take n) := by unfold iL; rw [List.map_take]
end Mini
end
section
set_option Elab.async false
set_option linter.all false
set_option maxRecDepth 100000
namespace Law
open PySem Mini
def f_common : MF where
  name := "common"
  np := 2
  names := ["a", "b", "rest"]
  body := (.cons (.set 0 (.blt .abs (.cons (.var 0) .nil)))
    (.cons (.set 1 (.blt .abs (.cons (.var 1) .nil)))
    (.cons (.whl false (.cmp .gt (.var 1) (.cst (.int 0))) (.cons (.set 2 (.bin .mod (.var 0) (.var 1)))
    (.cons (.set 0 (.var 1))
    (.cons (.set 1 (.var 2))
    .nil))))
    (.cons (.ret (.var 0))
    .nil))))

def f_shuffles_line : MF where
  name := "shuffles_line"
  np := 2
  names := ["m", "f"]
  body := (.cons (.ret (.andd (.cmp .eq (.blt .len (.cons (.var 1) .nil)) (.cst (.int 2))) (.cmp .eq (.call "common" (.cons (.ix (.var 1) (.cst (.int 1))) (.cons (.var 0) .nil))) (.cst (.int 1)))))
    .nil)

def f_shuffles_power : MF where
  name := "shuffles_power"
  np := 2
  names := ["p", "n"]
  body := (.cons (.ret (.cmp .eq (.call "common" (.cons (.var 1) (.cons (.bin .sub (.var 0) (.cst (.int 1))) .nil))) (.cst (.int 1))))
    .nil)

def f_shuffles_twos : MF where
  name := "shuffles_twos"
  np := 2
  names := ["n", "f"]
  body := (.cons (.iff (.orr (.cmp .lt (.blt .len (.cons (.var 1) .nil)) (.cst (.int 2))) (.cmp .eq (.bin .mod (.ix (.var 1) (.cst (.int 1))) (.cst (.int 2))) (.cst (.int 0)))) (.cons (.ret (.cst (.bool false)))
    .nil) .nil)
    (.cons (.ret (.andd (.cmp .eq (.bin .mod (.blt .sum (.cons (.frz (.alt 2 (.var 1))) .nil)) (.cst (.int 2))) (.cst (.int 0))) (.cmp .eq (.bin .mod (.blt .sum (.cons (.frz (.alt 3 (.var 1))) .nil)) (.cst (.int 2))) (.cst (.int 0)))))
    .nil))

def f__law_feed : MF where
  name := "_law_feed"
  np := 1
  names := ["_law_script"]
  body := (.cons (.ret (.dlit [(.str (Str.ofString "cells")), (.str (Str.ofString "at")), (.str (Str.ofString "left")), (.str (Str.ofString "turn"))] (.cons (.frz (.blt .list (.cons (.frz (.sl (.var 0) .nil (.cons (.cst (.int 63)) .nil))) .nil))) (.cons (.cst (.int 0)) (.cons (.cst (.int 0)) (.cons (.cst (.int 0)) .nil))))))
    .nil)

def f__law_draw : MF where
  name := "_law_draw"
  np := 2
  names := ["_law_feed_here", "_law_many", "_law_found", "_law_spot", "_law_cell", "_law_mixed"]
  body := (.cons (.setI (.var 0) (.cst (.str (Str.ofString "turn"))) (.bin .add (.ix (.var 0) (.cst (.str (Str.ofString "turn")))) (.cst (.int 1))))
    (.cons (.set 2 (.bin .mod (.ix (.var 0) (.cst (.str (Str.ofString "left")))) (.var 1)))
    (.cons (.iff (.cmp .gt (.ix (.var 0) (.cst (.str (Str.ofString "left")))) (.cst (.int 0))) (.cons (.setI (.var 0) (.cst (.str (Str.ofString "left"))) (.bin .fdiv (.ix (.var 0) (.cst (.str (Str.ofString "left")))) (.var 1)))
    (.cons (.ret (.var 2))
    .nil)) .nil)
    (.cons (.set 3 (.ix (.var 0) (.cst (.str (Str.ofString "at")))))
    (.cons (.setI (.var 0) (.cst (.str (Str.ofString "at"))) (.bin .add (.var 3) (.cst (.int 1))))
    (.cons (.set 4 (.cst (.int 0)))
    (.cons (.iff (.cmp .ne (.ix (.var 0) (.cst (.str (Str.ofString "cells")))) (.frz (.lst .nil))) (.cons (.set 4 (.ix (.ix (.var 0) (.cst (.str (Str.ofString "cells")))) (.bin .mod (.var 3) (.blt .len (.cons (.ix (.var 0) (.cst (.str (Str.ofString "cells")))) .nil)))))
    .nil) .nil)
    (.cons (.iff (.andd (.cmp .ge (.var 4) (.bin .pow (.cst (.int 10)) (.cst (.int 18)))) (.cmp .lt (.var 3) (.blt .len (.cons (.ix (.var 0) (.cst (.str (Str.ofString "cells")))) .nil)))) (.cons (.setI (.var 0) (.cst (.str (Str.ofString "left"))) (.bin .fdiv (.var 4) (.var 1)))
    (.cons (.ret (.bin .mod (.var 4) (.var 1)))
    .nil)) .nil)
    (.cons (.set 5 (.bin .mod (.bin .mul (.bin .add (.bin .add (.bin .mod (.var 4) (.cst (.int 2147483629))) (.bin .mul (.cst (.int 7919)) (.ix (.var 0) (.cst (.str (Str.ofString "turn")))))) (.bin .mul (.cst (.int 31)) (.var 3))) (.cst (.int 48271))) (.cst (.int 2147483647))))
    (.cons (.set 5 (.bin .mod (.bin .mul (.bin .add (.bin .fdiv (.var 5) (.cst (.int 64))) (.bin .mul (.cst (.int 6151)) (.ix (.var 0) (.cst (.str (Str.ofString "turn")))))) (.cst (.int 69621))) (.cst (.int 2147483587))))
    (.cons (.ret (.bin .mod (.bin .fdiv (.var 5) (.cst (.int 64))) (.var 1)))
    .nil)))))))))))

def f__law_common : MF where
  name := "_law_common"
  np := 2
  names := ["_law_one", "_law_other"]
  body := (.cons (.par 0 1 (.blt .abs (.cons (.var 0) .nil)) (.blt .abs (.cons (.var 1) .nil)))
    (.cons (.whl false (.cmp .gt (.var 1) (.cst (.int 0))) (.cons (.par 0 1 (.var 1) (.bin .mod (.var 0) (.var 1)))
    .nil))
    (.cons (.ret (.var 0))
    .nil)))

def f__law_poly : MF where
  name := "_law_poly"
  np := 2
  names := ["_law_m", "_law_numbers", "_law_found", "_law_number_here"]
  body := (.cons (.set 2 (.lc (.bin .mod (.var 3) (.var 0)) (.one 3) (.seq (.var 1)) .nil [("_law_number_here", 3)]))
    (.cons (.whl false (.andd (.cmp .ne (.var 2) (.frz (.lst .nil))) (.cmp .eq (.ix (.var 2) (.neg (.cst (.int 1)))) (.cst (.int 0)))) (.cons (.ex (.mth .pop (.var 2) .nil))
    .nil))
    (.cons (.ret (.blt .tuple (.cons (.var 2) .nil)))
    .nil)))

def f__law_value : MF where
  name := "_law_value"
  np := 3
  names := ["_law_m", "_law_f", "_law_x", "_law_found", "_law_coefficient"]
  body := (.cons (.set 3 (.cst (.int 0)))
    (.cons (.forr false (.one 4) (.seq (.frz (.revL (.var 1)))) (.cons (.set 3 (.bin .mod (.bin .add (.bin .mul (.var 3) (.var 2)) (.var 4)) (.var 0)))
    .nil))
    (.cons (.ret (.var 3))
    .nil)))

def f__law_number : MF where
  name := "_law_number"
  np := 1
  names := ["_law_feed_here", "_law_menu"]
  body := (.cons (.set 1 (.frz (.lst (.cons (.cst (.int 2)) (.cons (.cst (.int 3)) (.cons (.cst (.int 4)) (.cons (.cst (.int 5)) (.cons (.cst (.int 6)) (.cons (.cst (.int 7)) (.cons (.cst (.int 8)) (.cons (.cst (.int 9)) (.cons (.cst (.int 10)) (.cons (.cst (.int 11)) (.cons (.cst (.int 12)) (.cons (.cst (.int 13)) (.cons (.cst (.int 14)) (.cons (.cst (.int 15)) (.cons (.cst (.int 16)) (.cons (.cst (.int 18)) (.cons (.cst (.int 20)) (.cons (.cst (.int 24)) (.cons (.cst (.int 25)) (.cons (.cst (.int 27)) (.cons (.cst (.int 32)) (.cons (.cst (.int 36)) (.cons (.cst (.int 49)) (.cons (.cst (.int 64)) .nil)))))))))))))))))))))))))))
    (.cons (.ret (.ix (.var 1) (.call "_law_draw" (.cons (.var 0) (.cons (.cst (.int 24)) .nil)))))
    .nil))

def f__law_great : MF where
  name := "_law_great"
  np := 1
  names := ["_law_feed_here", "_law_m", "_law_k", "_law_p", "_law_j"]
  body := (.cons (.set 1 (.cst (.int 1)))
    (.cons (.forr false (.one 2) (.rng (.cons (.bin .add (.cst (.int 1)) (.call "_law_draw" (.cons (.var 0) (.cons (.cst (.int 4)) .nil)))) .nil)) (.cons (.set 3 (.ix (.frz (.lst (.cons (.cst (.int 2)) (.cons (.cst (.int 3)) (.cons (.cst (.int 5)) (.cons (.cst (.int 7)) (.cons (.cst (.int 2)) (.cons (.cst (.int 3)) (.cons (.cst (.int 11)) (.cons (.cst (.int 13)) (.cons (.cst (.int 31)) (.cons (.cst (.int 97)) (.cons (.cst (.int 89)) (.cons (.cst (.int 5)) .nil)))))))))))))) (.call "_law_draw" (.cons (.var 0) (.cons (.cst (.int 12)) .nil)))))
    (.cons (.forr false (.one 4) (.rng (.cons (.bin .add (.cst (.int 1)) (.ix (.frz (.lst (.cons (.cst (.int 0)) (.cons (.cst (.int 1)) (.cons (.cst (.int 0)) (.cons (.cst (.int 2)) (.cons (.cst (.int 3)) (.cons (.cst (.int 7)) .nil)))))))) (.call "_law_draw" (.cons (.var 0) (.cons (.cst (.int 6)) .nil))))) .nil)) (.cons (.iff (.cmp .le (.bin .mul (.var 1) (.var 3)) (.bin .pow (.cst (.int 10)) (.cst (.int 18)))) (.cons (.set 1 (.bin .mul (.var 1) (.var 3)))
    .nil) .nil)
    .nil))
    .nil)))
    (.cons (.ret (.var 1))
    .nil)))

def f__law_power_of : MF where
  name := "_law_power_of"
  np := 2
  names := ["_law_p", "_law_many", "_law_found", "_law_k"]
  body := (.cons (.set 2 (.cst (.int 1)))
    (.cons (.forr false (.one 3) (.rng (.cons (.var 1) .nil)) (.cons (.set 2 (.bin .mul (.var 2) (.var 0)))
    .nil))
    (.cons (.ret (.var 2))
    .nil)))

def f__law_all_unlike : MF where
  name := "_law_all_unlike"
  np := 2
  names := ["_law_m", "_law_f", "_law_x"]
  body := (.cons (.ret (.cmp .eq (.lenSet (.frz (.lc (.call "_law_value" (.cons (.var 0) (.cons (.var 1) (.cons (.var 2) .nil)))) (.one 2) (.rng (.cons (.var 0) .nil)) .nil [("_law_x", 2)]))) (.var 0)))
    .nil)

def f__law_line_right : MF where
  name := "_law_line_right"
  np := 1
  names := ["_law_feed_here", "_law_m", "_law_more", "_law_f", "_law_due"]
  body := (.cons (.set 1 (.ite (.cmp .eq (.call "_law_draw" (.cons (.var 0) (.cons (.cst (.int 2)) .nil))) (.cst (.int 0))) (.call "_law_number" (.cons (.var 0) .nil)) (.call "_law_great" (.cons (.var 0) .nil))))
    (.cons (.set 2 (.call "_law_draw" (.cons (.var 0) (.cons (.var 1) .nil))))
    (.cons (.iff (.cmp .eq (.call "_law_draw" (.cons (.var 0) (.cons (.cst (.int 3)) .nil))) (.cst (.int 0))) (.cons (.set 2 (.ix (.frz (.lst (.cons (.cst (.int 0)) (.cons (.cst (.int 1)) (.cons (.bin .sub (.var 1) (.cst (.int 1))) (.cons (.bin .fdiv (.var 1) (.cst (.int 2))) (.cons (.bin .mod (.cst (.int 2)) (.var 1)) (.cons (.bin .mod (.cst (.int 3)) (.var 1)) .nil)))))))) (.call "_law_draw" (.cons (.var 0) (.cons (.cst (.int 6)) .nil)))))
    .nil) .nil)
    (.cons (.set 3 (.call "_law_poly" (.cons (.var 1) (.cons (.frz (.lst (.cons (.call "_law_draw" (.cons (.var 0) (.cons (.var 1) .nil))) (.cons (.var 2) .nil)))) .nil))))
    (.cons (.set 4 (.andd (.cmp .ne (.var 2) (.cst (.int 0))) (.cmp .eq (.call "_law_common" (.cons (.var 2) (.cons (.var 1) .nil))) (.cst (.int 1)))))
    (.cons (.iff (.cmp .ne (.blt .repr (.cons (.call "shuffles_line" (.cons (.var 1) (.cons (.var 3) .nil))) .nil)) (.blt .repr (.cons (.var 4) .nil))) (.cons (.ret (.cst (.bool false)))
    .nil) .nil)
    (.cons (.ret (.orr (.cmp .gt (.var 1) (.cst (.int 64))) (.cmp .eq (.call "_law_all_unlike" (.cons (.var 1) (.cons (.var 3) .nil))) (.var 4))))
    .nil)))))))

def f__law_power_right : MF where
  name := "_law_power_right"
  np := 1
  names := ["_law_feed_here", "_law_p", "_law_n", "_law_due"]
  body := (.cons (.set 1 (.ix (.frz (.lst (.cons (.cst (.int 2)) (.cons (.cst (.int 3)) (.cons (.cst (.int 5)) (.cons (.cst (.int 7)) (.cons (.cst (.int 11)) (.cons (.cst (.int 13)) (.cons (.cst (.int 17)) (.cons (.cst (.int 31)) (.cons (.cst (.int 41)) (.cons (.cst (.int 997)) (.cons (.cst (.int 9973)) (.cons (.cst (.int 37)) .nil)))))))))))))) (.call "_law_draw" (.cons (.var 0) (.cons (.cst (.int 12)) .nil)))))
    (.cons (.set 2 (.ix (.frz (.lst (.cons (.bin .add (.cst (.int 1)) (.call "_law_draw" (.cons (.var 0) (.cons (.cst (.int 40)) .nil)))) (.cons (.bin .sub (.bin .pow (.cst (.int 10)) (.cst (.int 9))) (.call "_law_draw" (.cons (.var 0) (.cons (.cst (.int 1000)) .nil)))) (.cons (.bin .add (.cst (.int 1)) (.call "_law_draw" (.cons (.var 0) (.cons (.bin .pow (.cst (.int 10)) (.cst (.int 9))) .nil)))) .nil))))) (.call "_law_draw" (.cons (.var 0) (.cons (.cst (.int 3)) .nil)))))
    (.cons (.set 3 (.cmp .eq (.call "_law_common" (.cons (.var 2) (.cons (.bin .sub (.var 1) (.cst (.int 1))) .nil))) (.cst (.int 1))))
    (.cons (.iff (.cmp .ne (.blt .repr (.cons (.call "shuffles_power" (.cons (.var 1) (.cons (.var 2) .nil))) .nil)) (.blt .repr (.cons (.var 3) .nil))) (.cons (.ret (.cst (.bool false)))
    .nil) .nil)
    (.cons (.ret (.orr (.cmp .gt (.var 2) (.cst (.int 40))) (.orr (.cmp .gt (.var 1) (.cst (.int 41))) (.cmp .eq (.call "_law_all_unlike" (.cons (.var 1) (.cons (.bin .add (.bin .mul (.tup (.cons (.cst (.int 0)) .nil)) (.var 2)) (.tup (.cons (.cst (.int 1)) .nil))) .nil))) (.var 3)))))
    .nil)))))

def f__law_twos_right : MF where
  name := "_law_twos_right"
  np := 1
  names := ["_law_feed_here", "_law_n", "_law_m", "_law_row", "_law_k", "_law_f", "_law_due"]
  body := (.cons (.set 1 (.ix (.frz (.lst (.cons (.cst (.int 2)) (.cons (.cst (.int 3)) (.cons (.cst (.int 4)) (.cons (.cst (.int 5)) (.cons (.cst (.int 6)) (.cons (.cst (.int 59)) (.cons (.bin .add (.cst (.int 2)) (.call "_law_draw" (.cons (.var 0) (.cons (.cst (.int 58)) .nil)))) (.cons (.cst (.int 2)) .nil)))))))))) (.call "_law_draw" (.cons (.var 0) (.cons (.cst (.int 8)) .nil)))))
    (.cons (.set 2 (.call "_law_power_of" (.cons (.cst (.int 2)) (.cons (.var 1) .nil))))
    (.cons (.set 3 (.lc (.call "_law_draw" (.cons (.var 0) (.cons (.var 2) .nil))) (.one 4) (.rng (.cons (.call "_law_draw" (.cons (.var 0) (.cons (.cst (.int 14)) .nil))) .nil)) .nil [("_law_k", 4)]))
    (.cons (.iff (.andd (.cmp .gt (.blt .len (.cons (.var 3) .nil)) (.cst (.int 4))) (.cmp .gt (.call "_law_draw" (.cons (.var 0) (.cons (.cst (.int 3)) .nil))) (.cst (.int 0)))) (.cons (.setI (.var 3) (.cst (.int 1)) (.bin .add (.bin .sub (.ix (.var 3) (.cst (.int 1))) (.bin .mod (.ix (.var 3) (.cst (.int 1))) (.cst (.int 2)))) (.cst (.int 1))))
    (.cons (.setI (.var 3) (.cst (.int 2)) (.bin .mod (.bin .add (.ix (.var 3) (.cst (.int 2))) (.bin .mod (.blt .sum (.cons (.frz (.alt 2 (.var 3))) .nil)) (.cst (.int 2)))) (.var 2)))
    (.cons (.setI (.var 3) (.cst (.int 3)) (.bin .mod (.bin .add (.ix (.var 3) (.cst (.int 3))) (.bin .mod (.blt .sum (.cons (.frz (.alt 3 (.var 3))) .nil)) (.cst (.int 2)))) (.var 2)))
    .nil))) .nil)
    (.cons (.set 5 (.call "_law_poly" (.cons (.var 2) (.cons (.var 3) .nil))))
    (.cons (.set 6 (.andd (.cmp .gt (.blt .len (.cons (.var 5) .nil)) (.cst (.int 1))) (.andd (.cmp .eq (.bin .mod (.ix (.var 5) (.cst (.int 1))) (.cst (.int 2))) (.cst (.int 1))) (.andd (.cmp .eq (.bin .mod (.blt .sum (.cons (.frz (.alt 2 (.var 5))) .nil)) (.cst (.int 2))) (.cst (.int 0))) (.cmp .eq (.bin .mod (.blt .sum (.cons (.frz (.alt 3 (.var 5))) .nil)) (.cst (.int 2))) (.cst (.int 0)))))))
    (.cons (.iff (.cmp .ne (.blt .repr (.cons (.call "shuffles_twos" (.cons (.var 1) (.cons (.var 5) .nil))) .nil)) (.blt .repr (.cons (.var 6) .nil))) (.cons (.ret (.cst (.bool false)))
    .nil) .nil)
    (.cons (.ret (.orr (.cmp .gt (.var 1) (.cst (.int 6))) (.cmp .eq (.call "_law_all_unlike" (.cons (.var 2) (.cons (.var 5) .nil))) (.var 6))))
    .nil))))))))

def f_law : MF where
  name := "law"
  np := 1
  names := ["_law_script", "_law_feed_here", "_law_k"]
  body := (.cons (.set 1 (.call "_law_feed" (.cons (.var 0) .nil)))
    (.cons (.forr false (.one 2) (.rng (.cons (.cst (.int 4)) .nil)) (.cons (.iff (.orr (.nott (.call "_law_line_right" (.cons (.var 1) .nil))) (.orr (.nott (.call "_law_power_right" (.cons (.var 1) .nil))) (.nott (.call "_law_twos_right" (.cons (.var 1) .nil))))) (.cons (.ret (.cst (.bool false)))
    .nil) .nil)
    .nil))
    (.cons (.ret (.cst (.bool true)))
    .nil)))

structure Tab (T : List MF) : Prop where
  t_common : findF T "common" = some f_common
  t_shuffles_line : findF T "shuffles_line" = some f_shuffles_line
  t_shuffles_power : findF T "shuffles_power" = some f_shuffles_power
  t_shuffles_twos : findF T "shuffles_twos" = some f_shuffles_twos
  t__law_feed : findF T "_law_feed" = some f__law_feed
  t__law_draw : findF T "_law_draw" = some f__law_draw
  t__law_common : findF T "_law_common" = some f__law_common
  t__law_poly : findF T "_law_poly" = some f__law_poly
  t__law_value : findF T "_law_value" = some f__law_value
  t__law_number : findF T "_law_number" = some f__law_number
  t__law_great : findF T "_law_great" = some f__law_great
  t__law_power_of : findF T "_law_power_of" = some f__law_power_of
  t__law_all_unlike : findF T "_law_all_unlike" = some f__law_all_unlike
  t__law_line_right : findF T "_law_line_right" = some f__law_line_right
  t__law_power_right : findF T "_law_power_right" = some f__law_power_right
  t__law_twos_right : findF T "_law_twos_right" = some f__law_twos_right
  t_law : findF T "law" = some f_law
end Law
end
section
set_option Elab.async false
set_option linter.all false
set_option maxRecDepth 100000
set_option pp.maxSteps 1200
set_option maxHeartbeats 2000000
set_option exponentiation.threshold 3000
namespace Law
open PySem Mini
local macro_rules | `(tactic| walk_at "d") => `(tactic| ((try dsimp only [X1, Xs1, I1, S1, Ss1, List.getElem?_cons_zero, List.getElem?_cons_succ, List.set_cons_zero, List.set_cons_succ, setAll, id, List.cons_append, List.nil_append, wipeE]); (try simp only [wSeqI_l, wSeqI_t, wSeqI_r, wSeqI_s, wLstI_l, wLstI_r, lstW_l, lstW_r, seqW_l, seqW_t, seqW_r, datW_d, datW_r, datW_s, wHd_set, lenW_s, lenW_z, lenW_l, lenW_t, lenW_r, wRev_t, wRev_l, wRev_r, wAlt_t, wAlt_l, wAlt_r, wTru_n, wTru_b, wTru_i, wTru_z, wTru_l, wTru_t, wTru_r, wIx_s, wIx_z, wIx_l, wIx_t, wIx_r, wSl_t, wSl_l, wSl_r, wAdd_ii, wAdd_tt, wAdd_zz, wAdd_ll, wAdd_lr, wAdd_rl, wAdd_rr, wMul_ii, wMul_li, wMul_ti, wSub_ii, wFdv_ii, wMod_ii, wPow_ii, wNeg_i, wEq_ii, wEq_zz, wEq_nn, wEq_nb, wEq_ni, wEq_nz, wEq_nl, wEq_nt, wEq_nr, wEq_bn, wEq_bb, wEq_bi, wEq_bz, wEq_bl, wEq_bt, wEq_br, wEq_in, wEq_ib, wEq_iz, wEq_il, wEq_it, wEq_ir, wEq_zn, wEq_zb, wEq_zi, wEq_zl, wEq_zt, wEq_zr, wEq_ln, wEq_lb, wEq_li, wEq_lz, wEq_ll, wEq_lt, wEq_lr, wEq_tn, wEq_tb, wEq_ti, wEq_tz, wEq_tl, wEq_tt, wEq_tr, wEq_rn, wEq_rb, wEq_ri, wEq_rz, wEq_rl, wEq_sl, wEq_rt, wEq_rr, wNe_ii, wNe_zz, wNe_nn, wNe_nb, wNe_ni, wNe_nz, wNe_nl, wNe_nt, wNe_nr, wNe_bn, wNe_bb, wNe_bi, wNe_bz, wNe_bl, wNe_bt, wNe_br, wNe_in, wNe_ib, wNe_iz, wNe_il, wNe_it, wNe_ir, wNe_zn, wNe_zb, wNe_zi, wNe_zl, wNe_zt, wNe_zr, wNe_ln, wNe_lb, wNe_li, wNe_lz, wNe_ll, wNe_lt, wNe_lr, wNe_tn, wNe_tb, wNe_ti, wNe_tz, wNe_tl, wNe_tt, wNe_tr, wNe_rn, wNe_rb, wNe_ri, wNe_rz, wNe_rl, wNe_rt, wNe_rr, wLt_ii, wLe_ii, wGt_ii, wGe_ii, wInn_, wNin_, inW_l, inW_t, inW_r, inW_m, wIx_m, wIs_mn, wB_sorted, wB_max1, wSetI_m, wLenSet_e, wSrtSet_e, wDgetD_e, wIdx_e, wIs_nn, wIs_bn, wIs_in, wIs_zn, wIs_ln, wIs_tn, wIs_rn, wIs_sn, wIs_bb, wB_len, wB_abs, wB_int, wB_intb, wB_max, wB_min, wB_tuple, wB_list, wB_repr, wB_stri, wB_strz, wB_all, wB_any, wB_sum, wSl_s, wM_popAt, wM_clear, wM_reverse, wM_app, wM_pop, wM_ext, wRng_1, wRng_2, wRng_3, wRrg_1, wRrg_2, wRgv_1, wRgv_2, wBound_0, wBound_1, wIsi_i, wIsi_b, wIsi_n, wIsi_z, wIsi_l, wIsi_t, wIsi_r, tgW_1, tgW_2, ntt, nff, ite_tt, ite_ff, newL_e, wFrz_e, retW_e, gdOk_n, gdOk_s, id_eq, ite_T, ite_F, dec_T, dec_F, ty_int_none, ty_int_bool, ty_int_int, ty_int_str, ty_int_list, ty_int_tuple, ty_bool_none, ty_bool_bool, ty_bool_int, ty_bool_str, ty_bool_list, ty_bool_tuple, ty_tuple_none, ty_tuple_bool, ty_tuple_int, ty_tuple_str, ty_tuple_list, ty_tuple_tuple, ty_list_none, ty_list_bool, ty_list_int, ty_list_str, ty_list_list, ty_list_tuple, ty_str_none, ty_str_bool, ty_str_int, ty_str_str, ty_str_list, ty_str_tuple])))
local macro_rules | `(tactic| walk_at "m1") => `(tactic| first
  | ((with_reducible refine' toX ?mok ?_); (case mok => rfl); walk_at "d")
  | ((with_reducible refine toXs ?_); walk_at "d")
  | ((with_reducible refine toSs ?_); walk_at "d")
  | ((with_reducible refine' toS ?mok ?_); (case mok => rfl); walk_at "d")
  | ((with_reducible refine toI ?_); walk_at "d")
  | ((with_reducible refine toT0 ?_); walk_at "d")
  | ((with_reducible refine toT1 ?_); walk_at "d")
  | ((with_reducible refine' wTup_at ?mok ?_); (case mok => rfl); walk_at "d")
  | ((with_reducible refine' wLst_at ?mok ?_); (case mok => rfl); walk_at "d"))
local macro_rules | `(tactic| walk_at "m") => `(tactic| (walk_at "d"; repeat walk_at "m1"))
local macro_rules | `(tactic| walk_at "wd") => `(tactic| ((try dsimp only [X1, Xs1, I1, S1, Ss1, List.getElem?_cons_zero, List.getElem?_cons_succ, List.set_cons_zero, List.set_cons_succ, setAll, id, List.cons_append, List.nil_append, wipeE]); (try simp only [X1, Xs1, I1, S1, Ss1, List.getElem?_cons_zero, List.getElem?_cons_succ, List.set_cons_zero, List.set_cons_succ, setAll, id, List.cons_append, List.nil_append, wipeE]); (try simp only [wSeqI_l, wSeqI_t, wSeqI_r, wSeqI_s, wLstI_l, wLstI_r, lstW_l, lstW_r, seqW_l, seqW_t, seqW_r, datW_d, datW_r, datW_s, wHd_set, lenW_s, lenW_z, lenW_l, lenW_t, lenW_r, wRev_t, wRev_l, wRev_r, wAlt_t, wAlt_l, wAlt_r, wTru_n, wTru_b, wTru_i, wTru_z, wTru_l, wTru_t, wTru_r, wIx_s, wIx_z, wIx_l, wIx_t, wIx_r, wSl_t, wSl_l, wSl_r, wAdd_ii, wAdd_tt, wAdd_zz, wAdd_ll, wAdd_lr, wAdd_rl, wAdd_rr, wMul_ii, wMul_li, wMul_ti, wSub_ii, wFdv_ii, wMod_ii, wPow_ii, wNeg_i, wEq_ii, wEq_zz, wEq_nn, wEq_nb, wEq_ni, wEq_nz, wEq_nl, wEq_nt, wEq_nr, wEq_bn, wEq_bb, wEq_bi, wEq_bz, wEq_bl, wEq_bt, wEq_br, wEq_in, wEq_ib, wEq_iz, wEq_il, wEq_it, wEq_ir, wEq_zn, wEq_zb, wEq_zi, wEq_zl, wEq_zt, wEq_zr, wEq_ln, wEq_lb, wEq_li, wEq_lz, wEq_ll, wEq_lt, wEq_lr, wEq_tn, wEq_tb, wEq_ti, wEq_tz, wEq_tl, wEq_tt, wEq_tr, wEq_rn, wEq_rb, wEq_ri, wEq_rz, wEq_rl, wEq_sl, wEq_rt, wEq_rr, wNe_ii, wNe_zz, wNe_nn, wNe_nb, wNe_ni, wNe_nz, wNe_nl, wNe_nt, wNe_nr, wNe_bn, wNe_bb, wNe_bi, wNe_bz, wNe_bl, wNe_bt, wNe_br, wNe_in, wNe_ib, wNe_iz, wNe_il, wNe_it, wNe_ir, wNe_zn, wNe_zb, wNe_zi, wNe_zl, wNe_zt, wNe_zr, wNe_ln, wNe_lb, wNe_li, wNe_lz, wNe_ll, wNe_lt, wNe_lr, wNe_tn, wNe_tb, wNe_ti, wNe_tz, wNe_tl, wNe_tt, wNe_tr, wNe_rn, wNe_rb, wNe_ri, wNe_rz, wNe_rl, wNe_rt, wNe_rr, wLt_ii, wLe_ii, wGt_ii, wGe_ii, wInn_, wNin_, inW_l, inW_t, inW_r, inW_m, wIx_m, wIs_mn, wB_sorted, wB_max1, wSetI_m, wLenSet_e, wSrtSet_e, wDgetD_e, wIdx_e, wIs_nn, wIs_bn, wIs_in, wIs_zn, wIs_ln, wIs_tn, wIs_rn, wIs_sn, wIs_bb, wB_len, wB_abs, wB_int, wB_intb, wB_max, wB_min, wB_tuple, wB_list, wB_repr, wB_stri, wB_strz, wB_all, wB_any, wB_sum, wSl_s, wM_popAt, wM_clear, wM_reverse, wM_app, wM_pop, wM_ext, wRng_1, wRng_2, wRng_3, wRrg_1, wRrg_2, wRgv_1, wRgv_2, wBound_0, wBound_1, wIsi_i, wIsi_b, wIsi_n, wIsi_z, wIsi_l, wIsi_t, wIsi_r, tgW_1, tgW_2, ntt, nff, ite_tt, ite_ff, newL_e, wFrz_e, retW_e, gdOk_n, gdOk_s, id_eq, ite_T, ite_F, dec_T, dec_F, ty_int_none, ty_int_bool, ty_int_int, ty_int_str, ty_int_list, ty_int_tuple, ty_bool_none, ty_bool_bool, ty_bool_int, ty_bool_str, ty_bool_list, ty_bool_tuple, ty_tuple_none, ty_tuple_bool, ty_tuple_int, ty_tuple_str, ty_tuple_list, ty_tuple_tuple, ty_list_none, ty_list_bool, ty_list_int, ty_list_str, ty_list_list, ty_list_tuple, ty_str_none, ty_str_bool, ty_str_int, ty_str_str, ty_str_list, ty_str_tuple, bne_ff, bne_ft, bne_tf, bne_tt, bne_fb, bne_tb, iL_len, take_all, take_set, take_app, take_setapp, take_app2, take_app3, List.set_set, set_new, eqv_nilI, eqv_nilL, eqv_tup, eqv_lis, List.append_nil, ne_same, iL_snoc, iL_app, rep_one, Option.isSome_some, Option.isSome_none])))
local macro_rules | `(tactic| walk_at "ws") => `(tactic| first
  | omega
  | exact in62_of (by omega) (by omega)
  | exact ⟨in62_of (by omega) (by omega), in62_of (by omega) (by omega)⟩
  | exact ⟨in62_of (by omega) (by omega), in62_of (by omega) (by omega), by omega⟩
  | exact mulOk_l (by omega)
  | exact rep1_ok' (by omega) (by omega)
  | exact rep1_ok' b2i_nn (Int.le_trans b2i_le (by decide))
  | exact ⟨by simp, by omega, by omega, by simp⟩
  | exact mulOk_r (by omega)
  | exact ⟨by omega, log9 (by omega) (by omega)⟩
  | exact ⟨(by first | exact sh_tup | exact sh_lis | exact sh_nil | exact sh_nill | exact sh_int _ | rfl), (by first | exact sh_tup | exact sh_lis | exact sh_nil | exact sh_nill | exact sh_int _ | rfl)⟩
  | (simp only [List.length_append, List.length_replicate, List.length_singleton, List.length_cons, List.length_nil, iL_len, rgL_n]; omega)
  | exact fun _ => trivial
  | exact fun _ => get_old (by assumption)
  | exact fun _ => get_old get_new
  | assumption
  | rfl
  | decide)
local macro_rules | `(tactic| walk_at "w1") => `(tactic| first
  | ((with_reducible refine' toX ?mok ?_); (case mok => rfl); walk_at "wd")
  | ((with_reducible refine toXs ?_); walk_at "wd")
  | ((with_reducible refine toSs ?_); walk_at "wd")
  | ((with_reducible refine' toS ?mok ?_); (case mok => rfl); walk_at "wd")
  | ((with_reducible refine toI ?_); walk_at "wd")
  | ((with_reducible refine toT0 ?_); walk_at "wd")
  | ((with_reducible refine toT1 ?_); walk_at "wd")
  | ((with_reducible refine' wTup_at ?mok ?_); (case mok => rfl); walk_at "wd")
  | ((with_reducible refine' wLst_at ?mok ?_); (case mok => rfl); walk_at "wd")
  | ((with_reducible refine' frz_at ?mok ?mok2 ?_); (case mok => first | rfl | simp); (case mok2 => first | rfl | simp); walk_at "wd")
  | ((with_reducible refine' cell_at ?mok ?_); (case mok => first | exact get_new | assumption | exact get_c | exact getL rfl | exact get_old get_c | exact get_old (getL rfl) | exact get_set (by assumption) | exact get_newL (by simp) | exact get_old get_new | exact get_old (by assumption) | exact get_old (get_set (by assumption)) | exact get_old (get_old get_new)); walk_at "wd")
  | ((with_reducible refine' dct_at ?mok ?_); (case mok => first | exact get_new | assumption | exact get_c | exact getL rfl | exact get_old get_c | exact get_old (getL rfl) | exact get_set (by assumption) | exact get_newL (by simp) | exact get_old get_new | exact get_old (by assumption) | exact get_old (get_set (by assumption)) | exact get_old (get_old get_new)); walk_at "wd")
  | ((with_reducible refine' if_yes ?mok ?_); (case mok => omega); walk_at "wd")
  | ((with_reducible refine' if_no ?mok ?_); (case mok => omega); walk_at "wd")
  | ((with_reducible refine' ifn_yes ?mok ?_); (case mok => omega); walk_at "wd")
  | ((with_reducible refine' ifn_no ?mok ?_); (case mok => omega); walk_at "wd")
  | ((with_reducible refine' at_lit ?mok ?_); (case mok => rfl); walk_at "wd")
  | ((with_reducible refine' at_int ?mok ?mok2 ?_); (case mok => decide); (case mok2 => rfl); walk_at "wd")
  | ((with_reducible refine' wRaise_of ?mok ?mok2 ?mok3 ?_); (case mok => rfl); (case mok2 => rfl); (case mok3 => decide); walk_at "wd")
  | ((with_reducible refine' And.intro ?mok ?_); (case mok => walk_at "ws"); walk_at "wd"))
local macro_rules | `(tactic| walk_at "hn") => `(tactic| simp only [List.append_assoc, List.cons_append, List.nil_append, len_c1, len_c2, len_c3, len_c4, len_c5, len_c6, set_c, setL, List.set_cons_succ, List.set_cons_zero, take_c1])
local macro_rules | `(tactic| walk_at "w") => `(tactic| (walk_at "wd"; repeat walk_at "w1"))
local macro_rules | `(tactic| walk_at "wi") => `(tactic| (walk_at "wd"; repeat ((fail_if_success (with_reducible refine' isIff ?_)); walk_at "w1")))
variable {T : List MF} {k : Nat} {h : MH} {Q : MQ} {E : ME}
/-! a difference's quotient, and when it is odd -/
def uP : List Int → Int → Int → Int
  | [], _, _ => 0
  | _ :: g, x, y => ev x g + y * uP g x y
theorem uP_eq (x y : Int) : ∀ f : List Int, ev x f - ev y f = uP f x y * (x - y)
  | [] => by simp [ev, uP]
  | c :: g => by
    have e := uP_eq x y g
    show c + x * ev x g - (c + y * ev y g) = (ev x g + y * uP g x y) * (x - y)
    rw [Int.add_mul, Int.mul_assoc, ← e, Int.mul_sub, Int.mul_sub, Int.mul_comm (ev x g) x, Int.mul_comm (ev x g) y]
    omega
theorem ev_two {x y : Int} (f : List Int) (h : x % 2 = y % 2) : ev x f % 2 = ev y f % 2 := ev_modx h
theorem uP_two {x y x' y' : Int} (hx : x % 2 = x' % 2) (hy : y % 2 = y' % 2) : ∀ f : List Int, uP f x y % 2 = uP f x' y' % 2
  | [] => rfl
  | c :: g => by
    have e := uP_two hx hy g
    have e1 := ev_two g hx
    show (ev x g + y * uP g x y) % 2 = (ev x' g + y' * uP g x' y') % 2
    rw [Int.add_emod, Int.mul_emod, e, e1, hy, ← Int.mul_emod, ← Int.add_emod]
def sE (r : List Int) : Int := (alt r).sum
def sO (r : List Int) : Int := (alt (r.drop 1)).sum
theorem alt_cons (c : Int) (r : List Int) : alt (c :: r) = c :: alt (r.drop 1) := by
  cases r with
  | nil => rfl
  | cons d r => rfl
theorem sE_cons {c : Int} {r : List Int} : sE (c :: r) = c + sO r := by unfold sE sO; rw [alt_cons, List.sum_cons]
theorem sO_cons {c : Int} {r : List Int} : sO (c :: r) = sE r := rfl
theorem ev_one : ∀ r : List Int, ev 1 r = sE r + sO r
  | [] => rfl
  | c :: r => by
    show c + 1 * ev 1 r = _
    rw [ev_one r, sE_cons, sO_cons]; omega
theorem ev_nil0 {f : List Int} : ev 0 f = f.headD 0 := by
  cases f with
  | nil => rfl
  | cons c g => show c + 0 * ev 0 g = c; omega
theorem uP_11 : ∀ f : List Int, uP f 1 1 % 2 = sO f % 2
  | [] => rfl
  | c :: g => by
    have e := uP_11 g
    show (ev 1 g + 1 * uP g 1 1) % 2 = sE g % 2
    rw [ev_one]
    omega
/-- odd, even, even -/
def Twos (f : List Int) : Prop := 1 < f.length ∧ co f 1 % 2 = 1 ∧ (alt (f.drop 2)).sum % 2 = 0 ∧ (alt (f.drop 3)).sum % 2 = 0
instance (f : List Int) : Decidable (Twos f) := inferInstanceAs (Decidable (_ ∧ _ ∧ _ ∧ _))
theorem twos_cons {c d : Int} {r : List Int} : Twos (c :: d :: r) ↔ d % 2 = 1 ∧ sE r % 2 = 0 ∧ sO r % 2 = 0 := by
  unfold Twos sE sO
  constructor
  · rintro ⟨-, h1, h2, h3⟩; exact ⟨h1, h2, h3⟩
  · rintro ⟨h1, h2, h3⟩; exact ⟨by simp, h1, h2, h3⟩
theorem uP_odd {f : List Int} (h : Twos f) (x y : Int) : uP f x y % 2 = 1 := by
  match f, h with
  | c :: d :: r, h =>
    obtain ⟨h1, h2, h3⟩ := twos_cons.mp h
    have hx : x % 2 = 0 % 2 ∨ x % 2 = 1 % 2 := by omega
    have hy : y % 2 = 0 % 2 ∨ y % 2 = 1 % 2 := by omega
    have h11 := uP_11 (c :: d :: r)
    rw [sO_cons, sE_cons] at h11
    have e1 : ev 1 (d :: r) = d + (sE r + sO r) := by rw [ev_one, sE_cons, sO_cons]; omega
    have e0 : ev 0 (d :: r) = d := ev_nil0
    have h10 : uP (c :: d :: r) 1 0 = d + (sE r + sO r) := by
      show ev 1 (d :: r) + 0 * uP (d :: r) 1 0 = _
      rw [e1]; omega
    have h00 : uP (c :: d :: r) 0 0 = d := by
      show ev 0 (d :: r) + 0 * uP (d :: r) 0 0 = _
      rw [e0]; omega
    have h01 : uP (c :: d :: r) 0 1 % 2 = (d + (sE r + sO r)) % 2 := by
      have q1 := uP_eq 1 0 (c :: d :: r)
      have q2 := uP_eq 0 1 (c :: d :: r)
      have : uP (c :: d :: r) 0 1 = uP (c :: d :: r) 1 0 := by omega
      rw [this, h10]
    rcases hx with hx | hx <;> rcases hy with hy | hy <;> rw [uP_two hx hy] <;> omega
  | [], h => exact absurd h.1 (by simp)
  | [c], h => exact absurd h.1 (by simp)
theorem gcd_two_pow {u : Int} (h : u % 2 = 1) (n : Nat) : Int.gcd u ((2 ^ n : Nat) : Int) = 1 := by
  have h1 : Int.gcd u 2 = 1 := by
    rw [show u = 1 + 2 * (u / 2) by omega, Int.gcd_add_mul_left_left]
    exact Int.one_gcd
  have h2 := Int.gcd_pow_right_of_gcd_eq_one (k := n) h1
  rw [show ((2 ^ n : Nat) : Int) = (2 : Int) ^ n from by rw [Int.natCast_pow]; rfl]
  exact h2
theorem inj_down {m d : Nat} {f : List Int} (m0 : 0 < m) (hd : d ∣ m) (h : InjP m f) : InjP d f := by
  obtain ⟨C, hC⟩ := undo_ex m0 h
  intro x y hx hy e
  have k1 := hC.1 x
  have k2 := hC.1 y
  have hd' : (d : Int) ∣ (m : Int) := Int.natCast_dvd_natCast.mpr hd
  have e1 : ev (ev (x : Int) f) C % d = ev (ev (y : Int) f) C % d := ev_modx e
  have e2 : (x : Int) % d = ev (ev (x : Int) f) C % d := by
    rw [← Int.emod_emod_of_dvd _ hd', ← Int.emod_emod_of_dvd (ev _ C) hd', k1]
  have e3 : (y : Int) % d = ev (ev (y : Int) f) C % d := by
    rw [← Int.emod_emod_of_dvd _ hd', ← Int.emod_emod_of_dvd (ev _ C) hd', k2]
  have e4 : (x : Int) % d = (y : Int) % d := by rw [e2, e3, e1]
  rw [Int.emod_eq_of_lt (by omega) (by omega), Int.emod_eq_of_lt (by omega) (by omega)] at e4
  omega
theorem twos_inj {n : Nat} (hn : 2 ≤ n) {f : List Int} : InjP (2 ^ n) f ↔ Twos f := by
  constructor
  · intro h
    have m0 : 0 < 2 ^ n := Nat.pow_pos (by decide)
    have h4 : InjP 4 f := inj_down m0 (by
      obtain ⟨k, rfl⟩ : ∃ k, n = 2 + k := ⟨n - 2, by omega⟩
      rw [Nat.pow_add]; exact Nat.dvd_mul_right ..) h
    have h2 : InjP 2 f := inj_down (by decide) (by decide) h4
    have q10 : uP f 1 0 % 2 ≠ 0 := fun z => by
      have e := uP_eq 1 0 f
      have := h2 0 1 (by decide) (by decide) (by
        show ev 0 f % 2 = ev 1 f % 2
        omega)
      omega
    have q20 : uP f 0 0 % 2 ≠ 0 := fun z => by
      have e := uP_eq 2 0 f
      have e2 := uP_two (x := 2) (y := 0) (x' := 0) (y' := 0) rfl rfl f
      have := h4 0 2 (by decide) (by decide) (by
        show ev 0 f % 4 = ev 2 f % 4
        omega)
      omega
    have q31 : uP f 1 1 % 2 ≠ 0 := fun z => by
      have e := uP_eq 3 1 f
      have e2 := uP_two (x := 3) (y := 1) (x' := 1) (y' := 1) rfl rfl f
      have := h4 1 3 (by decide) (by decide) (by
        show ev 1 f % 4 = ev 3 f % 4
        omega)
      omega
    match f, q10, q20, q31 with
    | [], q, _, _ => exact absurd rfl q
    | [c], q, _, _ => exact absurd (by show (0 + 0 * 0 : Int) % 2 = 0; decide) q
    | c :: d :: r, q10, q00, q11 =>
      have h11 := uP_11 (c :: d :: r)
      rw [sO_cons, sE_cons] at h11
      have e1 : ev 1 (d :: r) = d + (sE r + sO r) := by rw [ev_one, sE_cons, sO_cons]; omega
      have e0 : ev 0 (d :: r) = d := ev_nil0
      have h10 : uP (c :: d :: r) 1 0 = d + (sE r + sO r) := by
        show ev 1 (d :: r) + 0 * uP (d :: r) 1 0 = _
        rw [e1]; omega
      have h00 : uP (c :: d :: r) 0 0 = d := by
        show ev 0 (d :: r) + 0 * uP (d :: r) 0 0 = _
        rw [e0]; omega
      exact twos_cons.mpr ⟨by omega, by omega, by omega⟩
  · intro h
    exact inj_of (u := uP f) (fun x y => uP_eq x y f) fun x y => gcd_two_pow (uP_odd h x y) n
/-! lines -/
theorem inj_line_iff {m : Nat} (m0 : 2 ≤ m) {a b : Int} : InjP m [b, a] ↔ Int.gcd a m = 1 := by
  refine ⟨fun h => ?_, inj_line⟩
  rcases Nat.eq_zero_or_pos (Int.gcd a m - 1) with z | z
  · have : Int.gcd a m ≠ 0 := fun e => by rw [Int.gcd_eq_zero_iff] at e; omega
    omega
  · exfalso
    obtain ⟨a', ha⟩ := Int.gcd_dvd_left (a := a) (b := (m : Int))
    obtain ⟨k, hk⟩ : Int.gcd a m ∣ m := Int.natCast_dvd_natCast.mp (Int.gcd_dvd_right (a := a) (b := (m : Int)))
    have g2 : 2 ≤ Int.gcd a m := by omega
    generalize Int.gcd a m = g at ha hk g2
    have k0 : 0 < k := Nat.pos_of_ne_zero fun e => by subst e; omega
    have km : k < m := by
      have : 2 * k ≤ g * k := Nat.mul_le_mul_right k g2
      omega
    have := h 0 k (by omega) km (by
      show (b + ((0 : Nat) : Int) * (a + ((0 : Nat) : Int) * 0)) % m = (b + (k : Int) * (a + (k : Int) * 0)) % m
      have e : (k : Int) * a = m * a' := by
        rw [ha, hk, Int.natCast_mul, ← Int.mul_assoc, Int.mul_comm (k : Int) g]
      simp only [Int.mul_zero, Int.add_zero]
      rw [e, Int.add_mul_emod_self_left]
      congr 1
      omega)
    omega
theorem inj_cut {m : Nat} (m0 : 0 < m) {f : List Int} : InjP m (cut m f) ↔ InjP m f := by
  constructor
  · intro h x y hx hy e
    exact h x y hx hy (by rw [ev_eqM eqM_cut, ev_eqM eqM_cut]; exact e)
  · intro h x y hx hy e
    rw [ev_eqM eqM_cut, ev_eqM eqM_cut] at e
    exact h x y hx hy e
/-! powers -/
def pr43 : List Nat := [2, 3, 5, 7, 11, 13, 17, 31, 41, 37]
def tab43 : Bool := pr43.all fun p => (List.range 41).all fun n => decide (n = 0) || (if Nat.gcd n (p - 1) = 1 then powOk p n else (List.range p).any fun x => decide (2 ≤ x) && x ^ n % p == 1)
theorem tab43_ok : tab43 = true := by decide +kernel
theorem power43 {p n : Nat} (hp : p ∈ pr43) (h0 : 1 ≤ n) (hn : n ≤ 40) {f : List Int} (e : ∀ x : Int, ev x f = x ^ n) : InjP p f ↔ Nat.gcd n (p - 1) = 1 := by
  have t := List.all_eq_true.mp (List.all_eq_true.mp tab43_ok p hp) n (List.mem_range.mpr (by omega))
  rw [decide_eq_false (by omega : ¬ n = 0), Bool.false_or] at t
  constructor
  · intro h
    by_cases g : Nat.gcd n (p - 1) = 1
    · exact g
    · exfalso
      rw [if_neg g] at t
      obtain ⟨x, hx, hq⟩ := List.any_eq_true.mp t
      rw [Bool.and_eq_true, decide_eq_true_eq, beq_iff_eq] at hq
      have xp := List.mem_range.mp hx
      have := h x 1 xp (by omega) (by
        rw [e, e, show ((1 : Nat) : Int) ^ n = 1 from Int.one_pow, show (x : Int) ^ n % p = ((x ^ n % p : Nat) : Int) by rw [Int.natCast_emod, Int.natCast_pow], hq.2]
        rw [show (1 : Int) % p = 1 from Int.emod_eq_of_lt (by decide) (by omega)]; rfl)
      omega
  · intro g
    rw [if_pos g] at t
    exact inj_pow (a := 1) (b := 0) t (Int.one_gcd) fun x => by rw [e]; omega
end Law
end
section
set_option Elab.async false
set_option linter.all false
set_option maxRecDepth 100000
set_option pp.maxSteps 1200
set_option maxHeartbeats 2000000
set_option exponentiation.threshold 3000
namespace Law
open PySem Mini
local macro_rules | `(tactic| walk_at "d") => `(tactic| ((try dsimp only [X1, Xs1, I1, S1, Ss1, List.getElem?_cons_zero, List.getElem?_cons_succ, List.set_cons_zero, List.set_cons_succ, setAll, id, List.cons_append, List.nil_append, wipeE]); (try simp only [wSeqI_l, wSeqI_t, wSeqI_r, wSeqI_s, wLstI_l, wLstI_r, lstW_l, lstW_r, seqW_l, seqW_t, seqW_r, datW_d, datW_r, datW_s, wHd_set, lenW_s, lenW_z, lenW_l, lenW_t, lenW_r, wRev_t, wRev_l, wRev_r, wAlt_t, wAlt_l, wAlt_r, wTru_n, wTru_b, wTru_i, wTru_z, wTru_l, wTru_t, wTru_r, wIx_s, wIx_z, wIx_l, wIx_t, wIx_r, wSl_t, wSl_l, wSl_r, wAdd_ii, wAdd_tt, wAdd_zz, wAdd_ll, wAdd_lr, wAdd_rl, wAdd_rr, wMul_ii, wMul_li, wMul_ti, wSub_ii, wFdv_ii, wMod_ii, wPow_ii, wNeg_i, wEq_ii, wEq_zz, wEq_nn, wEq_nb, wEq_ni, wEq_nz, wEq_nl, wEq_nt, wEq_nr, wEq_bn, wEq_bb, wEq_bi, wEq_bz, wEq_bl, wEq_bt, wEq_br, wEq_in, wEq_ib, wEq_iz, wEq_il, wEq_it, wEq_ir, wEq_zn, wEq_zb, wEq_zi, wEq_zl, wEq_zt, wEq_zr, wEq_ln, wEq_lb, wEq_li, wEq_lz, wEq_ll, wEq_lt, wEq_lr, wEq_tn, wEq_tb, wEq_ti, wEq_tz, wEq_tl, wEq_tt, wEq_tr, wEq_rn, wEq_rb, wEq_ri, wEq_rz, wEq_rl, wEq_sl, wEq_rt, wEq_rr, wNe_ii, wNe_zz, wNe_nn, wNe_nb, wNe_ni, wNe_nz, wNe_nl, wNe_nt, wNe_nr, wNe_bn, wNe_bb, wNe_bi, wNe_bz, wNe_bl, wNe_bt, wNe_br, wNe_in, wNe_ib, wNe_iz, wNe_il, wNe_it, wNe_ir, wNe_zn, wNe_zb, wNe_zi, wNe_zl, wNe_zt, wNe_zr, wNe_ln, wNe_lb, wNe_li, wNe_lz, wNe_ll, wNe_lt, wNe_lr, wNe_tn, wNe_tb, wNe_ti, wNe_tz, wNe_tl, wNe_tt, wNe_tr, wNe_rn, wNe_rb, wNe_ri, wNe_rz, wNe_rl, wNe_rt, wNe_rr, wLt_ii, wLe_ii, wGt_ii, wGe_ii, wInn_, wNin_, inW_l, inW_t, inW_r, inW_m, wIx_m, wIs_mn, wB_sorted, wB_max1, wSetI_m, wLenSet_e, wSrtSet_e, wDgetD_e, wIdx_e, wIs_nn, wIs_bn, wIs_in, wIs_zn, wIs_ln, wIs_tn, wIs_rn, wIs_sn, wIs_bb, wB_len, wB_abs, wB_int, wB_intb, wB_max, wB_min, wB_tuple, wB_list, wB_repr, wB_stri, wB_strz, wB_all, wB_any, wB_sum, wSl_s, wM_popAt, wM_clear, wM_reverse, wM_app, wM_pop, wM_ext, wRng_1, wRng_2, wRng_3, wRrg_1, wRrg_2, wRgv_1, wRgv_2, wBound_0, wBound_1, wIsi_i, wIsi_b, wIsi_n, wIsi_z, wIsi_l, wIsi_t, wIsi_r, tgW_1, tgW_2, ntt, nff, ite_tt, ite_ff, newL_e, wFrz_e, retW_e, gdOk_n, gdOk_s, id_eq, ite_T, ite_F, dec_T, dec_F, ty_int_none, ty_int_bool, ty_int_int, ty_int_str, ty_int_list, ty_int_tuple, ty_bool_none, ty_bool_bool, ty_bool_int, ty_bool_str, ty_bool_list, ty_bool_tuple, ty_tuple_none, ty_tuple_bool, ty_tuple_int, ty_tuple_str, ty_tuple_list, ty_tuple_tuple, ty_list_none, ty_list_bool, ty_list_int, ty_list_str, ty_list_list, ty_list_tuple, ty_str_none, ty_str_bool, ty_str_int, ty_str_str, ty_str_list, ty_str_tuple])))
local macro_rules | `(tactic| walk_at "m1") => `(tactic| first
  | ((with_reducible refine' toX ?mok ?_); (case mok => rfl); walk_at "d")
  | ((with_reducible refine toXs ?_); walk_at "d")
  | ((with_reducible refine toSs ?_); walk_at "d")
  | ((with_reducible refine' toS ?mok ?_); (case mok => rfl); walk_at "d")
  | ((with_reducible refine toI ?_); walk_at "d")
  | ((with_reducible refine toT0 ?_); walk_at "d")
  | ((with_reducible refine toT1 ?_); walk_at "d")
  | ((with_reducible refine' wTup_at ?mok ?_); (case mok => rfl); walk_at "d")
  | ((with_reducible refine' wLst_at ?mok ?_); (case mok => rfl); walk_at "d"))
local macro_rules | `(tactic| walk_at "m") => `(tactic| (walk_at "d"; repeat walk_at "m1"))
local macro_rules | `(tactic| walk_at "wd") => `(tactic| ((try dsimp only [X1, Xs1, I1, S1, Ss1, List.getElem?_cons_zero, List.getElem?_cons_succ, List.set_cons_zero, List.set_cons_succ, setAll, id, List.cons_append, List.nil_append, wipeE]); (try simp only [X1, Xs1, I1, S1, Ss1, List.getElem?_cons_zero, List.getElem?_cons_succ, List.set_cons_zero, List.set_cons_succ, setAll, id, List.cons_append, List.nil_append, wipeE]); (try simp only [wSeqI_l, wSeqI_t, wSeqI_r, wSeqI_s, wLstI_l, wLstI_r, lstW_l, lstW_r, seqW_l, seqW_t, seqW_r, datW_d, datW_r, datW_s, wHd_set, lenW_s, lenW_z, lenW_l, lenW_t, lenW_r, wRev_t, wRev_l, wRev_r, wAlt_t, wAlt_l, wAlt_r, wTru_n, wTru_b, wTru_i, wTru_z, wTru_l, wTru_t, wTru_r, wIx_s, wIx_z, wIx_l, wIx_t, wIx_r, wSl_t, wSl_l, wSl_r, wAdd_ii, wAdd_tt, wAdd_zz, wAdd_ll, wAdd_lr, wAdd_rl, wAdd_rr, wMul_ii, wMul_li, wMul_ti, wSub_ii, wFdv_ii, wMod_ii, wPow_ii, wNeg_i, wEq_ii, wEq_zz, wEq_nn, wEq_nb, wEq_ni, wEq_nz, wEq_nl, wEq_nt, wEq_nr, wEq_bn, wEq_bb, wEq_bi, wEq_bz, wEq_bl, wEq_bt, wEq_br, wEq_in, wEq_ib, wEq_iz, wEq_il, wEq_it, wEq_ir, wEq_zn, wEq_zb, wEq_zi, wEq_zl, wEq_zt, wEq_zr, wEq_ln, wEq_lb, wEq_li, wEq_lz, wEq_ll, wEq_lt, wEq_lr, wEq_tn, wEq_tb, wEq_ti, wEq_tz, wEq_tl, wEq_tt, wEq_tr, wEq_rn, wEq_rb, wEq_ri, wEq_rz, wEq_rl, wEq_sl, wEq_rt, wEq_rr, wNe_ii, wNe_zz, wNe_nn, wNe_nb, wNe_ni, wNe_nz, wNe_nl, wNe_nt, wNe_nr, wNe_bn, wNe_bb, wNe_bi, wNe_bz, wNe_bl, wNe_bt, wNe_br, wNe_in, wNe_ib, wNe_iz, wNe_il, wNe_it, wNe_ir, wNe_zn, wNe_zb, wNe_zi, wNe_zl, wNe_zt, wNe_zr, wNe_ln, wNe_lb, wNe_li, wNe_lz, wNe_ll, wNe_lt, wNe_lr, wNe_tn, wNe_tb, wNe_ti, wNe_tz, wNe_tl, wNe_tt, wNe_tr, wNe_rn, wNe_rb, wNe_ri, wNe_rz, wNe_rl, wNe_rt, wNe_rr, wLt_ii, wLe_ii, wGt_ii, wGe_ii, wInn_, wNin_, inW_l, inW_t, inW_r, inW_m, wIx_m, wIs_mn, wB_sorted, wB_max1, wSetI_m, wLenSet_e, wSrtSet_e, wDgetD_e, wIdx_e, wIs_nn, wIs_bn, wIs_in, wIs_zn, wIs_ln, wIs_tn, wIs_rn, wIs_sn, wIs_bb, wB_len, wB_abs, wB_int, wB_intb, wB_max, wB_min, wB_tuple, wB_list, wB_repr, wB_stri, wB_strz, wB_all, wB_any, wB_sum, wSl_s, wM_popAt, wM_clear, wM_reverse, wM_app, wM_pop, wM_ext, wRng_1, wRng_2, wRng_3, wRrg_1, wRrg_2, wRgv_1, wRgv_2, wBound_0, wBound_1, wIsi_i, wIsi_b, wIsi_n, wIsi_z, wIsi_l, wIsi_t, wIsi_r, tgW_1, tgW_2, ntt, nff, ite_tt, ite_ff, newL_e, wFrz_e, retW_e, gdOk_n, gdOk_s, id_eq, ite_T, ite_F, dec_T, dec_F, ty_int_none, ty_int_bool, ty_int_int, ty_int_str, ty_int_list, ty_int_tuple, ty_bool_none, ty_bool_bool, ty_bool_int, ty_bool_str, ty_bool_list, ty_bool_tuple, ty_tuple_none, ty_tuple_bool, ty_tuple_int, ty_tuple_str, ty_tuple_list, ty_tuple_tuple, ty_list_none, ty_list_bool, ty_list_int, ty_list_str, ty_list_list, ty_list_tuple, ty_str_none, ty_str_bool, ty_str_int, ty_str_str, ty_str_list, ty_str_tuple, bne_ff, bne_ft, bne_tf, bne_tt, bne_fb, bne_tb, iL_len, take_all, take_set, take_app, take_setapp, take_app2, take_app3, List.set_set, set_new, eqv_nilI, eqv_nilL, eqv_tup, eqv_lis, List.append_nil, ne_same, iL_snoc, iL_app, rep_one, Option.isSome_some, Option.isSome_none])))
local macro_rules | `(tactic| walk_at "ws") => `(tactic| first
  | omega
  | exact in62_of (by omega) (by omega)
  | exact ⟨in62_of (by omega) (by omega), in62_of (by omega) (by omega)⟩
  | exact ⟨in62_of (by omega) (by omega), in62_of (by omega) (by omega), by omega⟩
  | exact mulOk_l (by omega)
  | exact rep1_ok' (by omega) (by omega)
  | exact rep1_ok' b2i_nn (Int.le_trans b2i_le (by decide))
  | exact ⟨by simp, by omega, by omega, by simp⟩
  | exact mulOk_r (by omega)
  | exact ⟨by omega, log9 (by omega) (by omega)⟩
  | exact ⟨(by first | exact sh_tup | exact sh_lis | exact sh_nil | exact sh_nill | exact sh_int _ | rfl), (by first | exact sh_tup | exact sh_lis | exact sh_nil | exact sh_nill | exact sh_int _ | rfl)⟩
  | (simp only [List.length_append, List.length_replicate, List.length_singleton, List.length_cons, List.length_nil, iL_len, rgL_n]; omega)
  | exact fun _ => trivial
  | exact fun _ => get_old (by assumption)
  | exact fun _ => get_old get_new
  | assumption
  | rfl
  | decide)
local macro_rules | `(tactic| walk_at "w1") => `(tactic| first
  | ((with_reducible refine' toX ?mok ?_); (case mok => rfl); walk_at "wd")
  | ((with_reducible refine toXs ?_); walk_at "wd")
  | ((with_reducible refine toSs ?_); walk_at "wd")
  | ((with_reducible refine' toS ?mok ?_); (case mok => rfl); walk_at "wd")
  | ((with_reducible refine toI ?_); walk_at "wd")
  | ((with_reducible refine toT0 ?_); walk_at "wd")
  | ((with_reducible refine toT1 ?_); walk_at "wd")
  | ((with_reducible refine' wTup_at ?mok ?_); (case mok => rfl); walk_at "wd")
  | ((with_reducible refine' wLst_at ?mok ?_); (case mok => rfl); walk_at "wd")
  | ((with_reducible refine' frz_at ?mok ?mok2 ?_); (case mok => first | rfl | simp); (case mok2 => first | rfl | simp); walk_at "wd")
  | ((with_reducible refine' cell_at ?mok ?_); (case mok => first | exact get_new | assumption | exact get_c | exact getL rfl | exact get_old get_c | exact get_old (getL rfl) | exact get_set (by assumption) | exact get_newL (by simp) | exact get_old get_new | exact get_old (by assumption) | exact get_old (get_set (by assumption)) | exact get_old (get_old get_new)); walk_at "wd")
  | ((with_reducible refine' dct_at ?mok ?_); (case mok => first | exact get_new | assumption | exact get_c | exact getL rfl | exact get_old get_c | exact get_old (getL rfl) | exact get_set (by assumption) | exact get_newL (by simp) | exact get_old get_new | exact get_old (by assumption) | exact get_old (get_set (by assumption)) | exact get_old (get_old get_new)); walk_at "wd")
  | ((with_reducible refine' if_yes ?mok ?_); (case mok => omega); walk_at "wd")
  | ((with_reducible refine' if_no ?mok ?_); (case mok => omega); walk_at "wd")
  | ((with_reducible refine' ifn_yes ?mok ?_); (case mok => omega); walk_at "wd")
  | ((with_reducible refine' ifn_no ?mok ?_); (case mok => omega); walk_at "wd")
  | ((with_reducible refine' at_lit ?mok ?_); (case mok => rfl); walk_at "wd")
  | ((with_reducible refine' at_int ?mok ?mok2 ?_); (case mok => decide); (case mok2 => rfl); walk_at "wd")
  | ((with_reducible refine' wRaise_of ?mok ?mok2 ?mok3 ?_); (case mok => rfl); (case mok2 => rfl); (case mok3 => decide); walk_at "wd")
  | ((with_reducible refine' And.intro ?mok ?_); (case mok => walk_at "ws"); walk_at "wd"))
local macro_rules | `(tactic| walk_at "hn") => `(tactic| simp only [List.append_assoc, List.cons_append, List.nil_append, len_c1, len_c2, len_c3, len_c4, len_c5, len_c6, set_c, setL, List.set_cons_succ, List.set_cons_zero, take_c1])
local macro_rules | `(tactic| walk_at "w") => `(tactic| (walk_at "wd"; repeat walk_at "w1"))
local macro_rules | `(tactic| walk_at "wi") => `(tactic| (walk_at "wd"; repeat ((fail_if_success (with_reducible refine' isIff ?_)); walk_at "w1")))
variable {T : List MF} {k : Nat} {h : MH} {Q : MQ} {E : ME}
def fdL (s : List Int) (a b c : Int) : List (PyData × PyData) := [(.str (Str.ofString "cells"), .list (iL s)), (.str (Str.ofString "at"), .int a), (.str (Str.ofString "left"), .int b), (.str (Str.ofString "turn"), .int c)]
theorem kk : keyIs (.str (Str.ofString "cells")) (.str (Str.ofString "cells")) = true ∧ keyIs (.str (Str.ofString "at")) (.str (Str.ofString "at")) = true ∧ keyIs (.str (Str.ofString "left")) (.str (Str.ofString "left")) = true ∧ keyIs (.str (Str.ofString "turn")) (.str (Str.ofString "turn")) = true := by decide +kernel
theorem kc : keyIs (.str (Str.ofString "cells")) (.str (Str.ofString "at")) = false ∧ keyIs (.str (Str.ofString "cells")) (.str (Str.ofString "left")) = false ∧ keyIs (.str (Str.ofString "cells")) (.str (Str.ofString "turn")) = false := by decide +kernel
theorem ka : keyIs (.str (Str.ofString "at")) (.str (Str.ofString "cells")) = false ∧ keyIs (.str (Str.ofString "at")) (.str (Str.ofString "left")) = false ∧ keyIs (.str (Str.ofString "at")) (.str (Str.ofString "turn")) = false := by decide +kernel
theorem kl : keyIs (.str (Str.ofString "left")) (.str (Str.ofString "cells")) = false ∧ keyIs (.str (Str.ofString "left")) (.str (Str.ofString "at")) = false ∧ keyIs (.str (Str.ofString "left")) (.str (Str.ofString "turn")) = false := by decide +kernel
theorem kt : keyIs (.str (Str.ofString "turn")) (.str (Str.ofString "cells")) = false ∧ keyIs (.str (Str.ofString "turn")) (.str (Str.ofString "at")) = false ∧ keyIs (.str (Str.ofString "turn")) (.str (Str.ofString "left")) = false := by decide +kernel
variable {s : List Int} {a b c z : Int}
theorem g_cells : dgetP (fdL s a b c) (.str (Str.ofString "cells")) = some (.list (iL s)) := by
  simp [dgetP, fdL, List.find?, kk.1]
theorem g_at : dgetP (fdL s a b c) (.str (Str.ofString "at")) = some (.int a) := by
  simp [dgetP, fdL, List.find?, kk.2.1, kc.1]
theorem g_left : dgetP (fdL s a b c) (.str (Str.ofString "left")) = some (.int b) := by
  simp [dgetP, fdL, List.find?, kk.2.2.1, kc.2.1, ka.2.1]
theorem g_turn : dgetP (fdL s a b c) (.str (Str.ofString "turn")) = some (.int c) := by
  simp [dgetP, fdL, List.find?, kk.2.2.2, kc.2.2, ka.2.2, kl.2.2]
theorem p_at : dputP (fdL s a b c) (.str (Str.ofString "at")) (.int z) = fdL s z b c := by
  simp [dputP, fdL, kk.2.1, kc.1, kl.2.1, kt.2.1]
theorem p_left : dputP (fdL s a b c) (.str (Str.ofString "left")) (.int z) = fdL s a z c := by
  simp [dputP, fdL, kk.2.2.1, kc.2.1, ka.2.1, kt.2.2]
theorem p_turn : dputP (fdL s a b c) (.str (Str.ofString "turn")) (.int z) = fdL s a b z := by
  simp [dputP, fdL, kk.2.2.2, kc.2.2, ka.2.2, kl.2.2]
theorem fdL_len : (fdL s a b c).length = 4 := rfl
def IsTape (n : Nat) (xs : MCell) : Prop := ∃ (s : List Int) (a c : Nat) (b : Int), a ≤ n ∧ c ≤ n ∧ xs = dcell false (fdL s a b c)
theorem IsTape.mono {n m : Nat} {xs : MCell} (h : IsTape n xs) (l : n ≤ m) : IsTape m xs := by
  obtain ⟨s, a, c, b, h1, h2, h3⟩ := h; exact ⟨s, a, c, b, Nat.le_trans h1 l, Nat.le_trans h2 l, h3⟩
theorem ret_newM {n : Nat} {h : MH} {t : Bool} {ps : List (PyData × PyData)} {Q : MQ} (e : h.length = n) (q : Q (.m n) (h ++ [dcell t ps])) : retW n Q (.m h.length) (h ++ [dcell t ps]) := by
  subst e
  unfold retW
  dsimp only
  rw [if_neg (Nat.lt_irrefl _)]
  refine cell_at get_new ?_
  rw [take_app]; exact q
theorem feed_spec (B : Tab T) (ns : List Int) (q : ∀ fd, IsTape 0 fd → Q (.m h.length) (h ++ [fd])) : wF T (k + 1) "_law_feed" [.s ns] h Q E := by
  refine toF B.t__law_feed rfl ?_
  simp only [f__law_feed, startE, List.map_cons, List.map_nil, List.length_cons, List.length_nil, Nat.reduceAdd, Nat.reduceSub, List.replicate_succ, List.replicate_zero, List.cons_append, List.nil_append]
  walk_at "m"
  obtain ⟨u, hu⟩ : ∃ u, cutD (ns.map PyData.int) none (some 63) = iL u := ⟨_, cutD_iL⟩
  rw [hu]
  refine frz_at ?_ ?_ ?_
  · simp
  · simp
  walk_at "m"
  refine frz_at ?_ ?_ ?_
  · simp
  · simp
  walk_at "m"
  unfold wDlit
  simp only [datas]
  refine ⟨⟨rfl, by decide +kernel⟩, ?_⟩
  rw [show List.foldl (fun ps (p : PyData × PyData) => dputP ps p.fst p.snd) [] ([PyData.str (Str.ofString "cells"), PyData.str (Str.ofString "at"), PyData.str (Str.ofString "left"), PyData.str (Str.ofString "turn")].zip [PyData.list (iL u), PyData.int 0, PyData.int 0, PyData.int 0]) = fdL u 0 0 0 by
    simp [fdL, dputP, kc.1, kc.2.1, kc.2.2, ka.2.1, ka.2.2, kl.2.2]]
  exact ret_newM rfl (q _ ⟨u, 0, 0, 0, Nat.le_refl _, Nat.le_refl _, rfl⟩)
theorem tdraw_spec (B : Tab T) (i : Nat) (m : Int) {n : Nat} {fd : MCell} (hi : h[i]? = some fd) (hf : IsTape n fd) (hn : n ≤ 10000000) (m0 : 0 < m) (ml : m ≤ 1000000000000000000000) (q : ∀ (r : Int) fd', 0 ≤ r → r < m → IsTape (n + 1) fd' → Q (.d (.int r)) (h.set i fd')) : wF T (k + 1) "_law_draw" [.m i, .d (.int m)] h Q E := by
  obtain ⟨s, a, c, b, ha, hc, rfl⟩ := hf
  refine toF B.t__law_draw rfl ?_
  simp only [f__law_draw, startE, List.map_cons, List.map_nil, List.length_cons, List.length_nil, Nat.reduceAdd, Nat.reduceSub, List.replicate_succ, List.replicate_zero, List.cons_append, List.nil_append]
  walk_at "m"
  refine dct_at hi ?_
  refine ⟨rfl, ?_⟩
  rw [g_turn]
  walk_at "m"
  refine dct_at hi ?_
  refine ⟨⟨rfl, by rw [fdL_len]; omega⟩, ?_⟩
  rw [p_turn]
  have hi1 := get_set (y := dcell false (fdL s a b ((c : Int) + 1))) hi
  walk_at "m"
  refine dct_at hi1 ?_
  refine ⟨rfl, ?_⟩
  rw [g_left]
  walk_at "m"
  refine ⟨m0, ?_⟩
  walk_at "m"
  refine dct_at hi1 ?_
  refine ⟨rfl, ?_⟩
  rw [g_left]
  walk_at "m"
  refine ite_dec (fun hb => ?_) (fun hb => ?_)
  · walk_at "m"
    refine dct_at hi1 ?_
    refine ⟨rfl, ?_⟩
    rw [g_left]
    walk_at "m"
    refine ⟨⟨m0, log9 (by omega) ml⟩, ?_⟩
    walk_at "m"
    refine dct_at hi1 ?_
    refine ⟨⟨rfl, by rw [fdL_len]; omega⟩, ?_⟩
    rw [p_left, List.set_set]
    walk_at "m"
    rw [take_set]
    exact q _ _ (Int.emod_nonneg _ (by omega)) (Int.emod_lt_of_pos _ m0) ⟨_, a, c + 1, _, by omega, by omega, by rw [Int.natCast_add]; rfl⟩
  walk_at "m"
  refine dct_at hi1 ?_
  refine ⟨rfl, ?_⟩
  rw [g_at]
  walk_at "m"
  refine dct_at hi1 ?_
  refine ⟨⟨rfl, by rw [fdL_len]; omega⟩, ?_⟩
  rw [p_at, List.set_set]
  have hi2 := get_set (y := dcell false (fdL s ((a : Int) + 1) b ((c : Int) + 1))) hi
  have fin : ∀ (y b' : Int), Q (.d (.int (y % m))) (h.set i (dcell false (fdL s ((a : Int) + 1) b' ((c : Int) + 1)))) := fun y b' =>
    q _ _ (Int.emod_nonneg _ (by omega)) (Int.emod_lt_of_pos _ m0) ⟨s, a + 1, c + 1, b', by omega, by omega, by rw [Int.natCast_add, Int.natCast_add]; rfl⟩
  have e18 : (10 : Int) ^ Int.toNat 18 = 1000000000000000000 := by decide +kernel
  walk_at "wi"
  refine iff_sts (α := Int) (fun z => [some (.m i), some (.d (.int m)), some (.d (.int (b % m))), some (.d (.int a)), some (.d (.int z)), none]) (fun _ => h.set i (dcell false (fdL s ((a : Int) + 1) b ((c : Int) + 1)))) (fun _ => True) ?_ ?_
  · walk_at "m"
    refine dct_at hi2 ?_
    refine ⟨rfl, ?_⟩
    rw [g_cells]
    walk_at "w"
    refine ite_decN (fun hs => ?_) (fun hs => ?_)
    · walk_at "m"
      refine dct_at hi2 ?_
      refine ⟨rfl, ?_⟩
      rw [g_cells]
      walk_at "m"
      refine dct_at hi2 ?_
      refine ⟨rfl, ?_⟩
      rw [g_cells]
      walk_at "m"
      rw [iL_len]
      have hsl := List.length_pos_iff.mpr hs
      refine ⟨by omega, ?_⟩
      have h1 := Int.emod_nonneg (a : Int) (show (s.length : Int) ≠ 0 by omega)
      have h2 := Int.emod_lt_of_pos (a : Int) (show (0 : Int) < s.length by omega)
      refine at_co (j := ((a : Int) % s.length).toNat) (by omega) (by omega) ?_
      walk_at "m"
      exact ⟨_, (by first | exact trivial | rfl), (by first | exact trivial | rfl), trivial⟩
    · walk_at "m"
      exact ⟨_, (by first | exact trivial | rfl), (by first | exact trivial | rfl), trivial⟩
  rintro z -
  have last : ∀ (k : Nat) (E : ME), wSs (wF T k) (fun x _ h' => E x (h'.take h.length)) (
    (.cons (.set 5 (.bin .mod (.bin .mul (.bin .add (.bin .add (.bin .mod (.var 4) (.cst (.int 2147483629))) (.bin .mul (.cst (.int 7919)) (.ix (.var 0) (.cst (.str (Str.ofString "turn")))))) (.bin .mul (.cst (.int 31)) (.var 3))) (.cst (.int 48271))) (.cst (.int 2147483647))))
    (.cons (.set 5 (.bin .mod (.bin .mul (.bin .add (.bin .fdiv (.var 5) (.cst (.int 64))) (.bin .mul (.cst (.int 6151)) (.ix (.var 0) (.cst (.str (Str.ofString "turn")))))) (.cst (.int 69621))) (.cst (.int 2147483587))))
    (.cons (.ret (.bin .mod (.bin .fdiv (.var 5) (.cst (.int 64))) (.var 1)))
    .nil)))) [some (.m i), some (.d (.int m)), some (.d (.int (b % m))), some (.d (.int a)), some (.d (.int z)), none] (h.set i (dcell false (fdL s ((a : Int) + 1) b ((c : Int) + 1)))) { nx := fun _ h' => Q (.d .none) (h'.take h.length), rt := retW h.length Q, bk := fun _ _ => False, ct := fun _ _ => False } := by
    intro k E
    walk_at "m"
    refine ⟨by decide, ?_⟩
    walk_at "m"
    refine dct_at hi2 ?_
    refine ⟨rfl, ?_⟩
    rw [g_turn]
    have hz := Int.emod_nonneg z (show (2147483629 : Int) ≠ 0 by decide)
    have hz2 := Int.emod_lt_of_pos z (show (0 : Int) < 2147483629 by decide)
    walk_at "w"
    rw [g_turn]
    have hy := Int.emod_nonneg ((z % 2147483629 + 7919 * ((c : Int) + 1) + 31 * (a : Int)) * 48271) (show (2147483647 : Int) ≠ 0 by decide)
    have hy2 := Int.emod_lt_of_pos ((z % 2147483629 + 7919 * ((c : Int) + 1) + 31 * (a : Int)) * 48271) (show (0 : Int) < 2147483647 by decide)
    walk_at "w"
    exact fin _ _
  walk_at "m"
  refine ⟨by decide, ?_⟩
  rw [e18]
  by_cases hz : 1000000000000000000 ≤ z
  · rw [decide_eq_true hz]
    walk_at "m"
    refine dct_at hi2 ?_
    refine ⟨rfl, ?_⟩
    rw [g_cells]
    walk_at "m"
    rw [iL_len]
    refine ite_dec (fun hl => ?_) (fun hl => ?_)
    · walk_at "m"
      refine ⟨⟨m0, log9 (by omega) ml⟩, ?_⟩
      walk_at "m"
      refine dct_at hi2 ?_
      refine ⟨⟨rfl, by rw [fdL_len]; omega⟩, ?_⟩
      rw [p_left, List.set_set]
      walk_at "m"
      refine ⟨m0, ?_⟩
      rw [take_set]
      exact fin _ _
    · exact last _ _
  · rw [decide_eq_false hz]
    exact last _ _
theorem lcommon_spec (B : Tab T) (a b : Int) (q : Q (.d (.int (Int.gcd a b : Int))) h) : wF T (k + 1) "_law_common" [.d (.int a), .d (.int b)] h Q E := by
  refine toF B.t__law_common rfl ?_
  simp only [f__law_common, startE, List.map_cons, List.map_nil, List.length_cons, List.length_nil, Nat.reduceAdd, Nat.reduceSub, List.replicate_succ, List.replicate_zero, List.cons_append, List.nil_append]
  walk_at "m"
  refine whl_st (α := Int × Int) (fun s => [some (.d (.int s.1)), some (.d (.int s.2))]) (fun _ => h) (fun s => 0 ≤ s.1 ∧ 0 ≤ s.2 ∧ Int.gcd s.1 s.2 = Int.gcd a b) (fun s => s.2.toNat) (iabs a, iabs b) rfl rfl ?_ ?_
  · refine ⟨iabs_nn, iabs_nn, ?_⟩
    rw [iabs_of, iabs_of]; rfl
  · rintro ⟨x, y⟩ ⟨h1, h2, h3⟩
    dsimp only at h1 h2 h3
    walk_at "m"
    refine ite_dec (fun hc => ?_) (fun hc => ?_)
    · walk_at "m"
      refine ⟨hc, ?_⟩
      walk_at "m"
      refine ⟨(y, x % y), rfl, rfl, ⟨h2, Int.emod_nonneg _ (by omega), ?_⟩, ?_⟩
      · exact (gcd_step h1 hc).trans h3
      · have := Int.emod_lt_of_pos x hc
        dsimp only
        omega
    · walk_at "m"
      have : y = 0 := by omega
      subst this
      rw [take_all]
      have e : (Int.gcd a b : Int) = x := by
        rw [← h3, Int.gcd_zero_right]; omega
      rw [e] at q
      exact q
theorem common_spec (B : Tab T) (a b : Int) (q : Q (.d (.int (Int.gcd a b : Int))) h) : wF T (k + 1) "common" [.d (.int a), .d (.int b)] h Q E := by
  refine toF B.t_common rfl ?_
  simp only [f_common, startE, List.map_cons, List.map_nil, List.length_cons, List.length_nil, Nat.reduceAdd, Nat.reduceSub, List.replicate_succ, List.replicate_zero, List.cons_append, List.nil_append]
  walk_at "m"
  refine whl_st (α := Int × Int × Option MV) (fun s => [some (.d (.int s.1)), some (.d (.int s.2.1)), s.2.2]) (fun _ => h) (fun s => 0 ≤ s.1 ∧ 0 ≤ s.2.1 ∧ Int.gcd s.1 s.2.1 = Int.gcd a b) (fun s => s.2.1.toNat) (iabs a, iabs b, none) rfl rfl ?_ ?_
  · refine ⟨iabs_nn, iabs_nn, ?_⟩
    rw [iabs_of, iabs_of]; rfl
  · rintro ⟨x, y, r⟩ ⟨h1, h2, h3⟩
    dsimp only at h1 h2 h3
    walk_at "m"
    refine ite_dec (fun hc => ?_) (fun hc => ?_)
    · walk_at "m"
      refine ⟨hc, ?_⟩
      walk_at "m"
      refine ⟨(y, x % y, some (.d (.int (x % y)))), rfl, rfl, ⟨h2, Int.emod_nonneg _ (by omega), ?_⟩, ?_⟩
      · exact (gcd_step h1 hc).trans h3
      · have := Int.emod_lt_of_pos x hc
        dsimp only
        omega
    · walk_at "m"
      have : y = 0 := by omega
      subst this
      rw [take_all]
      have e : (Int.gcd a b : Int) = x := by
        rw [← h3, Int.gcd_zero_right]; omega
      rw [e] at q
      exact q
end Law
end
section
set_option Elab.async false
set_option linter.all false
set_option maxRecDepth 100000
set_option pp.maxSteps 1200
set_option maxHeartbeats 2000000
set_option exponentiation.threshold 3000
namespace Law
open PySem Mini
local macro_rules | `(tactic| walk_at "d") => `(tactic| ((try dsimp only [X1, Xs1, I1, S1, Ss1, List.getElem?_cons_zero, List.getElem?_cons_succ, List.set_cons_zero, List.set_cons_succ, setAll, id, List.cons_append, List.nil_append, wipeE]); (try simp only [wSeqI_l, wSeqI_t, wSeqI_r, wSeqI_s, wLstI_l, wLstI_r, lstW_l, lstW_r, seqW_l, seqW_t, seqW_r, datW_d, datW_r, datW_s, wHd_set, lenW_s, lenW_z, lenW_l, lenW_t, lenW_r, wRev_t, wRev_l, wRev_r, wAlt_t, wAlt_l, wAlt_r, wTru_n, wTru_b, wTru_i, wTru_z, wTru_l, wTru_t, wTru_r, wIx_s, wIx_z, wIx_l, wIx_t, wIx_r, wSl_t, wSl_l, wSl_r, wAdd_ii, wAdd_tt, wAdd_zz, wAdd_ll, wAdd_lr, wAdd_rl, wAdd_rr, wMul_ii, wMul_li, wMul_ti, wSub_ii, wFdv_ii, wMod_ii, wPow_ii, wNeg_i, wEq_ii, wEq_zz, wEq_nn, wEq_nb, wEq_ni, wEq_nz, wEq_nl, wEq_nt, wEq_nr, wEq_bn, wEq_bb, wEq_bi, wEq_bz, wEq_bl, wEq_bt, wEq_br, wEq_in, wEq_ib, wEq_iz, wEq_il, wEq_it, wEq_ir, wEq_zn, wEq_zb, wEq_zi, wEq_zl, wEq_zt, wEq_zr, wEq_ln, wEq_lb, wEq_li, wEq_lz, wEq_ll, wEq_lt, wEq_lr, wEq_tn, wEq_tb, wEq_ti, wEq_tz, wEq_tl, wEq_tt, wEq_tr, wEq_rn, wEq_rb, wEq_ri, wEq_rz, wEq_rl, wEq_sl, wEq_rt, wEq_rr, wNe_ii, wNe_zz, wNe_nn, wNe_nb, wNe_ni, wNe_nz, wNe_nl, wNe_nt, wNe_nr, wNe_bn, wNe_bb, wNe_bi, wNe_bz, wNe_bl, wNe_bt, wNe_br, wNe_in, wNe_ib, wNe_iz, wNe_il, wNe_it, wNe_ir, wNe_zn, wNe_zb, wNe_zi, wNe_zl, wNe_zt, wNe_zr, wNe_ln, wNe_lb, wNe_li, wNe_lz, wNe_ll, wNe_lt, wNe_lr, wNe_tn, wNe_tb, wNe_ti, wNe_tz, wNe_tl, wNe_tt, wNe_tr, wNe_rn, wNe_rb, wNe_ri, wNe_rz, wNe_rl, wNe_rt, wNe_rr, wLt_ii, wLe_ii, wGt_ii, wGe_ii, wInn_, wNin_, inW_l, inW_t, inW_r, inW_m, wIx_m, wIs_mn, wB_sorted, wB_max1, wSetI_m, wLenSet_e, wSrtSet_e, wDgetD_e, wIdx_e, wIs_nn, wIs_bn, wIs_in, wIs_zn, wIs_ln, wIs_tn, wIs_rn, wIs_sn, wIs_bb, wB_len, wB_abs, wB_int, wB_intb, wB_max, wB_min, wB_tuple, wB_list, wB_repr, wB_stri, wB_strz, wB_all, wB_any, wB_sum, wSl_s, wM_popAt, wM_clear, wM_reverse, wM_app, wM_pop, wM_ext, wRng_1, wRng_2, wRng_3, wRrg_1, wRrg_2, wRgv_1, wRgv_2, wBound_0, wBound_1, wIsi_i, wIsi_b, wIsi_n, wIsi_z, wIsi_l, wIsi_t, wIsi_r, tgW_1, tgW_2, ntt, nff, ite_tt, ite_ff, newL_e, wFrz_e, retW_e, gdOk_n, gdOk_s, id_eq, ite_T, ite_F, dec_T, dec_F, ty_int_none, ty_int_bool, ty_int_int, ty_int_str, ty_int_list, ty_int_tuple, ty_bool_none, ty_bool_bool, ty_bool_int, ty_bool_str, ty_bool_list, ty_bool_tuple, ty_tuple_none, ty_tuple_bool, ty_tuple_int, ty_tuple_str, ty_tuple_list, ty_tuple_tuple, ty_list_none, ty_list_bool, ty_list_int, ty_list_str, ty_list_list, ty_list_tuple, ty_str_none, ty_str_bool, ty_str_int, ty_str_str, ty_str_list, ty_str_tuple])))
local macro_rules | `(tactic| walk_at "m1") => `(tactic| first
  | ((with_reducible refine' toX ?mok ?_); (case mok => rfl); walk_at "d")
  | ((with_reducible refine toXs ?_); walk_at "d")
  | ((with_reducible refine toSs ?_); walk_at "d")
  | ((with_reducible refine' toS ?mok ?_); (case mok => rfl); walk_at "d")
  | ((with_reducible refine toI ?_); walk_at "d")
  | ((with_reducible refine toT0 ?_); walk_at "d")
  | ((with_reducible refine toT1 ?_); walk_at "d")
  | ((with_reducible refine' wTup_at ?mok ?_); (case mok => rfl); walk_at "d")
  | ((with_reducible refine' wLst_at ?mok ?_); (case mok => rfl); walk_at "d"))
local macro_rules | `(tactic| walk_at "m") => `(tactic| (walk_at "d"; repeat walk_at "m1"))
local macro_rules | `(tactic| walk_at "wd") => `(tactic| ((try dsimp only [X1, Xs1, I1, S1, Ss1, List.getElem?_cons_zero, List.getElem?_cons_succ, List.set_cons_zero, List.set_cons_succ, setAll, id, List.cons_append, List.nil_append, wipeE]); (try simp only [X1, Xs1, I1, S1, Ss1, List.getElem?_cons_zero, List.getElem?_cons_succ, List.set_cons_zero, List.set_cons_succ, setAll, id, List.cons_append, List.nil_append, wipeE]); (try simp only [wSeqI_l, wSeqI_t, wSeqI_r, wSeqI_s, wLstI_l, wLstI_r, lstW_l, lstW_r, seqW_l, seqW_t, seqW_r, datW_d, datW_r, datW_s, wHd_set, lenW_s, lenW_z, lenW_l, lenW_t, lenW_r, wRev_t, wRev_l, wRev_r, wAlt_t, wAlt_l, wAlt_r, wTru_n, wTru_b, wTru_i, wTru_z, wTru_l, wTru_t, wTru_r, wIx_s, wIx_z, wIx_l, wIx_t, wIx_r, wSl_t, wSl_l, wSl_r, wAdd_ii, wAdd_tt, wAdd_zz, wAdd_ll, wAdd_lr, wAdd_rl, wAdd_rr, wMul_ii, wMul_li, wMul_ti, wSub_ii, wFdv_ii, wMod_ii, wPow_ii, wNeg_i, wEq_ii, wEq_zz, wEq_nn, wEq_nb, wEq_ni, wEq_nz, wEq_nl, wEq_nt, wEq_nr, wEq_bn, wEq_bb, wEq_bi, wEq_bz, wEq_bl, wEq_bt, wEq_br, wEq_in, wEq_ib, wEq_iz, wEq_il, wEq_it, wEq_ir, wEq_zn, wEq_zb, wEq_zi, wEq_zl, wEq_zt, wEq_zr, wEq_ln, wEq_lb, wEq_li, wEq_lz, wEq_ll, wEq_lt, wEq_lr, wEq_tn, wEq_tb, wEq_ti, wEq_tz, wEq_tl, wEq_tt, wEq_tr, wEq_rn, wEq_rb, wEq_ri, wEq_rz, wEq_rl, wEq_sl, wEq_rt, wEq_rr, wNe_ii, wNe_zz, wNe_nn, wNe_nb, wNe_ni, wNe_nz, wNe_nl, wNe_nt, wNe_nr, wNe_bn, wNe_bb, wNe_bi, wNe_bz, wNe_bl, wNe_bt, wNe_br, wNe_in, wNe_ib, wNe_iz, wNe_il, wNe_it, wNe_ir, wNe_zn, wNe_zb, wNe_zi, wNe_zl, wNe_zt, wNe_zr, wNe_ln, wNe_lb, wNe_li, wNe_lz, wNe_ll, wNe_lt, wNe_lr, wNe_tn, wNe_tb, wNe_ti, wNe_tz, wNe_tl, wNe_tt, wNe_tr, wNe_rn, wNe_rb, wNe_ri, wNe_rz, wNe_rl, wNe_rt, wNe_rr, wLt_ii, wLe_ii, wGt_ii, wGe_ii, wInn_, wNin_, inW_l, inW_t, inW_r, inW_m, wIx_m, wIs_mn, wB_sorted, wB_max1, wSetI_m, wLenSet_e, wSrtSet_e, wDgetD_e, wIdx_e, wIs_nn, wIs_bn, wIs_in, wIs_zn, wIs_ln, wIs_tn, wIs_rn, wIs_sn, wIs_bb, wB_len, wB_abs, wB_int, wB_intb, wB_max, wB_min, wB_tuple, wB_list, wB_repr, wB_stri, wB_strz, wB_all, wB_any, wB_sum, wSl_s, wM_popAt, wM_clear, wM_reverse, wM_app, wM_pop, wM_ext, wRng_1, wRng_2, wRng_3, wRrg_1, wRrg_2, wRgv_1, wRgv_2, wBound_0, wBound_1, wIsi_i, wIsi_b, wIsi_n, wIsi_z, wIsi_l, wIsi_t, wIsi_r, tgW_1, tgW_2, ntt, nff, ite_tt, ite_ff, newL_e, wFrz_e, retW_e, gdOk_n, gdOk_s, id_eq, ite_T, ite_F, dec_T, dec_F, ty_int_none, ty_int_bool, ty_int_int, ty_int_str, ty_int_list, ty_int_tuple, ty_bool_none, ty_bool_bool, ty_bool_int, ty_bool_str, ty_bool_list, ty_bool_tuple, ty_tuple_none, ty_tuple_bool, ty_tuple_int, ty_tuple_str, ty_tuple_list, ty_tuple_tuple, ty_list_none, ty_list_bool, ty_list_int, ty_list_str, ty_list_list, ty_list_tuple, ty_str_none, ty_str_bool, ty_str_int, ty_str_str, ty_str_list, ty_str_tuple, bne_ff, bne_ft, bne_tf, bne_tt, bne_fb, bne_tb, iL_len, take_all, take_set, take_app, take_setapp, take_app2, take_app3, List.set_set, set_new, eqv_nilI, eqv_nilL, eqv_tup, eqv_lis, List.append_nil, ne_same, iL_snoc, iL_app, rep_one, Option.isSome_some, Option.isSome_none])))
local macro_rules | `(tactic| walk_at "ws") => `(tactic| first
  | omega
  | exact in62_of (by omega) (by omega)
  | exact ⟨in62_of (by omega) (by omega), in62_of (by omega) (by omega)⟩
  | exact ⟨in62_of (by omega) (by omega), in62_of (by omega) (by omega), by omega⟩
  | exact mulOk_l (by omega)
  | exact rep1_ok' (by omega) (by omega)
  | exact rep1_ok' b2i_nn (Int.le_trans b2i_le (by decide))
  | exact ⟨by simp, by omega, by omega, by simp⟩
  | exact mulOk_r (by omega)
  | exact ⟨by omega, log9 (by omega) (by omega)⟩
  | exact ⟨(by first | exact sh_tup | exact sh_lis | exact sh_nil | exact sh_nill | exact sh_int _ | rfl), (by first | exact sh_tup | exact sh_lis | exact sh_nil | exact sh_nill | exact sh_int _ | rfl)⟩
  | (simp only [List.length_append, List.length_replicate, List.length_singleton, List.length_cons, List.length_nil, iL_len, rgL_n]; omega)
  | exact fun _ => trivial
  | exact fun _ => get_old (by assumption)
  | exact fun _ => get_old get_new
  | assumption
  | rfl
  | decide)
local macro_rules | `(tactic| walk_at "w1") => `(tactic| first
  | ((with_reducible refine' toX ?mok ?_); (case mok => rfl); walk_at "wd")
  | ((with_reducible refine toXs ?_); walk_at "wd")
  | ((with_reducible refine toSs ?_); walk_at "wd")
  | ((with_reducible refine' toS ?mok ?_); (case mok => rfl); walk_at "wd")
  | ((with_reducible refine toI ?_); walk_at "wd")
  | ((with_reducible refine toT0 ?_); walk_at "wd")
  | ((with_reducible refine toT1 ?_); walk_at "wd")
  | ((with_reducible refine' wTup_at ?mok ?_); (case mok => rfl); walk_at "wd")
  | ((with_reducible refine' wLst_at ?mok ?_); (case mok => rfl); walk_at "wd")
  | ((with_reducible refine' frz_at ?mok ?mok2 ?_); (case mok => first | rfl | simp); (case mok2 => first | rfl | simp); walk_at "wd")
  | ((with_reducible refine' cell_at ?mok ?_); (case mok => first | exact get_new | assumption | exact get_c | exact getL rfl | exact get_old get_c | exact get_old (getL rfl) | exact get_set (by assumption) | exact get_newL (by simp) | exact get_old get_new | exact get_old (by assumption) | exact get_old (get_set (by assumption)) | exact get_old (get_old get_new)); walk_at "wd")
  | ((with_reducible refine' dct_at ?mok ?_); (case mok => first | exact get_new | assumption | exact get_c | exact getL rfl | exact get_old get_c | exact get_old (getL rfl) | exact get_set (by assumption) | exact get_newL (by simp) | exact get_old get_new | exact get_old (by assumption) | exact get_old (get_set (by assumption)) | exact get_old (get_old get_new)); walk_at "wd")
  | ((with_reducible refine' if_yes ?mok ?_); (case mok => omega); walk_at "wd")
  | ((with_reducible refine' if_no ?mok ?_); (case mok => omega); walk_at "wd")
  | ((with_reducible refine' ifn_yes ?mok ?_); (case mok => omega); walk_at "wd")
  | ((with_reducible refine' ifn_no ?mok ?_); (case mok => omega); walk_at "wd")
  | ((with_reducible refine' at_lit ?mok ?_); (case mok => rfl); walk_at "wd")
  | ((with_reducible refine' at_int ?mok ?mok2 ?_); (case mok => decide); (case mok2 => rfl); walk_at "wd")
  | ((with_reducible refine' wRaise_of ?mok ?mok2 ?mok3 ?_); (case mok => rfl); (case mok2 => rfl); (case mok3 => decide); walk_at "wd")
  | ((with_reducible refine' And.intro ?mok ?_); (case mok => walk_at "ws"); walk_at "wd"))
local macro_rules | `(tactic| walk_at "hn") => `(tactic| simp only [List.append_assoc, List.cons_append, List.nil_append, len_c1, len_c2, len_c3, len_c4, len_c5, len_c6, set_c, setL, List.set_cons_succ, List.set_cons_zero, take_c1])
local macro_rules | `(tactic| walk_at "w") => `(tactic| (walk_at "wd"; repeat walk_at "w1"))
local macro_rules | `(tactic| walk_at "wi") => `(tactic| (walk_at "wd"; repeat ((fail_if_success (with_reducible refine' isIff ?_)); walk_at "w1")))
variable {T : List MF} {k : Nat} {h : MH} {Q : MQ} {E : ME}
theorem lpoly_spec (B : Tab T) (m : Int) (l : List Int) (v : MV) (hv : HasL h v l) (m0 : 0 < m) (hl : l.length ≤ 16777216) (q : Q (.d (.tuple (iL (cut m l)))) h) : wF T (k + 1) "_law_poly" [.d (.int m), v] h Q E := by
  refine toF B.t__law_poly rfl ?_
  simp only [f__law_poly, startE, List.map_cons, List.map_nil, List.length_cons, List.length_nil, Nat.reduceAdd, Nat.reduceSub, List.replicate_succ, List.replicate_zero, List.cons_append, List.nil_append]
  walk_at "m"
  refine lc_pure (mapF (· % m)) ?_
  walk_at "m"
  refine seqI_has hv fun g hg => ?_
  refine ⟨by rw [iL_len]; exact hl, fun _ => hg _, fun y hy acc => ?_, ?_⟩
  · obtain ⟨x, hx, rfl⟩ := iL_mem hy
    walk_at "m"
    exact ⟨m0, take1, rfl⟩
  rw [fm_mapI]
  walk_at "m"
  refine whl_st (α := List Int) (fun s => [some (.d (.int m)), some v, some (.r h.length), none]) (fun s => h ++ [iL s]) (fun s => trim s = cut m l) (fun s => s.length) (l.map (· % m)) rfl rfl rfl ?_
  intro s hs
  walk_at "m"
  refine frz_at ?_ ?_ ?_
  · simp
  · simp
  walk_at "m"
  refine cell_at get_new ?_
  rw [show PyData.list [] = .list (iL []) by rfl]
  walk_at "m"
  refine ⟨⟨sh_lis, sh_lis⟩, ?_⟩
  rw [eqv_lis]
  by_cases hc : s = []
  · subst hc
    rw [decide_eq_true rfl]
    walk_at "m"
    refine cell_at get_new ?_
    rw [take_app]
    rw [← hs] at q
    exact q
  · rw [decide_eq_false hc]
    obtain ⟨r, c, rfl⟩ := snoc_of hc
    walk_at "m"
    refine cell_at get_new (at_last ?_)
    walk_at "m"
    refine ite_dec (fun hd => ?_) (fun hd => ?_)
    · subst hd
      walk_at "m"
      refine cell_at get_new ?_
      rw [last_get]
      walk_at "m"
      rw [set_new, iL_drop]
      exact ⟨r, rfl, rfl, by rw [← hs, trim_snoc0], by simp⟩
    · walk_at "m"
      refine cell_at get_new ?_
      rw [take_app]
      rw [← hs, trim_snoc hd] at q
      exact q
theorem lvalue_spec (B : Tab T) (m : Int) (l : List Int) (x : Int) (m0 : 0 < m) (hm : m < 9223372036854775808) (q : Q (.d (.int (ev x l % m))) h) : wF T (k + 1) "_law_value" [.d (.int m), .d (.tuple (iL l)), .d (.int x)] h Q E := by
  refine toF B.t__law_value rfl ?_
  simp only [f__law_value, startE, List.map_cons, List.map_nil, List.length_cons, List.length_nil, Nat.reduceAdd, Nat.reduceSub, List.replicate_succ, List.replicate_zero, List.cons_append, List.nil_append]
  walk_at "m"
  refine for_st (α := List Int × Option MV) (fun s => [some (.d (.int m)), some (.d (.tuple (iL l))), some (.d (.int x)), some (.d (.int (horner m x s.1))), s.2]) (fun _ => h) (fun j s => s.1.length = j ∧ ∃ a, l = a ++ s.1) ([], none) rfl rfl ⟨rfl, l, by simp⟩ ?_ ?_
  · rintro i ⟨b, kv⟩ y hx ⟨rfl, a, ha⟩
    obtain ⟨p, c, rfl, rfl⟩ := iL_rev_at ha hx
    refine ⟨trivial, ?_⟩
    have h1 := horner_lo (x := x) m0 b
    have h2 := horner_hi (x := x) m0 b
    walk_at "d"
    walk_at "m"
    refine ⟨mulOk_l (by omega), ?_⟩
    walk_at "m"
    refine ⟨m0, ?_⟩
    walk_at "m"
    exact ⟨(c :: b, _), rfl, rfl, rfl, p, by rw [ha, List.append_assoc]; rfl⟩
  · rintro ⟨b, kv⟩ ⟨hl, a, ha⟩
    first | rw [rev_len] at hl | (simp only [id] at hl; rw [rev_len] at hl)
    obtain ⟨rfl, rfl⟩ := len_app_eq ha hl
    refine ⟨trivial, ?_⟩
    walk_at "m"
    rw [take_all, horner_eq]
    exact q
theorem lpower_spec (B : Tab T) (p : Int) (n : Nat) (pb : p.natAbs ≤ 1000000) (hn : n ≤ 1000) (q : Q (.d (.int (p ^ n))) h) : wF T (k + 1) "_law_power_of" [.d (.int p), .d (.int n)] h Q E := by
  refine toF B.t__law_power_of rfl ?_
  simp only [f__law_power_of, startE, List.map_cons, List.map_nil, List.length_cons, List.length_nil, Nat.reduceAdd, Nat.reduceSub, List.replicate_succ, List.replicate_zero, List.cons_append, List.nil_append]
  walk_at "w"
  refine for_st (α := Nat × Option MV) (fun s => [some (.d (.int p)), some (.d (.int n)), some (.d (.int (p ^ s.1))), s.2]) (fun _ => h) (fun j s => s.1 = j) (0, none) (by simp) rfl rfl ?_ ?_
  · rintro j ⟨i, v⟩ x hx rfl
    refine ⟨trivial, ?_⟩
    walk_at "w"
    exact ⟨(i + 1, _), by rw [Int.pow_succ], rfl, rfl⟩
  · rintro ⟨i, v⟩ e
    dsimp only at e
    rw [rgL_n, show ((n : Int) - 0).toNat = n by omega] at e
    subst e
    refine ⟨trivial, ?_⟩
    walk_at "w"
    exact q
end Law
end
section
set_option Elab.async false
set_option linter.all false
set_option maxRecDepth 100000
set_option pp.maxSteps 1200
set_option maxHeartbeats 2000000
set_option exponentiation.threshold 3000
namespace Law
open PySem Mini
local macro_rules | `(tactic| walk_at "d") => `(tactic| ((try dsimp only [X1, Xs1, I1, S1, Ss1, List.getElem?_cons_zero, List.getElem?_cons_succ, List.set_cons_zero, List.set_cons_succ, setAll, id, List.cons_append, List.nil_append, wipeE]); (try simp only [wSeqI_l, wSeqI_t, wSeqI_r, wSeqI_s, wLstI_l, wLstI_r, lstW_l, lstW_r, seqW_l, seqW_t, seqW_r, datW_d, datW_r, datW_s, wHd_set, lenW_s, lenW_z, lenW_l, lenW_t, lenW_r, wRev_t, wRev_l, wRev_r, wAlt_t, wAlt_l, wAlt_r, wTru_n, wTru_b, wTru_i, wTru_z, wTru_l, wTru_t, wTru_r, wIx_s, wIx_z, wIx_l, wIx_t, wIx_r, wSl_t, wSl_l, wSl_r, wAdd_ii, wAdd_tt, wAdd_zz, wAdd_ll, wAdd_lr, wAdd_rl, wAdd_rr, wMul_ii, wMul_li, wMul_ti, wSub_ii, wFdv_ii, wMod_ii, wPow_ii, wNeg_i, wEq_ii, wEq_zz, wEq_nn, wEq_nb, wEq_ni, wEq_nz, wEq_nl, wEq_nt, wEq_nr, wEq_bn, wEq_bb, wEq_bi, wEq_bz, wEq_bl, wEq_bt, wEq_br, wEq_in, wEq_ib, wEq_iz, wEq_il, wEq_it, wEq_ir, wEq_zn, wEq_zb, wEq_zi, wEq_zl, wEq_zt, wEq_zr, wEq_ln, wEq_lb, wEq_li, wEq_lz, wEq_ll, wEq_lt, wEq_lr, wEq_tn, wEq_tb, wEq_ti, wEq_tz, wEq_tl, wEq_tt, wEq_tr, wEq_rn, wEq_rb, wEq_ri, wEq_rz, wEq_rl, wEq_sl, wEq_rt, wEq_rr, wNe_ii, wNe_zz, wNe_nn, wNe_nb, wNe_ni, wNe_nz, wNe_nl, wNe_nt, wNe_nr, wNe_bn, wNe_bb, wNe_bi, wNe_bz, wNe_bl, wNe_bt, wNe_br, wNe_in, wNe_ib, wNe_iz, wNe_il, wNe_it, wNe_ir, wNe_zn, wNe_zb, wNe_zi, wNe_zl, wNe_zt, wNe_zr, wNe_ln, wNe_lb, wNe_li, wNe_lz, wNe_ll, wNe_lt, wNe_lr, wNe_tn, wNe_tb, wNe_ti, wNe_tz, wNe_tl, wNe_tt, wNe_tr, wNe_rn, wNe_rb, wNe_ri, wNe_rz, wNe_rl, wNe_rt, wNe_rr, wLt_ii, wLe_ii, wGt_ii, wGe_ii, wInn_, wNin_, inW_l, inW_t, inW_r, inW_m, wIx_m, wIs_mn, wB_sorted, wB_max1, wSetI_m, wLenSet_e, wSrtSet_e, wDgetD_e, wIdx_e, wIs_nn, wIs_bn, wIs_in, wIs_zn, wIs_ln, wIs_tn, wIs_rn, wIs_sn, wIs_bb, wB_len, wB_abs, wB_int, wB_intb, wB_max, wB_min, wB_tuple, wB_list, wB_repr, wB_stri, wB_strz, wB_all, wB_any, wB_sum, wSl_s, wM_popAt, wM_clear, wM_reverse, wM_app, wM_pop, wM_ext, wRng_1, wRng_2, wRng_3, wRrg_1, wRrg_2, wRgv_1, wRgv_2, wBound_0, wBound_1, wIsi_i, wIsi_b, wIsi_n, wIsi_z, wIsi_l, wIsi_t, wIsi_r, tgW_1, tgW_2, ntt, nff, ite_tt, ite_ff, newL_e, wFrz_e, retW_e, gdOk_n, gdOk_s, id_eq, ite_T, ite_F, dec_T, dec_F, ty_int_none, ty_int_bool, ty_int_int, ty_int_str, ty_int_list, ty_int_tuple, ty_bool_none, ty_bool_bool, ty_bool_int, ty_bool_str, ty_bool_list, ty_bool_tuple, ty_tuple_none, ty_tuple_bool, ty_tuple_int, ty_tuple_str, ty_tuple_list, ty_tuple_tuple, ty_list_none, ty_list_bool, ty_list_int, ty_list_str, ty_list_list, ty_list_tuple, ty_str_none, ty_str_bool, ty_str_int, ty_str_str, ty_str_list, ty_str_tuple])))
local macro_rules | `(tactic| walk_at "m1") => `(tactic| first
  | ((with_reducible refine' toX ?mok ?_); (case mok => rfl); walk_at "d")
  | ((with_reducible refine toXs ?_); walk_at "d")
  | ((with_reducible refine toSs ?_); walk_at "d")
  | ((with_reducible refine' toS ?mok ?_); (case mok => rfl); walk_at "d")
  | ((with_reducible refine toI ?_); walk_at "d")
  | ((with_reducible refine toT0 ?_); walk_at "d")
  | ((with_reducible refine toT1 ?_); walk_at "d")
  | ((with_reducible refine' wTup_at ?mok ?_); (case mok => rfl); walk_at "d")
  | ((with_reducible refine' wLst_at ?mok ?_); (case mok => rfl); walk_at "d"))
local macro_rules | `(tactic| walk_at "m") => `(tactic| (walk_at "d"; repeat walk_at "m1"))
local macro_rules | `(tactic| walk_at "wd") => `(tactic| ((try dsimp only [X1, Xs1, I1, S1, Ss1, List.getElem?_cons_zero, List.getElem?_cons_succ, List.set_cons_zero, List.set_cons_succ, setAll, id, List.cons_append, List.nil_append, wipeE]); (try simp only [X1, Xs1, I1, S1, Ss1, List.getElem?_cons_zero, List.getElem?_cons_succ, List.set_cons_zero, List.set_cons_succ, setAll, id, List.cons_append, List.nil_append, wipeE]); (try simp only [wSeqI_l, wSeqI_t, wSeqI_r, wSeqI_s, wLstI_l, wLstI_r, lstW_l, lstW_r, seqW_l, seqW_t, seqW_r, datW_d, datW_r, datW_s, wHd_set, lenW_s, lenW_z, lenW_l, lenW_t, lenW_r, wRev_t, wRev_l, wRev_r, wAlt_t, wAlt_l, wAlt_r, wTru_n, wTru_b, wTru_i, wTru_z, wTru_l, wTru_t, wTru_r, wIx_s, wIx_z, wIx_l, wIx_t, wIx_r, wSl_t, wSl_l, wSl_r, wAdd_ii, wAdd_tt, wAdd_zz, wAdd_ll, wAdd_lr, wAdd_rl, wAdd_rr, wMul_ii, wMul_li, wMul_ti, wSub_ii, wFdv_ii, wMod_ii, wPow_ii, wNeg_i, wEq_ii, wEq_zz, wEq_nn, wEq_nb, wEq_ni, wEq_nz, wEq_nl, wEq_nt, wEq_nr, wEq_bn, wEq_bb, wEq_bi, wEq_bz, wEq_bl, wEq_bt, wEq_br, wEq_in, wEq_ib, wEq_iz, wEq_il, wEq_it, wEq_ir, wEq_zn, wEq_zb, wEq_zi, wEq_zl, wEq_zt, wEq_zr, wEq_ln, wEq_lb, wEq_li, wEq_lz, wEq_ll, wEq_lt, wEq_lr, wEq_tn, wEq_tb, wEq_ti, wEq_tz, wEq_tl, wEq_tt, wEq_tr, wEq_rn, wEq_rb, wEq_ri, wEq_rz, wEq_rl, wEq_sl, wEq_rt, wEq_rr, wNe_ii, wNe_zz, wNe_nn, wNe_nb, wNe_ni, wNe_nz, wNe_nl, wNe_nt, wNe_nr, wNe_bn, wNe_bb, wNe_bi, wNe_bz, wNe_bl, wNe_bt, wNe_br, wNe_in, wNe_ib, wNe_iz, wNe_il, wNe_it, wNe_ir, wNe_zn, wNe_zb, wNe_zi, wNe_zl, wNe_zt, wNe_zr, wNe_ln, wNe_lb, wNe_li, wNe_lz, wNe_ll, wNe_lt, wNe_lr, wNe_tn, wNe_tb, wNe_ti, wNe_tz, wNe_tl, wNe_tt, wNe_tr, wNe_rn, wNe_rb, wNe_ri, wNe_rz, wNe_rl, wNe_rt, wNe_rr, wLt_ii, wLe_ii, wGt_ii, wGe_ii, wInn_, wNin_, inW_l, inW_t, inW_r, inW_m, wIx_m, wIs_mn, wB_sorted, wB_max1, wSetI_m, wLenSet_e, wSrtSet_e, wDgetD_e, wIdx_e, wIs_nn, wIs_bn, wIs_in, wIs_zn, wIs_ln, wIs_tn, wIs_rn, wIs_sn, wIs_bb, wB_len, wB_abs, wB_int, wB_intb, wB_max, wB_min, wB_tuple, wB_list, wB_repr, wB_stri, wB_strz, wB_all, wB_any, wB_sum, wSl_s, wM_popAt, wM_clear, wM_reverse, wM_app, wM_pop, wM_ext, wRng_1, wRng_2, wRng_3, wRrg_1, wRrg_2, wRgv_1, wRgv_2, wBound_0, wBound_1, wIsi_i, wIsi_b, wIsi_n, wIsi_z, wIsi_l, wIsi_t, wIsi_r, tgW_1, tgW_2, ntt, nff, ite_tt, ite_ff, newL_e, wFrz_e, retW_e, gdOk_n, gdOk_s, id_eq, ite_T, ite_F, dec_T, dec_F, ty_int_none, ty_int_bool, ty_int_int, ty_int_str, ty_int_list, ty_int_tuple, ty_bool_none, ty_bool_bool, ty_bool_int, ty_bool_str, ty_bool_list, ty_bool_tuple, ty_tuple_none, ty_tuple_bool, ty_tuple_int, ty_tuple_str, ty_tuple_list, ty_tuple_tuple, ty_list_none, ty_list_bool, ty_list_int, ty_list_str, ty_list_list, ty_list_tuple, ty_str_none, ty_str_bool, ty_str_int, ty_str_str, ty_str_list, ty_str_tuple, bne_ff, bne_ft, bne_tf, bne_tt, bne_fb, bne_tb, iL_len, take_all, take_set, take_app, take_setapp, take_app2, take_app3, List.set_set, set_new, eqv_nilI, eqv_nilL, eqv_tup, eqv_lis, List.append_nil, ne_same, iL_snoc, iL_app, rep_one, Option.isSome_some, Option.isSome_none])))
local macro_rules | `(tactic| walk_at "ws") => `(tactic| first
  | omega
  | exact in62_of (by omega) (by omega)
  | exact ⟨in62_of (by omega) (by omega), in62_of (by omega) (by omega)⟩
  | exact ⟨in62_of (by omega) (by omega), in62_of (by omega) (by omega), by omega⟩
  | exact mulOk_l (by omega)
  | exact rep1_ok' (by omega) (by omega)
  | exact rep1_ok' b2i_nn (Int.le_trans b2i_le (by decide))
  | exact ⟨by simp, by omega, by omega, by simp⟩
  | exact mulOk_r (by omega)
  | exact ⟨by omega, log9 (by omega) (by omega)⟩
  | exact ⟨(by first | exact sh_tup | exact sh_lis | exact sh_nil | exact sh_nill | exact sh_int _ | rfl), (by first | exact sh_tup | exact sh_lis | exact sh_nil | exact sh_nill | exact sh_int _ | rfl)⟩
  | (simp only [List.length_append, List.length_replicate, List.length_singleton, List.length_cons, List.length_nil, iL_len, rgL_n]; omega)
  | exact fun _ => trivial
  | exact fun _ => get_old (by assumption)
  | exact fun _ => get_old get_new
  | assumption
  | rfl
  | decide)
local macro_rules | `(tactic| walk_at "w1") => `(tactic| first
  | ((with_reducible refine' toX ?mok ?_); (case mok => rfl); walk_at "wd")
  | ((with_reducible refine toXs ?_); walk_at "wd")
  | ((with_reducible refine toSs ?_); walk_at "wd")
  | ((with_reducible refine' toS ?mok ?_); (case mok => rfl); walk_at "wd")
  | ((with_reducible refine toI ?_); walk_at "wd")
  | ((with_reducible refine toT0 ?_); walk_at "wd")
  | ((with_reducible refine toT1 ?_); walk_at "wd")
  | ((with_reducible refine' wTup_at ?mok ?_); (case mok => rfl); walk_at "wd")
  | ((with_reducible refine' wLst_at ?mok ?_); (case mok => rfl); walk_at "wd")
  | ((with_reducible refine' frz_at ?mok ?mok2 ?_); (case mok => first | rfl | simp); (case mok2 => first | rfl | simp); walk_at "wd")
  | ((with_reducible refine' cell_at ?mok ?_); (case mok => first | exact get_new | assumption | exact get_c | exact getL rfl | exact get_old get_c | exact get_old (getL rfl) | exact get_set (by assumption) | exact get_newL (by simp) | exact get_old get_new | exact get_old (by assumption) | exact get_old (get_set (by assumption)) | exact get_old (get_old get_new)); walk_at "wd")
  | ((with_reducible refine' dct_at ?mok ?_); (case mok => first | exact get_new | assumption | exact get_c | exact getL rfl | exact get_old get_c | exact get_old (getL rfl) | exact get_set (by assumption) | exact get_newL (by simp) | exact get_old get_new | exact get_old (by assumption) | exact get_old (get_set (by assumption)) | exact get_old (get_old get_new)); walk_at "wd")
  | ((with_reducible refine' if_yes ?mok ?_); (case mok => omega); walk_at "wd")
  | ((with_reducible refine' if_no ?mok ?_); (case mok => omega); walk_at "wd")
  | ((with_reducible refine' ifn_yes ?mok ?_); (case mok => omega); walk_at "wd")
  | ((with_reducible refine' ifn_no ?mok ?_); (case mok => omega); walk_at "wd")
  | ((with_reducible refine' at_lit ?mok ?_); (case mok => rfl); walk_at "wd")
  | ((with_reducible refine' at_int ?mok ?mok2 ?_); (case mok => decide); (case mok2 => rfl); walk_at "wd")
  | ((with_reducible refine' wRaise_of ?mok ?mok2 ?mok3 ?_); (case mok => rfl); (case mok2 => rfl); (case mok3 => decide); walk_at "wd")
  | ((with_reducible refine' And.intro ?mok ?_); (case mok => walk_at "ws"); walk_at "wd"))
local macro_rules | `(tactic| walk_at "hn") => `(tactic| simp only [List.append_assoc, List.cons_append, List.nil_append, len_c1, len_c2, len_c3, len_c4, len_c5, len_c6, set_c, setL, List.set_cons_succ, List.set_cons_zero, take_c1])
local macro_rules | `(tactic| walk_at "w") => `(tactic| (walk_at "wd"; repeat walk_at "w1"))
local macro_rules | `(tactic| walk_at "wi") => `(tactic| (walk_at "wd"; repeat ((fail_if_success (with_reducible refine' isIff ?_)); walk_at "w1")))
variable {T : List MF} {k : Nat} {h : MH} {Q : MQ} {E : ME}
theorem great_spec (B : Tab T) (i : Nat) {n : Nat} {fd : MCell} (hi : h[i]? = some fd) (hf : IsTape n fd) (hn : n ≤ 1000000)
    (q : ∀ (m : Nat) fd', 2 ≤ m → m ≤ 1000000000000000000 → IsTape (n + 9) fd' → Q (.d (.int m)) (h.set i fd')) : wF T (k + 2) "_law_great" [.m i] h Q E := by
  refine toF B.t__law_great rfl ?_
  simp only [f__law_great, startE, List.map_cons, List.map_nil, List.length_cons, List.length_nil, Nat.reduceAdd, Nat.reduceSub, List.replicate_succ, List.replicate_zero, List.cons_append, List.nil_append]
  have e18 : (10 : Int) ^ Int.toNat 18 = 1000000000000000000 := by decide +kernel
  walk_at "w"
  refine tdraw_spec B _ _ (by first | exact get_new | exact hi | exact get_set hi | exact get_old get_new | exact get_old hi | exact get_old (get_set hi) | exact get_c | exact get_old get_c | exact get3 | exact get4 | exact get5 | exact get6 | exact get_old (get_old hi) | exact get_old (get_old (get_set hi))) hf (by omega) (by first | decide | omega) (by first | decide | omega) fun a fd a_0 a_1 hf => ?_
  first | rw [set_new] | rw [set_c] | rw [set_old get_c, set_c] | rw [set6] | rw [set5] | rw [set4] | rw [set3] | rw [set2] | rw [List.set_set] | rw [set_old get_new, set_new] | rw [set_old (get_set hi), List.set_set] | rw [set_old hi] | skip
  try walk_at "m"
  walk_at "w"
  refine for_st (α := MCell × Nat × Option MV × Option MV × Option MV) (fun (fd, m, s2, s3, s4) => [some (.m i), some (.d (.int (m : Nat))), s2, s3, s4]) (fun (fd, _, _, _, _) => h.set i fd) (fun j (fd, m, _, _, _) => IsTape (n + 1 + 2 * j) fd ∧ 1 ≤ m ∧ m ≤ 1000000000000000000 ∧ (1 ≤ j → 2 ≤ m)) (fd, 1, none, none, none) rfl rfl ⟨hf, by decide, by decide, by omega⟩ ?_ ?_
  · rintro j ⟨fd, m, s2, s3, s4⟩ x hx ⟨hf, m1, m2, -⟩
    obtain ⟨rfl, hj⟩ := rgL_get hx
    refine ⟨trivial, ?_⟩
    walk_at "w"
    refine tdraw_spec B _ _ (by first | exact get_new | exact hi | exact get_set hi | exact get_old get_new | exact get_old hi | exact get_old (get_set hi) | exact get_c | exact get_old get_c | exact get3 | exact get4 | exact get5 | exact get6 | exact get_old (get_old hi) | exact get_old (get_old (get_set hi))) hf (by omega) (by first | decide | omega) (by first | decide | omega) fun b fd b_0 b_1 hf => ?_
    first | rw [set_new] | rw [set_c] | rw [set_old get_c, set_c] | rw [set6] | rw [set5] | rw [set4] | rw [set3] | rw [set2] | rw [List.set_set] | rw [set_old get_new, set_new] | rw [set_old (get_set hi), List.set_set] | rw [set_old hi] | skip
    try walk_at "m"
    walk_at "w"
    refine at_mem (by omega) (by show _ < (12 : Int); omega) fun v hv => ?_
    obtain ⟨p, rfl, hp2, hp97⟩ : ∃ p : Nat, v = .int p ∧ 2 ≤ p ∧ p ≤ 97 := by
      have : ∀ v ∈ ([2, 3, 5, 7, 2, 3, 11, 13, 31, 97, 89, 5] : List Nat), 2 ≤ v ∧ v ≤ 97 := by decide
      have hv : v ∈ ([2, 3, 5, 7, 2, 3, 11, 13, 31, 97, 89, 5] : List Nat).map fun p : Nat => PyData.int p := hv
      obtain ⟨p, hp, rfl⟩ := List.mem_map.mp hv
      exact ⟨p, rfl, this p hp⟩
    walk_at "w"
    refine tdraw_spec B _ _ (by first | exact get_new | exact hi | exact get_set hi | exact get_old get_new | exact get_old hi | exact get_old (get_set hi) | exact get_c | exact get_old get_c | exact get3 | exact get4 | exact get5 | exact get6 | exact get_old (get_old hi) | exact get_old (get_old (get_set hi))) hf (by omega) (by first | decide | omega) (by first | decide | omega) fun c fd c_0 c_1 hf => ?_
    first | rw [set_new] | rw [set_c] | rw [set_old get_c, set_c] | rw [set6] | rw [set5] | rw [set4] | rw [set3] | rw [set2] | rw [List.set_set] | rw [set_old get_new, set_new] | rw [set_old (get_set hi), List.set_set] | rw [set_old hi] | skip
    try walk_at "m"
    walk_at "w"
    refine at_mem (by omega) (by show _ < (6 : Int); omega) fun v hv => ?_
    obtain ⟨w, rfl, hw⟩ : ∃ w : Nat, v = .int w ∧ w ≤ 7 := by
      have : ∀ v ∈ ([0, 1, 0, 2, 3, 7] : List Nat), v ≤ 7 := by decide
      have hv : v ∈ ([0, 1, 0, 2, 3, 7] : List Nat).map fun p : Nat => PyData.int p := hv
      obtain ⟨p, hp, rfl⟩ := List.mem_map.mp hv
      exact ⟨p, rfl, this p hp⟩
    walk_at "w"
    refine for_st (α := Nat × Option MV) (fun (m, s4) => [some (.m i), some (.d (.int (m : Nat))), some (.d (.int (0 + (j : Int)))), some (.d (.int (p : Nat))), s4]) (fun _ => h.set i fd) (fun j (m, _) => 1 ≤ m ∧ m ≤ 1000000000000000000 ∧ (1 ≤ j → 2 ≤ m)) (m, s4) rfl rfl ⟨m1, m2, by omega⟩ ?_ ?_
    · rintro u ⟨m, s4⟩ x hx ⟨m1, m2, mu⟩
      refine ⟨trivial, ?_⟩
      walk_at "w"
      rw [e18, show (m : Int) * (p : Int) = ((m * p : Nat) : Int) from (Int.natCast_mul ..).symm]
      refine ite_dec (fun hc => ?_) (fun hc => ?_)
      · walk_at "w"
        refine ⟨(m * p, _), (by first | exact trivial | rfl), (by first | exact trivial | rfl), ?_, by dsimp only; omega, fun _ => ?_⟩
        · have : 1 * 1 ≤ m * p := Nat.mul_le_mul m1 (by omega)
          exact this
        · have : 1 * 2 ≤ m * p := Nat.mul_le_mul m1 hp2
          dsimp only; omega
      · walk_at "w"
        refine ⟨(m, _), (by first | exact trivial | rfl), (by first | exact trivial | rfl), m1, m2, fun _ => ?_⟩
        rcases Nat.lt_or_ge m 2 with z | z
        · have : m = 1 := by omega
          subst this
          omega
        · exact z
    · rintro ⟨m, s4⟩ ⟨m1, m2, mu⟩
      rw [rgL_n] at mu
      refine ⟨trivial, ?_⟩
      walk_at "w"
      exact ⟨(fd, m, _, _, _), (by first | exact trivial | rfl), (by first | exact trivial | rfl), hf.mono (by omega), m1, m2, fun _ => mu (by omega)⟩
  · rintro ⟨fd, m, s2, s3, s4⟩ ⟨hf, m1, m2, mu⟩
    rw [rgL_n] at hf mu
    refine ⟨trivial, ?_⟩
    walk_at "w"
    exact q m fd (mu (by omega)) m2 (hf.mono (by omega))
end Law
end
section
set_option Elab.async false
set_option linter.all false
set_option maxRecDepth 100000
set_option pp.maxSteps 1200
set_option maxHeartbeats 2000000
set_option exponentiation.threshold 3000
namespace Law
open PySem Mini
local macro_rules | `(tactic| walk_at "d") => `(tactic| ((try dsimp only [X1, Xs1, I1, S1, Ss1, List.getElem?_cons_zero, List.getElem?_cons_succ, List.set_cons_zero, List.set_cons_succ, setAll, id, List.cons_append, List.nil_append, wipeE]); (try simp only [wSeqI_l, wSeqI_t, wSeqI_r, wSeqI_s, wLstI_l, wLstI_r, lstW_l, lstW_r, seqW_l, seqW_t, seqW_r, datW_d, datW_r, datW_s, wHd_set, lenW_s, lenW_z, lenW_l, lenW_t, lenW_r, wRev_t, wRev_l, wRev_r, wAlt_t, wAlt_l, wAlt_r, wTru_n, wTru_b, wTru_i, wTru_z, wTru_l, wTru_t, wTru_r, wIx_s, wIx_z, wIx_l, wIx_t, wIx_r, wSl_t, wSl_l, wSl_r, wAdd_ii, wAdd_tt, wAdd_zz, wAdd_ll, wAdd_lr, wAdd_rl, wAdd_rr, wMul_ii, wMul_li, wMul_ti, wSub_ii, wFdv_ii, wMod_ii, wPow_ii, wNeg_i, wEq_ii, wEq_zz, wEq_nn, wEq_nb, wEq_ni, wEq_nz, wEq_nl, wEq_nt, wEq_nr, wEq_bn, wEq_bb, wEq_bi, wEq_bz, wEq_bl, wEq_bt, wEq_br, wEq_in, wEq_ib, wEq_iz, wEq_il, wEq_it, wEq_ir, wEq_zn, wEq_zb, wEq_zi, wEq_zl, wEq_zt, wEq_zr, wEq_ln, wEq_lb, wEq_li, wEq_lz, wEq_ll, wEq_lt, wEq_lr, wEq_tn, wEq_tb, wEq_ti, wEq_tz, wEq_tl, wEq_tt, wEq_tr, wEq_rn, wEq_rb, wEq_ri, wEq_rz, wEq_rl, wEq_sl, wEq_rt, wEq_rr, wNe_ii, wNe_zz, wNe_nn, wNe_nb, wNe_ni, wNe_nz, wNe_nl, wNe_nt, wNe_nr, wNe_bn, wNe_bb, wNe_bi, wNe_bz, wNe_bl, wNe_bt, wNe_br, wNe_in, wNe_ib, wNe_iz, wNe_il, wNe_it, wNe_ir, wNe_zn, wNe_zb, wNe_zi, wNe_zl, wNe_zt, wNe_zr, wNe_ln, wNe_lb, wNe_li, wNe_lz, wNe_ll, wNe_lt, wNe_lr, wNe_tn, wNe_tb, wNe_ti, wNe_tz, wNe_tl, wNe_tt, wNe_tr, wNe_rn, wNe_rb, wNe_ri, wNe_rz, wNe_rl, wNe_rt, wNe_rr, wLt_ii, wLe_ii, wGt_ii, wGe_ii, wInn_, wNin_, inW_l, inW_t, inW_r, inW_m, wIx_m, wIs_mn, wB_sorted, wB_max1, wSetI_m, wLenSet_e, wSrtSet_e, wDgetD_e, wIdx_e, wIs_nn, wIs_bn, wIs_in, wIs_zn, wIs_ln, wIs_tn, wIs_rn, wIs_sn, wIs_bb, wB_len, wB_abs, wB_int, wB_intb, wB_max, wB_min, wB_tuple, wB_list, wB_repr, wB_stri, wB_strz, wB_all, wB_any, wB_sum, wSl_s, wM_popAt, wM_clear, wM_reverse, wM_app, wM_pop, wM_ext, wRng_1, wRng_2, wRng_3, wRrg_1, wRrg_2, wRgv_1, wRgv_2, wBound_0, wBound_1, wIsi_i, wIsi_b, wIsi_n, wIsi_z, wIsi_l, wIsi_t, wIsi_r, tgW_1, tgW_2, ntt, nff, ite_tt, ite_ff, newL_e, wFrz_e, retW_e, gdOk_n, gdOk_s, id_eq, ite_T, ite_F, dec_T, dec_F, ty_int_none, ty_int_bool, ty_int_int, ty_int_str, ty_int_list, ty_int_tuple, ty_bool_none, ty_bool_bool, ty_bool_int, ty_bool_str, ty_bool_list, ty_bool_tuple, ty_tuple_none, ty_tuple_bool, ty_tuple_int, ty_tuple_str, ty_tuple_list, ty_tuple_tuple, ty_list_none, ty_list_bool, ty_list_int, ty_list_str, ty_list_list, ty_list_tuple, ty_str_none, ty_str_bool, ty_str_int, ty_str_str, ty_str_list, ty_str_tuple])))
local macro_rules | `(tactic| walk_at "m1") => `(tactic| first
  | ((with_reducible refine' toX ?mok ?_); (case mok => rfl); walk_at "d")
  | ((with_reducible refine toXs ?_); walk_at "d")
  | ((with_reducible refine toSs ?_); walk_at "d")
  | ((with_reducible refine' toS ?mok ?_); (case mok => rfl); walk_at "d")
  | ((with_reducible refine toI ?_); walk_at "d")
  | ((with_reducible refine toT0 ?_); walk_at "d")
  | ((with_reducible refine toT1 ?_); walk_at "d")
  | ((with_reducible refine' wTup_at ?mok ?_); (case mok => rfl); walk_at "d")
  | ((with_reducible refine' wLst_at ?mok ?_); (case mok => rfl); walk_at "d"))
local macro_rules | `(tactic| walk_at "m") => `(tactic| (walk_at "d"; repeat walk_at "m1"))
local macro_rules | `(tactic| walk_at "wd") => `(tactic| ((try dsimp only [X1, Xs1, I1, S1, Ss1, List.getElem?_cons_zero, List.getElem?_cons_succ, List.set_cons_zero, List.set_cons_succ, setAll, id, List.cons_append, List.nil_append, wipeE]); (try simp only [X1, Xs1, I1, S1, Ss1, List.getElem?_cons_zero, List.getElem?_cons_succ, List.set_cons_zero, List.set_cons_succ, setAll, id, List.cons_append, List.nil_append, wipeE]); (try simp only [wSeqI_l, wSeqI_t, wSeqI_r, wSeqI_s, wLstI_l, wLstI_r, lstW_l, lstW_r, seqW_l, seqW_t, seqW_r, datW_d, datW_r, datW_s, wHd_set, lenW_s, lenW_z, lenW_l, lenW_t, lenW_r, wRev_t, wRev_l, wRev_r, wAlt_t, wAlt_l, wAlt_r, wTru_n, wTru_b, wTru_i, wTru_z, wTru_l, wTru_t, wTru_r, wIx_s, wIx_z, wIx_l, wIx_t, wIx_r, wSl_t, wSl_l, wSl_r, wAdd_ii, wAdd_tt, wAdd_zz, wAdd_ll, wAdd_lr, wAdd_rl, wAdd_rr, wMul_ii, wMul_li, wMul_ti, wSub_ii, wFdv_ii, wMod_ii, wPow_ii, wNeg_i, wEq_ii, wEq_zz, wEq_nn, wEq_nb, wEq_ni, wEq_nz, wEq_nl, wEq_nt, wEq_nr, wEq_bn, wEq_bb, wEq_bi, wEq_bz, wEq_bl, wEq_bt, wEq_br, wEq_in, wEq_ib, wEq_iz, wEq_il, wEq_it, wEq_ir, wEq_zn, wEq_zb, wEq_zi, wEq_zl, wEq_zt, wEq_zr, wEq_ln, wEq_lb, wEq_li, wEq_lz, wEq_ll, wEq_lt, wEq_lr, wEq_tn, wEq_tb, wEq_ti, wEq_tz, wEq_tl, wEq_tt, wEq_tr, wEq_rn, wEq_rb, wEq_ri, wEq_rz, wEq_rl, wEq_sl, wEq_rt, wEq_rr, wNe_ii, wNe_zz, wNe_nn, wNe_nb, wNe_ni, wNe_nz, wNe_nl, wNe_nt, wNe_nr, wNe_bn, wNe_bb, wNe_bi, wNe_bz, wNe_bl, wNe_bt, wNe_br, wNe_in, wNe_ib, wNe_iz, wNe_il, wNe_it, wNe_ir, wNe_zn, wNe_zb, wNe_zi, wNe_zl, wNe_zt, wNe_zr, wNe_ln, wNe_lb, wNe_li, wNe_lz, wNe_ll, wNe_lt, wNe_lr, wNe_tn, wNe_tb, wNe_ti, wNe_tz, wNe_tl, wNe_tt, wNe_tr, wNe_rn, wNe_rb, wNe_ri, wNe_rz, wNe_rl, wNe_rt, wNe_rr, wLt_ii, wLe_ii, wGt_ii, wGe_ii, wInn_, wNin_, inW_l, inW_t, inW_r, inW_m, wIx_m, wIs_mn, wB_sorted, wB_max1, wSetI_m, wLenSet_e, wSrtSet_e, wDgetD_e, wIdx_e, wIs_nn, wIs_bn, wIs_in, wIs_zn, wIs_ln, wIs_tn, wIs_rn, wIs_sn, wIs_bb, wB_len, wB_abs, wB_int, wB_intb, wB_max, wB_min, wB_tuple, wB_list, wB_repr, wB_stri, wB_strz, wB_all, wB_any, wB_sum, wSl_s, wM_popAt, wM_clear, wM_reverse, wM_app, wM_pop, wM_ext, wRng_1, wRng_2, wRng_3, wRrg_1, wRrg_2, wRgv_1, wRgv_2, wBound_0, wBound_1, wIsi_i, wIsi_b, wIsi_n, wIsi_z, wIsi_l, wIsi_t, wIsi_r, tgW_1, tgW_2, ntt, nff, ite_tt, ite_ff, newL_e, wFrz_e, retW_e, gdOk_n, gdOk_s, id_eq, ite_T, ite_F, dec_T, dec_F, ty_int_none, ty_int_bool, ty_int_int, ty_int_str, ty_int_list, ty_int_tuple, ty_bool_none, ty_bool_bool, ty_bool_int, ty_bool_str, ty_bool_list, ty_bool_tuple, ty_tuple_none, ty_tuple_bool, ty_tuple_int, ty_tuple_str, ty_tuple_list, ty_tuple_tuple, ty_list_none, ty_list_bool, ty_list_int, ty_list_str, ty_list_list, ty_list_tuple, ty_str_none, ty_str_bool, ty_str_int, ty_str_str, ty_str_list, ty_str_tuple, bne_ff, bne_ft, bne_tf, bne_tt, bne_fb, bne_tb, iL_len, take_all, take_set, take_app, take_setapp, take_app2, take_app3, List.set_set, set_new, eqv_nilI, eqv_nilL, eqv_tup, eqv_lis, List.append_nil, ne_same, iL_snoc, iL_app, rep_one, Option.isSome_some, Option.isSome_none])))
local macro_rules | `(tactic| walk_at "ws") => `(tactic| first
  | omega
  | exact in62_of (by omega) (by omega)
  | exact ⟨in62_of (by omega) (by omega), in62_of (by omega) (by omega)⟩
  | exact ⟨in62_of (by omega) (by omega), in62_of (by omega) (by omega), by omega⟩
  | exact mulOk_l (by omega)
  | exact rep1_ok' (by omega) (by omega)
  | exact rep1_ok' b2i_nn (Int.le_trans b2i_le (by decide))
  | exact ⟨by simp, by omega, by omega, by simp⟩
  | exact mulOk_r (by omega)
  | exact ⟨by omega, log9 (by omega) (by omega)⟩
  | exact ⟨(by first | exact sh_tup | exact sh_lis | exact sh_nil | exact sh_nill | exact sh_int _ | rfl), (by first | exact sh_tup | exact sh_lis | exact sh_nil | exact sh_nill | exact sh_int _ | rfl)⟩
  | (simp only [List.length_append, List.length_replicate, List.length_singleton, List.length_cons, List.length_nil, iL_len, rgL_n]; omega)
  | exact fun _ => trivial
  | exact fun _ => get_old (by assumption)
  | exact fun _ => get_old get_new
  | assumption
  | rfl
  | decide)
local macro_rules | `(tactic| walk_at "w1") => `(tactic| first
  | ((with_reducible refine' toX ?mok ?_); (case mok => rfl); walk_at "wd")
  | ((with_reducible refine toXs ?_); walk_at "wd")
  | ((with_reducible refine toSs ?_); walk_at "wd")
  | ((with_reducible refine' toS ?mok ?_); (case mok => rfl); walk_at "wd")
  | ((with_reducible refine toI ?_); walk_at "wd")
  | ((with_reducible refine toT0 ?_); walk_at "wd")
  | ((with_reducible refine toT1 ?_); walk_at "wd")
  | ((with_reducible refine' wTup_at ?mok ?_); (case mok => rfl); walk_at "wd")
  | ((with_reducible refine' wLst_at ?mok ?_); (case mok => rfl); walk_at "wd")
  | ((with_reducible refine' frz_at ?mok ?mok2 ?_); (case mok => first | rfl | simp); (case mok2 => first | rfl | simp); walk_at "wd")
  | ((with_reducible refine' cell_at ?mok ?_); (case mok => first | exact get_new | assumption | exact get_c | exact getL rfl | exact get_old get_c | exact get_old (getL rfl) | exact get_set (by assumption) | exact get_newL (by simp) | exact get_old get_new | exact get_old (by assumption) | exact get_old (get_set (by assumption)) | exact get_old (get_old get_new)); walk_at "wd")
  | ((with_reducible refine' dct_at ?mok ?_); (case mok => first | exact get_new | assumption | exact get_c | exact getL rfl | exact get_old get_c | exact get_old (getL rfl) | exact get_set (by assumption) | exact get_newL (by simp) | exact get_old get_new | exact get_old (by assumption) | exact get_old (get_set (by assumption)) | exact get_old (get_old get_new)); walk_at "wd")
  | ((with_reducible refine' if_yes ?mok ?_); (case mok => omega); walk_at "wd")
  | ((with_reducible refine' if_no ?mok ?_); (case mok => omega); walk_at "wd")
  | ((with_reducible refine' ifn_yes ?mok ?_); (case mok => omega); walk_at "wd")
  | ((with_reducible refine' ifn_no ?mok ?_); (case mok => omega); walk_at "wd")
  | ((with_reducible refine' at_lit ?mok ?_); (case mok => rfl); walk_at "wd")
  | ((with_reducible refine' at_int ?mok ?mok2 ?_); (case mok => decide); (case mok2 => rfl); walk_at "wd")
  | ((with_reducible refine' wRaise_of ?mok ?mok2 ?mok3 ?_); (case mok => rfl); (case mok2 => rfl); (case mok3 => decide); walk_at "wd")
  | ((with_reducible refine' And.intro ?mok ?_); (case mok => walk_at "ws"); walk_at "wd"))
local macro_rules | `(tactic| walk_at "hn") => `(tactic| simp only [List.append_assoc, List.cons_append, List.nil_append, len_c1, len_c2, len_c3, len_c4, len_c5, len_c6, set_c, setL, List.set_cons_succ, List.set_cons_zero, take_c1])
local macro_rules | `(tactic| walk_at "w") => `(tactic| (walk_at "wd"; repeat walk_at "w1"))
local macro_rules | `(tactic| walk_at "wi") => `(tactic| (walk_at "wd"; repeat ((fail_if_success (with_reducible refine' isIff ?_)); walk_at "w1")))
variable {T : List MF} {k : Nat} {h : MH} {Q : MQ} {E : ME}
theorem number_spec (B : Tab T) (i : Nat) {n : Nat} {fd : MCell} (hi : h[i]? = some fd) (hf : IsTape n fd) (hn : n ≤ 1000000) (q : ∀ (m : Nat) fd', 2 ≤ m → m ≤ 64 → IsTape (n + 1) fd' → Q (.d (.int m)) (h.set i fd')) : wF T (k + 2) "_law_number" [.m i] h Q E := by
  refine toF B.t__law_number rfl ?_
  simp only [f__law_number, startE, List.map_cons, List.map_nil, List.length_cons, List.length_nil, Nat.reduceAdd, Nat.reduceSub, List.replicate_succ, List.replicate_zero, List.cons_append, List.nil_append]
  walk_at "w"
  refine tdraw_spec B _ _ (by first | exact get_new | exact hi | exact get_set hi | exact get_old get_new | exact get_old hi | exact get_old (get_set hi) | exact get_c | exact get_old get_c | exact get3 | exact get4 | exact get5 | exact get6 | exact get_old (get_old hi) | exact get_old (get_old (get_set hi))) hf (by omega) (by first | decide | omega) (by first | decide | omega) fun b fd b_0 b_1 hf => ?_
  first | rw [set_new] | rw [set_c] | rw [set_old get_c, set_c] | rw [set6] | rw [set5] | rw [set4] | rw [set3] | rw [set2] | rw [List.set_set] | rw [set_old get_new, set_new] | rw [set_old (get_set hi), List.set_set] | rw [set_old hi] | skip
  try walk_at "m"
  walk_at "w"
  refine at_all (p := fun v => decide (2 ≤ v) && decide (v ≤ 64)) (by decide) b_0 (by exact b_1) fun v hv => ?_
  simp only [Bool.and_eq_true, decide_eq_true_eq] at hv
  walk_at "w"
  obtain ⟨m, rfl⟩ : ∃ m : Nat, v = m := ⟨v.toNat, by omega⟩
  exact q m fd (by omega) (by omega) hf
theorem unlike_spec (B : Tab T) (m : Nat) (f : List Int) (m0 : 2 ≤ m) (hm : m ≤ 64) (q : Q (.d (.bool (decide (((uniq (tabL m f)).length : Int) = (m : Int))))) h) : wF T (k + 2) "_law_all_unlike" [.d (.int m), .d (.tuple (iL f))] h Q E := by
  refine toF B.t__law_all_unlike rfl ?_
  simp only [f__law_all_unlike, startE, List.map_cons, List.map_nil, List.length_cons, List.length_nil, Nat.reduceAdd, Nat.reduceSub, List.replicate_succ, List.replicate_zero, List.cons_append, List.nil_append]
  walk_at "w"
  refine lc_pure (mapF fun x => ev x f % m) ?_
  walk_at "w"
  refine ⟨fun y hy acc => ?_, ?_⟩
  · obtain ⟨x, hx0, hx1, rfl⟩ := rgL_mem hy
    walk_at "w"
    refine lvalue_spec B m f x (by omega) (by omega) ?_
    exact ⟨take1, rfl⟩
  rw [rgL_iL, fm_mapI, tab_of]
  refine frz_at (by simp) (by simp) ?_
  walk_at "wd"
  rw [intsL_iL]
  refine ⟨by rw [tab_len]; omega, ?_⟩
  walk_at "w"
  exact q
theorem cut_two {m a b : Int} (a0 : 0 < a) (a1 : a < m) : cut m [b, a] = [b % m, a] := by
  show trim [b % m, a % m] = _
  rw [Int.emod_eq_of_lt (by omega) a1]
  exact trim_snoc (l := [b % m]) (by omega)
theorem cut_one {m b : Int} : (cut m [b, 0]).length ≤ 1 := by
  show (trim [b % m, 0 % m]).length ≤ 1
  rw [Int.zero_emod]
  have e : trim [b % m, 0] = trim [b % m] := trim_snoc0 (l := [b % m])
  rw [e]
  exact trim_len _
theorem sline_spec (B : Tab T) (m : Nat) (a b : Int) (m0 : 2 ≤ m) (a0 : 0 ≤ a) (a1 : a < m) (q : Q (.d (.bool (decide (Int.gcd a m = 1)))) h) : wF T (k + 2) "shuffles_line" [.d (.int m), .d (.tuple (iL (cut m [b, a])))] h Q E := by
  refine toF B.t_shuffles_line rfl ?_
  simp only [f_shuffles_line, startE, List.map_cons, List.map_nil, List.length_cons, List.length_nil, Nat.reduceAdd, Nat.reduceSub, List.replicate_succ, List.replicate_zero, List.cons_append, List.nil_append]
  walk_at "w"
  by_cases ha : a = 0
  · subst ha
    have hl := cut_one (m := m) (b := b)
    rw [decide_eq_false (show ¬ ((cut (m : Int) [b, 0]).length : Int) = 2 by omega)]
    walk_at "w"
    rw [decide_eq_false (show ¬ Int.gcd 0 m = 1 by rw [Int.zero_gcd]; omega)] at q
    exact q
  · rw [cut_two (by omega) a1, decide_eq_true (show ((([b % m, a] : List Int).length : Nat) : Int) = 2 from rfl)]
    walk_at "w"
    refine common_spec B a m ?_
    walk_at "w"
    rw [show decide (((Int.gcd a m : Nat) : Int) = 1) = decide (Int.gcd a m = 1) from decide_eq_decide.mpr (by omega)]
    exact q
theorem spower_spec (B : Tab T) (p n : Int) (q : Q (.d (.bool (decide (Int.gcd n (p - 1) = 1)))) h) : wF T (k + 2) "shuffles_power" [.d (.int p), .d (.int n)] h Q E := by
  refine toF B.t_shuffles_power rfl ?_
  simp only [f_shuffles_power, startE, List.map_cons, List.map_nil, List.length_cons, List.length_nil, Nat.reduceAdd, Nat.reduceSub, List.replicate_succ, List.replicate_zero, List.cons_append, List.nil_append]
  walk_at "w"
  refine common_spec B n (p - 1) ?_
  walk_at "w"
  rw [show decide (((Int.gcd n (p - 1) : Nat) : Int) = 1) = decide (Int.gcd n (p - 1) = 1) from decide_eq_decide.mpr (by omega)]
  exact q
theorem alt_iL {j : Nat} {f : List Int} : alt ((iL f).drop j) = iL (alt (f.drop j)) := by
  unfold iL
  rw [← List.map_drop, alt_map]
theorem stwos_spec (B : Tab T) (n : Int) (f : List Int) (q : Q (.d (.bool (decide (Twos f)))) h) : wF T (k + 2) "shuffles_twos" [.d (.int n), .d (.tuple (iL f))] h Q E := by
  refine toF B.t_shuffles_twos rfl ?_
  simp only [f_shuffles_twos, startE, List.map_cons, List.map_nil, List.length_cons, List.length_nil, Nat.reduceAdd, Nat.reduceSub, List.replicate_succ, List.replicate_zero, List.cons_append, List.nil_append]
  walk_at "w"
  refine ite_dec (fun hc => ?_) (fun hc => ?_)
  · walk_at "w"
    rw [decide_eq_false (fun z : Twos f => by have := z.1; omega)] at q
    exact q
  walk_at "w"
  refine at_co (j := 1) rfl (by omega) ?_
  walk_at "w"
  refine ite_dec (fun hd => ?_) (fun hd => ?_)
  · walk_at "w"
    rw [decide_eq_false (fun z : Twos f => by have := z.2.1; omega)] at q
    exact q
  walk_at "w"
  rw [alt_iL, intsL_iL]
  walk_at "w"
  refine ite_dec (fun he => ?_) (fun he => ?_)
  · walk_at "w"
    rw [alt_iL, intsL_iL]
    walk_at "w"
    rw [show decide (Twos f) = decide ((alt (f.drop 3)).sum % 2 = 0) from decide_eq_decide.mpr ⟨fun z => z.2.2.2, fun z => ⟨by omega, by omega, he, z⟩⟩] at q
    exact q
  · walk_at "w"
    rw [show decide (Twos f) = decide ((alt (f.drop 2)).sum % 2 = 0) from decide_eq_decide.mpr ⟨fun z => z.2.2.1, fun z => absurd z he⟩] at q
    exact q
end Law
end
section
set_option Elab.async false
set_option linter.all false
set_option maxRecDepth 100000
set_option pp.maxSteps 1200
set_option maxHeartbeats 2000000
set_option exponentiation.threshold 3000
namespace Law
open PySem Mini
local macro_rules | `(tactic| walk_at "d") => `(tactic| ((try dsimp only [X1, Xs1, I1, S1, Ss1, List.getElem?_cons_zero, List.getElem?_cons_succ, List.set_cons_zero, List.set_cons_succ, setAll, id, List.cons_append, List.nil_append, wipeE]); (try simp only [wSeqI_l, wSeqI_t, wSeqI_r, wSeqI_s, wLstI_l, wLstI_r, lstW_l, lstW_r, seqW_l, seqW_t, seqW_r, datW_d, datW_r, datW_s, wHd_set, lenW_s, lenW_z, lenW_l, lenW_t, lenW_r, wRev_t, wRev_l, wRev_r, wAlt_t, wAlt_l, wAlt_r, wTru_n, wTru_b, wTru_i, wTru_z, wTru_l, wTru_t, wTru_r, wIx_s, wIx_z, wIx_l, wIx_t, wIx_r, wSl_t, wSl_l, wSl_r, wAdd_ii, wAdd_tt, wAdd_zz, wAdd_ll, wAdd_lr, wAdd_rl, wAdd_rr, wMul_ii, wMul_li, wMul_ti, wSub_ii, wFdv_ii, wMod_ii, wPow_ii, wNeg_i, wEq_ii, wEq_zz, wEq_nn, wEq_nb, wEq_ni, wEq_nz, wEq_nl, wEq_nt, wEq_nr, wEq_bn, wEq_bb, wEq_bi, wEq_bz, wEq_bl, wEq_bt, wEq_br, wEq_in, wEq_ib, wEq_iz, wEq_il, wEq_it, wEq_ir, wEq_zn, wEq_zb, wEq_zi, wEq_zl, wEq_zt, wEq_zr, wEq_ln, wEq_lb, wEq_li, wEq_lz, wEq_ll, wEq_lt, wEq_lr, wEq_tn, wEq_tb, wEq_ti, wEq_tz, wEq_tl, wEq_tt, wEq_tr, wEq_rn, wEq_rb, wEq_ri, wEq_rz, wEq_rl, wEq_sl, wEq_rt, wEq_rr, wNe_ii, wNe_zz, wNe_nn, wNe_nb, wNe_ni, wNe_nz, wNe_nl, wNe_nt, wNe_nr, wNe_bn, wNe_bb, wNe_bi, wNe_bz, wNe_bl, wNe_bt, wNe_br, wNe_in, wNe_ib, wNe_iz, wNe_il, wNe_it, wNe_ir, wNe_zn, wNe_zb, wNe_zi, wNe_zl, wNe_zt, wNe_zr, wNe_ln, wNe_lb, wNe_li, wNe_lz, wNe_ll, wNe_lt, wNe_lr, wNe_tn, wNe_tb, wNe_ti, wNe_tz, wNe_tl, wNe_tt, wNe_tr, wNe_rn, wNe_rb, wNe_ri, wNe_rz, wNe_rl, wNe_rt, wNe_rr, wLt_ii, wLe_ii, wGt_ii, wGe_ii, wInn_, wNin_, inW_l, inW_t, inW_r, inW_m, wIx_m, wIs_mn, wB_sorted, wB_max1, wSetI_m, wLenSet_e, wSrtSet_e, wDgetD_e, wIdx_e, wIs_nn, wIs_bn, wIs_in, wIs_zn, wIs_ln, wIs_tn, wIs_rn, wIs_sn, wIs_bb, wB_len, wB_abs, wB_int, wB_intb, wB_max, wB_min, wB_tuple, wB_list, wB_repr, wB_stri, wB_strz, wB_all, wB_any, wB_sum, wSl_s, wM_popAt, wM_clear, wM_reverse, wM_app, wM_pop, wM_ext, wRng_1, wRng_2, wRng_3, wRrg_1, wRrg_2, wRgv_1, wRgv_2, wBound_0, wBound_1, wIsi_i, wIsi_b, wIsi_n, wIsi_z, wIsi_l, wIsi_t, wIsi_r, tgW_1, tgW_2, ntt, nff, ite_tt, ite_ff, newL_e, wFrz_e, retW_e, gdOk_n, gdOk_s, id_eq, ite_T, ite_F, dec_T, dec_F, ty_int_none, ty_int_bool, ty_int_int, ty_int_str, ty_int_list, ty_int_tuple, ty_bool_none, ty_bool_bool, ty_bool_int, ty_bool_str, ty_bool_list, ty_bool_tuple, ty_tuple_none, ty_tuple_bool, ty_tuple_int, ty_tuple_str, ty_tuple_list, ty_tuple_tuple, ty_list_none, ty_list_bool, ty_list_int, ty_list_str, ty_list_list, ty_list_tuple, ty_str_none, ty_str_bool, ty_str_int, ty_str_str, ty_str_list, ty_str_tuple])))
local macro_rules | `(tactic| walk_at "m1") => `(tactic| first
  | ((with_reducible refine' toX ?mok ?_); (case mok => rfl); walk_at "d")
  | ((with_reducible refine toXs ?_); walk_at "d")
  | ((with_reducible refine toSs ?_); walk_at "d")
  | ((with_reducible refine' toS ?mok ?_); (case mok => rfl); walk_at "d")
  | ((with_reducible refine toI ?_); walk_at "d")
  | ((with_reducible refine toT0 ?_); walk_at "d")
  | ((with_reducible refine toT1 ?_); walk_at "d")
  | ((with_reducible refine' wTup_at ?mok ?_); (case mok => rfl); walk_at "d")
  | ((with_reducible refine' wLst_at ?mok ?_); (case mok => rfl); walk_at "d"))
local macro_rules | `(tactic| walk_at "m") => `(tactic| (walk_at "d"; repeat walk_at "m1"))
local macro_rules | `(tactic| walk_at "wd") => `(tactic| ((try dsimp only [X1, Xs1, I1, S1, Ss1, List.getElem?_cons_zero, List.getElem?_cons_succ, List.set_cons_zero, List.set_cons_succ, setAll, id, List.cons_append, List.nil_append, wipeE]); (try simp only [X1, Xs1, I1, S1, Ss1, List.getElem?_cons_zero, List.getElem?_cons_succ, List.set_cons_zero, List.set_cons_succ, setAll, id, List.cons_append, List.nil_append, wipeE]); (try simp only [wSeqI_l, wSeqI_t, wSeqI_r, wSeqI_s, wLstI_l, wLstI_r, lstW_l, lstW_r, seqW_l, seqW_t, seqW_r, datW_d, datW_r, datW_s, wHd_set, lenW_s, lenW_z, lenW_l, lenW_t, lenW_r, wRev_t, wRev_l, wRev_r, wAlt_t, wAlt_l, wAlt_r, wTru_n, wTru_b, wTru_i, wTru_z, wTru_l, wTru_t, wTru_r, wIx_s, wIx_z, wIx_l, wIx_t, wIx_r, wSl_t, wSl_l, wSl_r, wAdd_ii, wAdd_tt, wAdd_zz, wAdd_ll, wAdd_lr, wAdd_rl, wAdd_rr, wMul_ii, wMul_li, wMul_ti, wSub_ii, wFdv_ii, wMod_ii, wPow_ii, wNeg_i, wEq_ii, wEq_zz, wEq_nn, wEq_nb, wEq_ni, wEq_nz, wEq_nl, wEq_nt, wEq_nr, wEq_bn, wEq_bb, wEq_bi, wEq_bz, wEq_bl, wEq_bt, wEq_br, wEq_in, wEq_ib, wEq_iz, wEq_il, wEq_it, wEq_ir, wEq_zn, wEq_zb, wEq_zi, wEq_zl, wEq_zt, wEq_zr, wEq_ln, wEq_lb, wEq_li, wEq_lz, wEq_ll, wEq_lt, wEq_lr, wEq_tn, wEq_tb, wEq_ti, wEq_tz, wEq_tl, wEq_tt, wEq_tr, wEq_rn, wEq_rb, wEq_ri, wEq_rz, wEq_rl, wEq_sl, wEq_rt, wEq_rr, wNe_ii, wNe_zz, wNe_nn, wNe_nb, wNe_ni, wNe_nz, wNe_nl, wNe_nt, wNe_nr, wNe_bn, wNe_bb, wNe_bi, wNe_bz, wNe_bl, wNe_bt, wNe_br, wNe_in, wNe_ib, wNe_iz, wNe_il, wNe_it, wNe_ir, wNe_zn, wNe_zb, wNe_zi, wNe_zl, wNe_zt, wNe_zr, wNe_ln, wNe_lb, wNe_li, wNe_lz, wNe_ll, wNe_lt, wNe_lr, wNe_tn, wNe_tb, wNe_ti, wNe_tz, wNe_tl, wNe_tt, wNe_tr, wNe_rn, wNe_rb, wNe_ri, wNe_rz, wNe_rl, wNe_rt, wNe_rr, wLt_ii, wLe_ii, wGt_ii, wGe_ii, wInn_, wNin_, inW_l, inW_t, inW_r, inW_m, wIx_m, wIs_mn, wB_sorted, wB_max1, wSetI_m, wLenSet_e, wSrtSet_e, wDgetD_e, wIdx_e, wIs_nn, wIs_bn, wIs_in, wIs_zn, wIs_ln, wIs_tn, wIs_rn, wIs_sn, wIs_bb, wB_len, wB_abs, wB_int, wB_intb, wB_max, wB_min, wB_tuple, wB_list, wB_repr, wB_stri, wB_strz, wB_all, wB_any, wB_sum, wSl_s, wM_popAt, wM_clear, wM_reverse, wM_app, wM_pop, wM_ext, wRng_1, wRng_2, wRng_3, wRrg_1, wRrg_2, wRgv_1, wRgv_2, wBound_0, wBound_1, wIsi_i, wIsi_b, wIsi_n, wIsi_z, wIsi_l, wIsi_t, wIsi_r, tgW_1, tgW_2, ntt, nff, ite_tt, ite_ff, newL_e, wFrz_e, retW_e, gdOk_n, gdOk_s, id_eq, ite_T, ite_F, dec_T, dec_F, ty_int_none, ty_int_bool, ty_int_int, ty_int_str, ty_int_list, ty_int_tuple, ty_bool_none, ty_bool_bool, ty_bool_int, ty_bool_str, ty_bool_list, ty_bool_tuple, ty_tuple_none, ty_tuple_bool, ty_tuple_int, ty_tuple_str, ty_tuple_list, ty_tuple_tuple, ty_list_none, ty_list_bool, ty_list_int, ty_list_str, ty_list_list, ty_list_tuple, ty_str_none, ty_str_bool, ty_str_int, ty_str_str, ty_str_list, ty_str_tuple, bne_ff, bne_ft, bne_tf, bne_tt, bne_fb, bne_tb, iL_len, take_all, take_set, take_app, take_setapp, take_app2, take_app3, List.set_set, set_new, eqv_nilI, eqv_nilL, eqv_tup, eqv_lis, List.append_nil, ne_same, iL_snoc, iL_app, rep_one, Option.isSome_some, Option.isSome_none])))
local macro_rules | `(tactic| walk_at "ws") => `(tactic| first
  | omega
  | exact in62_of (by omega) (by omega)
  | exact ⟨in62_of (by omega) (by omega), in62_of (by omega) (by omega)⟩
  | exact ⟨in62_of (by omega) (by omega), in62_of (by omega) (by omega), by omega⟩
  | exact mulOk_l (by omega)
  | exact rep1_ok' (by omega) (by omega)
  | exact rep1_ok' b2i_nn (Int.le_trans b2i_le (by decide))
  | exact ⟨by simp, by omega, by omega, by simp⟩
  | exact mulOk_r (by omega)
  | exact ⟨by omega, log9 (by omega) (by omega)⟩
  | exact ⟨(by first | exact sh_tup | exact sh_lis | exact sh_nil | exact sh_nill | exact sh_int _ | rfl), (by first | exact sh_tup | exact sh_lis | exact sh_nil | exact sh_nill | exact sh_int _ | rfl)⟩
  | (simp only [List.length_append, List.length_replicate, List.length_singleton, List.length_cons, List.length_nil, iL_len, rgL_n]; omega)
  | exact fun _ => trivial
  | exact fun _ => get_old (by assumption)
  | exact fun _ => get_old get_new
  | assumption
  | rfl
  | decide)
local macro_rules | `(tactic| walk_at "w1") => `(tactic| first
  | ((with_reducible refine' toX ?mok ?_); (case mok => rfl); walk_at "wd")
  | ((with_reducible refine toXs ?_); walk_at "wd")
  | ((with_reducible refine toSs ?_); walk_at "wd")
  | ((with_reducible refine' toS ?mok ?_); (case mok => rfl); walk_at "wd")
  | ((with_reducible refine toI ?_); walk_at "wd")
  | ((with_reducible refine toT0 ?_); walk_at "wd")
  | ((with_reducible refine toT1 ?_); walk_at "wd")
  | ((with_reducible refine' wTup_at ?mok ?_); (case mok => rfl); walk_at "wd")
  | ((with_reducible refine' wLst_at ?mok ?_); (case mok => rfl); walk_at "wd")
  | ((with_reducible refine' frz_at ?mok ?mok2 ?_); (case mok => first | rfl | simp); (case mok2 => first | rfl | simp); walk_at "wd")
  | ((with_reducible refine' cell_at ?mok ?_); (case mok => first | exact get_new | assumption | exact get_c | exact getL rfl | exact get_old get_c | exact get_old (getL rfl) | exact get_set (by assumption) | exact get_newL (by simp) | exact get_old get_new | exact get_old (by assumption) | exact get_old (get_set (by assumption)) | exact get_old (get_old get_new)); walk_at "wd")
  | ((with_reducible refine' dct_at ?mok ?_); (case mok => first | exact get_new | assumption | exact get_c | exact getL rfl | exact get_old get_c | exact get_old (getL rfl) | exact get_set (by assumption) | exact get_newL (by simp) | exact get_old get_new | exact get_old (by assumption) | exact get_old (get_set (by assumption)) | exact get_old (get_old get_new)); walk_at "wd")
  | ((with_reducible refine' if_yes ?mok ?_); (case mok => omega); walk_at "wd")
  | ((with_reducible refine' if_no ?mok ?_); (case mok => omega); walk_at "wd")
  | ((with_reducible refine' ifn_yes ?mok ?_); (case mok => omega); walk_at "wd")
  | ((with_reducible refine' ifn_no ?mok ?_); (case mok => omega); walk_at "wd")
  | ((with_reducible refine' at_lit ?mok ?_); (case mok => rfl); walk_at "wd")
  | ((with_reducible refine' at_int ?mok ?mok2 ?_); (case mok => decide); (case mok2 => rfl); walk_at "wd")
  | ((with_reducible refine' wRaise_of ?mok ?mok2 ?mok3 ?_); (case mok => rfl); (case mok2 => rfl); (case mok3 => decide); walk_at "wd")
  | ((with_reducible refine' And.intro ?mok ?_); (case mok => walk_at "ws"); walk_at "wd"))
local macro_rules | `(tactic| walk_at "hn") => `(tactic| simp only [List.append_assoc, List.cons_append, List.nil_append, len_c1, len_c2, len_c3, len_c4, len_c5, len_c6, set_c, setL, List.set_cons_succ, List.set_cons_zero, take_c1])
local macro_rules | `(tactic| walk_at "w") => `(tactic| (walk_at "wd"; repeat walk_at "w1"))
local macro_rules | `(tactic| walk_at "wi") => `(tactic| (walk_at "wd"; repeat ((fail_if_success (with_reducible refine' isIff ?_)); walk_at "w1")))
variable {T : List MF} {k : Nat} {h : MH} {Q : MQ} {E : ME}
theorem lright_spec (B : Tab T) (i : Nat) {n : Nat} {fd : MCell} (hi : h[i]? = some fd) (hf : IsTape n fd) (hn : n ≤ 900000) (q : ∀ fd', IsTape (n + 20) fd' → Q (.d (.bool true)) (h.set i fd')) : wF T (k + 4) "_law_line_right" [.m i] h Q E := by
  refine toF B.t__law_line_right rfl ?_
  simp only [f__law_line_right, startE, List.map_cons, List.map_nil, List.length_cons, List.length_nil, Nat.reduceAdd, Nat.reduceSub, List.replicate_succ, List.replicate_zero, List.cons_append, List.nil_append]
  walk_at "w"
  refine tdraw_spec B _ _ (by first | exact get_new | exact hi | exact get_set hi | exact get_old get_new | exact get_old hi | exact get_old (get_set hi) | exact get_c | exact get_old get_c | exact get3 | exact get4 | exact get5 | exact get6 | exact get_old (get_old hi) | exact get_old (get_old (get_set hi))) hf (by omega) (by first | decide | omega) (by first | decide | omega) fun c fd c_0 c_1 hf => ?_
  first | rw [set_new] | rw [set_c] | rw [set_old get_c, set_c] | rw [set6] | rw [set5] | rw [set4] | rw [set3] | rw [set2] | rw [List.set_set] | rw [set_old get_new, set_new] | rw [set_old (get_set hi), List.set_set] | rw [set_old hi] | skip
  try walk_at "m"
  walk_at "w"
  refine wX_join (fun v h' => ∃ (m : Nat) (fd : MCell), v = .d (.int m) ∧ h' = h.set i fd ∧ 2 ≤ m ∧ m ≤ 1000000000000000000 ∧ IsTape (n + 10) fd) ?_ ?_ ?_
  · walk_at "w"
    refine number_spec B i (get_set hi) hf (by omega) fun m fd m0 m1 hf => ?_
    rw [List.set_set]
    exact ⟨m, fd, rfl, rfl, m0, by omega, hf.mono (by omega)⟩
  · walk_at "w"
    refine great_spec B i (get_set hi) hf (by omega) fun m fd m0 m1 hf => ?_
    rw [List.set_set]
    exact ⟨m, fd, rfl, rfl, m0, by omega, hf.mono (by omega)⟩
  clear hf c_0 c_1
  rintro v h' ⟨m, fd, rfl, rfl, m0, m1, hf⟩
  try dsimp only
  walk_at "w"
  refine tdraw_spec B _ _ (by first | exact get_new | exact hi | exact get_set hi | exact get_old get_new | exact get_old hi | exact get_old (get_set hi) | exact get_c | exact get_old get_c | exact get3 | exact get4 | exact get5 | exact get6 | exact get_old (get_old hi) | exact get_old (get_old (get_set hi))) hf (by omega) (by first | decide | omega) (by first | decide | omega) fun a fd a_0 a_1 hf => ?_
  first | rw [set_new] | rw [set_c] | rw [set_old get_c, set_c] | rw [set6] | rw [set5] | rw [set4] | rw [set3] | rw [set2] | rw [List.set_set] | rw [set_old get_new, set_new] | rw [set_old (get_set hi), List.set_set] | rw [set_old hi] | skip
  walk_at "wi"
  refine iff_sts (α := Int × MCell) (fun s => [some (.m i), some (.d (.int m)), some (.d (.int s.1)), none, none]) (fun s => h.set i s.2) (fun s => 0 ≤ s.1 ∧ s.1 < m ∧ IsTape (n + 13) s.2) ?_ ?_
  · walk_at "w"
    refine tdraw_spec B _ _ (by first | exact get_new | exact hi | exact get_set hi | exact get_old get_new | exact get_old hi | exact get_old (get_set hi) | exact get_c | exact get_old get_c | exact get3 | exact get4 | exact get5 | exact get6 | exact get_old (get_old hi) | exact get_old (get_old (get_set hi))) hf (by omega) (by first | decide | omega) (by first | decide | omega) fun d fd d_0 d_1 hf => ?_
    first | rw [set_new] | rw [set_c] | rw [set_old get_c, set_c] | rw [set6] | rw [set5] | rw [set4] | rw [set3] | rw [set2] | rw [List.set_set] | rw [set_old get_new, set_new] | rw [set_old (get_set hi), List.set_set] | rw [set_old hi] | skip
    try walk_at "m"
    walk_at "w"
    refine ite_dec (fun hd => ?_) (fun hd => ?_)
    · walk_at "w"
      refine tdraw_spec B _ _ (by first | exact get_new | exact hi | exact get_set hi | exact get_old get_new | exact get_old hi | exact get_old (get_set hi) | exact get_c | exact get_old get_c | exact get3 | exact get4 | exact get5 | exact get6 | exact get_old (get_old hi) | exact get_old (get_old (get_set hi))) hf (by omega) (by first | decide | omega) (by first | decide | omega) fun u fd u_0 u_1 hf => ?_
      first | rw [set_new] | rw [set_c] | rw [set_old get_c, set_c] | rw [set6] | rw [set5] | rw [set4] | rw [set3] | rw [set2] | rw [List.set_set] | rw [set_old get_new, set_new] | rw [set_old (get_set hi), List.set_set] | rw [set_old hi] | skip
      try walk_at "m"
      walk_at "w"
      refine at_mem (by omega) (by show _ < (6 : Int); omega) fun v hv => ?_
      obtain ⟨z, rfl, z0, z1⟩ : ∃ z : Int, v = .int z ∧ 0 ≤ z ∧ z < m := by
        have g2 := Int.emod_nonneg 2 (show (m : Int) ≠ 0 by omega)
        have g2' := Int.emod_lt_of_pos 2 (show (0 : Int) < m by omega)
        have g3 := Int.emod_nonneg 3 (show (m : Int) ≠ 0 by omega)
        have g3' := Int.emod_lt_of_pos 3 (show (0 : Int) < m by omega)
        simp only [List.mem_cons, List.not_mem_nil, or_false] at hv
        rcases hv with rfl | rfl | rfl | rfl | rfl | rfl
        · exact ⟨_, rfl, by omega, by omega⟩
        · exact ⟨_, rfl, by omega, by omega⟩
        · exact ⟨_, rfl, by omega, by omega⟩
        · exact ⟨_, rfl, by omega, by omega⟩
        · exact ⟨_, rfl, g2, g2'⟩
        · exact ⟨_, rfl, g3, g3'⟩
      walk_at "w"
      exact ⟨(z, fd), (by first | exact trivial | rfl), (by first | exact trivial | rfl), z0, z1, hf⟩
    · walk_at "w"
      exact ⟨(a, fd), (by first | exact trivial | rfl), (by first | exact trivial | rfl), a_0, a_1, hf.mono (by omega)⟩
  clear hf a_0 a_1
  rintro ⟨a, fd⟩ ⟨a0, a1, hf⟩
  walk_at "w"
  refine tdraw_spec B _ _ (by first | exact get_new | exact hi | exact get_set hi | exact get_old get_new | exact get_old hi | exact get_old (get_set hi) | exact get_c | exact get_old get_c | exact get3 | exact get4 | exact get5 | exact get6 | exact get_old (get_old hi) | exact get_old (get_old (get_set hi))) hf (by omega) (by first | decide | omega) (by first | decide | omega) fun b fd b_0 b_1 hf => ?_
  first | rw [set_new] | rw [set_c] | rw [set_old get_c, set_c] | rw [set6] | rw [set5] | rw [set4] | rw [set3] | rw [set2] | rw [List.set_set] | rw [set_old get_new, set_new] | rw [set_old (get_set hi), List.set_set] | rw [set_old hi] | skip
  try walk_at "m"
  walk_at "w"
  refine lpoly_spec B m [b, a] _ (Or.inl rfl) (by omega) (by simp) ?_
  dsimp only at a0 a1 hf
  have hI : ((uniq (tabL m (cut m [b, a]))).length : Int) = (m : Int) ↔ Int.gcd a m = 1 := tab_uniq.trans ((inj_cut (by omega)).trans (inj_line_iff m0))
  have hz : a = 0 → decide (Int.gcd a m = 1) = false := fun z => by
    subst z
    exact decide_eq_false (by rw [Int.zero_gcd]; omega)
  have go : ∀ bb : Bool, bb = decide (Int.gcd a m = 1) → wSs (wF T (k + 3)) (fun x _ h' => E x (h'.take h.length)) (
    (.cons (.iff (.cmp .ne (.blt .repr (.cons (.call "shuffles_line" (.cons (.var 1) (.cons (.var 3) .nil))) .nil)) (.blt .repr (.cons (.var 4) .nil))) (.cons (.ret (.cst (.bool false)))
    .nil) .nil)
    (.cons (.ret (.orr (.cmp .gt (.var 1) (.cst (.int 64))) (.cmp .eq (.call "_law_all_unlike" (.cons (.var 1) (.cons (.var 3) .nil))) (.var 4))))
    .nil))) [some (.m i), some (.d (.int m)), some (.d (.int a)), some (.d (.tuple (iL (cut m [b, a])))), some (.d (.bool bb))] (h.set i fd) { nx := fun _ h' => Q (.d .none) (h'.take h.length), rt := retW h.length Q, bk := fun _ _ => False, ct := fun _ _ => False } := by
    intro bb hb
    have hrp := repr_bool (b := bb)
    refine toSs ?_
    walk_at "w"
    refine sline_spec B m a b m0 a0 a1 ?_
    rw [← hb]
    walk_at "w"
    refine ite_dec (fun hm => ?_) (fun hm => ?_)
    · walk_at "w"
      rw [decide_eq_true hm]
      exact q _ (hf.mono (by omega))
    · walk_at "w"
      refine unlike_spec B m _ m0 (by omega) ?_
      rw [show decide (((uniq (tabL m (cut m [b, a]))).length : Int) = (m : Int)) = bb by rw [hb]; exact decide_eq_decide.mpr hI]
      walk_at "w"
      rw [show PyData.eqv (.bool bb) (.bool bb) = true by cases bb <;> decide +kernel]
      exact q _ (hf.mono (by omega))
  by_cases ha : a = 0
  · walk_at "wi"
    exact go _ (by rw [decide_eq_true ha, hz ha]; rfl)
  · walk_at "w"
    refine lcommon_spec B a m ?_
    walk_at "wi"
    exact go _ (decide_eq_decide.mpr (by omega))
theorem pright_spec (B : Tab T) (i : Nat) {n : Nat} {fd : MCell} (hi : h[i]? = some fd) (hf : IsTape n fd) (hn : n ≤ 900000) (q : ∀ fd', IsTape (n + 10) fd' → Q (.d (.bool true)) (h.set i fd')) : wF T (k + 4) "_law_power_right" [.m i] h Q E := by
  refine toF B.t__law_power_right rfl ?_
  simp only [f__law_power_right, startE, List.map_cons, List.map_nil, List.length_cons, List.length_nil, Nat.reduceAdd, Nat.reduceSub, List.replicate_succ, List.replicate_zero, List.cons_append, List.nil_append]
  walk_at "w"
  refine tdraw_spec B _ _ (by first | exact get_new | exact hi | exact get_set hi | exact get_old get_new | exact get_old hi | exact get_old (get_set hi) | exact get_c | exact get_old get_c | exact get3 | exact get4 | exact get5 | exact get6 | exact get_old (get_old hi) | exact get_old (get_old (get_set hi))) hf (by omega) (by first | decide | omega) (by first | decide | omega) fun c fd c_0 c_1 hf => ?_
  first | rw [set_new] | rw [set_c] | rw [set_old get_c, set_c] | rw [set6] | rw [set5] | rw [set4] | rw [set3] | rw [set2] | rw [List.set_set] | rw [set_old get_new, set_new] | rw [set_old (get_set hi), List.set_set] | rw [set_old hi] | skip
  try walk_at "m"
  walk_at "w"
  refine at_mem (by omega) (by show _ < (12 : Int); omega) fun v hv => ?_
  obtain ⟨p, rfl, hp2, hp⟩ : ∃ p : Nat, v = .int p ∧ (2 ≤ p ∧ p ≤ 10000) ∧ (p ≤ 41 → p ∈ pr43) := by
    have : ∀ v ∈ ([2, 3, 5, 7, 11, 13, 17, 31, 41, 997, 9973, 37] : List Nat), (2 ≤ v ∧ v ≤ 10000) ∧ (v ≤ 41 → v ∈ pr43) := by decide
    have hv : v ∈ ([2, 3, 5, 7, 11, 13, 17, 31, 41, 997, 9973, 37] : List Nat).map fun p : Nat => PyData.int p := hv
    obtain ⟨p, hp, rfl⟩ := List.mem_map.mp hv
    exact ⟨p, rfl, this p hp⟩
  walk_at "w"
  refine tdraw_spec B _ _ (by first | exact get_new | exact hi | exact get_set hi | exact get_old get_new | exact get_old hi | exact get_old (get_set hi) | exact get_c | exact get_old get_c | exact get3 | exact get4 | exact get5 | exact get6 | exact get_old (get_old hi) | exact get_old (get_old (get_set hi))) hf (by omega) (by first | decide | omega) (by first | decide | omega) fun a fd a_0 a_1 hf => ?_
  first | rw [set_new] | rw [set_c] | rw [set_old get_c, set_c] | rw [set6] | rw [set5] | rw [set4] | rw [set3] | rw [set2] | rw [List.set_set] | rw [set_old get_new, set_new] | rw [set_old (get_set hi), List.set_set] | rw [set_old hi] | skip
  try walk_at "m"
  walk_at "w"
  refine tdraw_spec B _ _ (by first | exact get_new | exact hi | exact get_set hi | exact get_old get_new | exact get_old hi | exact get_old (get_set hi) | exact get_c | exact get_old get_c | exact get3 | exact get4 | exact get5 | exact get6 | exact get_old (get_old hi) | exact get_old (get_old (get_set hi))) hf (by omega) (by first | decide | omega) (by first | decide | omega) fun b fd b_0 b_1 hf => ?_
  first | rw [set_new] | rw [set_c] | rw [set_old get_c, set_c] | rw [set6] | rw [set5] | rw [set4] | rw [set3] | rw [set2] | rw [List.set_set] | rw [set_old get_new, set_new] | rw [set_old (get_set hi), List.set_set] | rw [set_old hi] | skip
  try walk_at "m"
  walk_at "w"
  refine tdraw_spec B _ _ (by first | exact get_new | exact hi | exact get_set hi | exact get_old get_new | exact get_old hi | exact get_old (get_set hi) | exact get_c | exact get_old get_c | exact get3 | exact get4 | exact get5 | exact get6 | exact get_old (get_old hi) | exact get_old (get_old (get_set hi))) hf (by omega) (by first | decide | omega) (by first | decide | omega) fun e fd e_0 e_1 hf => ?_
  first | rw [set_new] | rw [set_c] | rw [set_old get_c, set_c] | rw [set6] | rw [set5] | rw [set4] | rw [set3] | rw [set2] | rw [List.set_set] | rw [set_old get_new, set_new] | rw [set_old (get_set hi), List.set_set] | rw [set_old hi] | skip
  try walk_at "m"
  walk_at "w"
  refine tdraw_spec B _ _ (by first | exact get_new | exact hi | exact get_set hi | exact get_old get_new | exact get_old hi | exact get_old (get_set hi) | exact get_c | exact get_old get_c | exact get3 | exact get4 | exact get5 | exact get6 | exact get_old (get_old hi) | exact get_old (get_old (get_set hi))) hf (by omega) (by first | decide | omega) (by first | decide | omega) fun d fd d_0 d_1 hf => ?_
  first | rw [set_new] | rw [set_c] | rw [set_old get_c, set_c] | rw [set6] | rw [set5] | rw [set4] | rw [set3] | rw [set2] | rw [List.set_set] | rw [set_old get_new, set_new] | rw [set_old (get_set hi), List.set_set] | rw [set_old hi] | skip
  try walk_at "m"
  walk_at "w"
  have e9 : (10 : Int) ^ Int.toNat 9 = 1000000000 := by decide +kernel
  refine at_mem (by omega) (by show _ < (3 : Int); omega) fun v hv => ?_
  obtain ⟨w, rfl, w1, w2⟩ : ∃ w : Nat, v = .int w ∧ 1 ≤ w ∧ w ≤ 1000000000 := by
    simp only [List.mem_cons, List.not_mem_nil, or_false] at hv
    rcases hv with rfl | rfl | rfl
    · exact ⟨(1 + a).toNat, by congr 1; omega, by omega, by omega⟩
    · exact ⟨(10 ^ Int.toNat 9 - b).toNat, by rw [e9]; congr 1; omega, by rw [e9]; omega, by rw [e9]; omega⟩
    · exact ⟨(1 + e).toNat, by congr 1; omega, by omega, by rw [e9] at e_1; omega⟩
  clear hv
  walk_at "w"
  refine lcommon_spec B w (p - 1) ?_
  have hd : decide (((Int.gcd w (p - 1) : Nat) : Int) = 1) = decide (Int.gcd w (p - 1) = 1) := decide_eq_decide.mpr (by omega)
  have hI : p ≤ 41 → w ≤ 40 → (((uniq (tabL p (List.replicate w 0 ++ [1]))).length : Int) = (p : Int) ↔ Int.gcd w (p - 1) = 1) := fun h1 h2 => by
    refine tab_uniq.trans ((power43 (hp h1) w1 h2 fun x => by rw [ev_mono]; omega).trans ?_)
    rw [show (p : Int) - 1 = ((p - 1 : Nat) : Int) by omega]
    exact Iff.rfl
  walk_at "wi"
  rw [hd]
  obtain ⟨bb, hb⟩ : ∃ bb, decide (Int.gcd w (p - 1) = 1) = bb := ⟨_, rfl⟩
  rw [hb]
  have hrp := repr_bool (b := bb)
  walk_at "w"
  refine spower_spec B p w ?_
  rw [hb]
  walk_at "w"
  refine ite_dec (fun h40 => ?_) (fun h40 => ?_)
  · walk_at "w"
    rw [decide_eq_true h40]
    exact q _ (hf.mono (by omega))
  walk_at "w"
  refine ite_dec (fun h41 => ?_) (fun h41 => ?_)
  · walk_at "w"
    rw [decide_eq_true h41]
    exact q _ (hf.mono (by omega))
  walk_at "w"
  rw [show ((w : Int)).toNat = w from Int.toNat_natCast w]
  refine unlike_spec B p _ (by omega) (by omega) ?_
  rw [show decide (((uniq (tabL p (List.replicate w 0 ++ [1]))).length : Int) = (p : Int)) = bb by rw [← hb]; exact decide_eq_decide.mpr (hI (by omega) (by omega))]
  walk_at "w"
  rw [show PyData.eqv (.bool bb) (.bool bb) = true by cases bb <;> decide +kernel]
  exact q _ (hf.mono (by omega))
theorem tright_spec (B : Tab T) (i : Nat) {n : Nat} {fd : MCell} (hi : h[i]? = some fd) (hf : IsTape n fd) (hn : n ≤ 900000) (q : ∀ fd', IsTape (n + 30) fd' → Q (.d (.bool true)) (h.set i fd')) : wF T (k + 4) "_law_twos_right" [.m i] h Q E := by
  refine toF B.t__law_twos_right rfl ?_
  simp only [f__law_twos_right, startE, List.map_cons, List.map_nil, List.length_cons, List.length_nil, Nat.reduceAdd, Nat.reduceSub, List.replicate_succ, List.replicate_zero, List.cons_append, List.nil_append]
  walk_at "w"
  refine tdraw_spec B _ _ (by first | exact get_new | exact hi | exact get_set hi | exact get_old get_new | exact get_old hi | exact get_old (get_set hi) | exact get_c | exact get_old get_c | exact get3 | exact get4 | exact get5 | exact get6 | exact get_old (get_old hi) | exact get_old (get_old (get_set hi))) hf (by omega) (by first | decide | omega) (by first | decide | omega) fun c fd c_0 c_1 hf => ?_
  first | rw [set_new] | rw [set_c] | rw [set_old get_c, set_c] | rw [set6] | rw [set5] | rw [set4] | rw [set3] | rw [set2] | rw [List.set_set] | rw [set_old get_new, set_new] | rw [set_old (get_set hi), List.set_set] | rw [set_old hi] | skip
  try walk_at "m"
  walk_at "w"
  refine tdraw_spec B _ _ (by first | exact get_new | exact hi | exact get_set hi | exact get_old get_new | exact get_old hi | exact get_old (get_set hi) | exact get_c | exact get_old get_c | exact get3 | exact get4 | exact get5 | exact get6 | exact get_old (get_old hi) | exact get_old (get_old (get_set hi))) hf (by omega) (by first | decide | omega) (by first | decide | omega) fun d fd d_0 d_1 hf => ?_
  first | rw [set_new] | rw [set_c] | rw [set_old get_c, set_c] | rw [set6] | rw [set5] | rw [set4] | rw [set3] | rw [set2] | rw [List.set_set] | rw [set_old get_new, set_new] | rw [set_old (get_set hi), List.set_set] | rw [set_old hi] | skip
  try walk_at "m"
  walk_at "w"
  refine at_mem (by omega) (by show _ < (8 : Int); omega) fun v hv => ?_
  obtain ⟨w, rfl, w1, w2⟩ : ∃ w : Nat, v = .int w ∧ 2 ≤ w ∧ w ≤ 59 := by
    simp only [List.mem_cons, List.not_mem_nil, or_false] at hv
    rcases hv with rfl | rfl | rfl | rfl | rfl | rfl | rfl | rfl
    · exact ⟨2, rfl, by decide, by decide⟩
    · exact ⟨3, rfl, by decide, by decide⟩
    · exact ⟨4, rfl, by decide, by decide⟩
    · exact ⟨5, rfl, by decide, by decide⟩
    · exact ⟨6, rfl, by decide, by decide⟩
    · exact ⟨59, rfl, by decide, by decide⟩
    · exact ⟨(2 + c).toNat, by congr 1; omega, by omega, by omega⟩
    · exact ⟨2, rfl, by decide, by decide⟩
  clear hv
  walk_at "w"
  refine lpower_spec B 2 w (by decide) (by omega) ?_
  obtain ⟨m, hm⟩ : ∃ m : Nat, 2 ^ w = m := ⟨_, rfl⟩
  have hP : m ≤ 1000000000000000000 := by
    rw [← hm]
    exact Nat.le_trans (Nat.pow_le_pow_right (by decide) w2) (by decide +kernel)
  have m0 : 4 ≤ m := by
    rw [← hm]
    exact Nat.le_trans (show 4 ≤ 2 ^ 2 by decide) (Nat.pow_le_pow_right (by decide) w1)
  rw [show (2 : Int) ^ w = (m : Int) by rw [← hm, Int.natCast_pow]; rfl]
  walk_at "w"
  refine lc_iv ?_
  walk_at "w"
  refine tdraw_spec B _ _ (by first | exact get_new | exact hi | exact get_set hi | exact get_old get_new | exact get_old hi | exact get_old (get_set hi) | exact get_c | exact get_old get_c | exact get3 | exact get4 | exact get5 | exact get6 | exact get_old (get_old hi) | exact get_old (get_old (get_set hi))) hf (by omega) (by first | decide | omega) (by first | decide | omega) fun r fd r_0 r_1 hf => ?_
  first | rw [set_new] | rw [set_c] | rw [set_old get_c, set_c] | rw [set6] | rw [set5] | rw [set4] | rw [set3] | rw [set2] | rw [List.set_set] | rw [set_old get_new, set_new] | rw [set_old (get_set hi), List.set_set] | rw [set_old hi] | skip
  try walk_at "m"
  refine ⟨in62_of (by omega) (by omega), fun j hh acc => ∃ fd l, IsTape (n + 3 + j) fd ∧ hh = h.set i fd ∧ acc = iL l ∧ l.length = j ∧ ∀ c ∈ l, 0 ≤ c ∧ c < (m : Int), ⟨_, [], hf, rfl, rfl, rfl, by simp⟩, ?_, ?_, ?_⟩
  · rintro j hh acc ⟨fd, l, _, rfl, _⟩; rw [set_lt, set_lt]
  · rintro j x hh acc hx ⟨fd, l, hf, rfl, rfl, hl, hr⟩
    obtain ⟨rfl, hj⟩ := rgL_get hx
    refine ⟨trivial, ?_⟩
    walk_at "m"
    refine tdraw_spec B _ _ (by first | exact get_new | exact hi | exact get_set hi | exact get_old get_new | exact get_old hi | exact get_old (get_set hi) | exact get_c | exact get_old get_c | exact get3 | exact get4 | exact get5 | exact get6 | exact get_old (get_old hi) | exact get_old (get_old (get_set hi))) hf (by omega) (by first | decide | omega) (by first | decide | omega) fun c fd c_0 c_1 hf => ?_
    first | rw [set_new] | rw [set_c] | rw [set_old get_c, set_c] | rw [set6] | rw [set5] | rw [set4] | rw [set3] | rw [set2] | rw [List.set_set] | rw [set_old get_new, set_new] | rw [set_old (get_set hi), List.set_set] | rw [set_old hi] | skip
    try walk_at "m"
    rw [set_lt]
    refine ⟨by rw [iL_len]; omega, _, take1' set_lt, _, l ++ [_], hf.mono (by omega), rfl, iL_snoc, by simp [hl], fun x hx => ?_⟩
    rcases List.mem_append.mp hx with z | z
    · exact hr x z
    · rw [List.mem_singleton.mp z]; exact ⟨c_0, c_1⟩
  clear hf
  rintro hh acc ⟨fd, l, hf, rfl, rfl, hl, hr⟩
  rw [rgL_n] at hl hf
  refine ⟨trivial, ?_⟩
  rw [set_lt]
  walk_at "wi"
  refine iff_sts (α := List Int × MCell) (fun s => [some (.m i), some (.d (.int w)), some (.d (.int m)), some (.r h.length), none, none, none]) (fun s => h.set i s.2 ++ [iL s.1]) (fun s => s.1.length ≤ 14 ∧ IsTape (n + 20) s.2) ?_ ?_
  · walk_at "w"
    refine ite_dec (fun h4 => ?_) (fun h4 => ?_)
    · walk_at "w"
      refine tdraw_spec B _ _ (by first | exact get_new | exact hi | exact get_set hi | exact get_old get_new | exact get_old hi | exact get_old (get_set hi) | exact get_c | exact get_old get_c | exact get3 | exact get4 | exact get5 | exact get6 | exact get_old (get_old hi) | exact get_old (get_old (get_set hi))) hf (by omega) (by first | decide | omega) (by first | decide | omega) fun e fd e_0 e_1 hf => ?_
      first | rw [set_new] | rw [set_c] | rw [set_old get_c, set_c] | rw [set6] | rw [set5] | rw [set4] | rw [set3] | rw [set2] | rw [List.set_set] | rw [set_old get_new, set_new] | rw [set_old (get_set hi), List.set_set] | rw [set_old hi] | skip
      try walk_at "m"
      walk_at "w"
      refine ite_dec (fun h5 => ?_) (fun h5 => ?_)
      · walk_at "w"
        refine at_co (j := 1) rfl (by omega) ?_
        walk_at "w"
        refine at_co (j := 1) rfl (by omega) ?_
        walk_at "w"
        refine setI_at (get_newL (by simp)) (ixN_nat (j := 1) rfl (by rw [iL_len]; omega)) ?_
        rw [set_newL (by simp), iL_set]
        obtain ⟨l1, hl1, e1⟩ : ∃ l1, l.set 1 (co l 1 - co l 1 % 2 + 1) = l1 ∧ l1.length = l.length := ⟨_, rfl, List.length_set ..⟩
        rw [hl1]
        walk_at "w"
        refine at_co (j := 2) rfl (by omega) ?_
        walk_at "w"
        rw [alt_iL, intsL_iL]
        dsimp only
        generalize (alt (l1.drop 2)).sum = z1
        walk_at "w"
        refine setI_at (get_newL (by simp)) (ixN_nat (j := 2) rfl (by rw [iL_len]; omega)) ?_
        rw [set_newL (by simp), iL_set]
        obtain ⟨l2, hl2, e2⟩ : ∃ l2, l1.set 2 ((co l1 2 + z1 % 2) % m) = l2 ∧ l2.length = l1.length := ⟨_, rfl, List.length_set ..⟩
        rw [hl2]
        walk_at "w"
        refine at_co (j := 3) rfl (by omega) ?_
        walk_at "w"
        rw [alt_iL, intsL_iL]
        dsimp only
        generalize (alt (l2.drop 3)).sum = z2
        walk_at "w"
        refine setI_at (get_newL (by simp)) (ixN_nat (j := 3) rfl (by rw [iL_len]; omega)) ?_
        rw [set_newL (by simp), iL_set]
        obtain ⟨l3, hl3, e3⟩ : ∃ l3, l2.set 3 ((co l2 3 + z2 % 2) % m) = l3 ∧ l3.length = l2.length := ⟨_, rfl, List.length_set ..⟩
        rw [hl3]
        walk_at "w"
        exact ⟨(l3, fd), (by first | exact trivial | rfl), (by first | exact trivial | rfl), by dsimp only; omega, hf.mono (by omega)⟩
      · walk_at "w"
        exact ⟨(l, fd), (by first | exact trivial | rfl), (by first | exact trivial | rfl), by dsimp only; omega, hf.mono (by omega)⟩
    · walk_at "w"
      exact ⟨(l, fd), (by first | exact trivial | rfl), (by first | exact trivial | rfl), by dsimp only; omega, hf.mono (by omega)⟩
  rintro ⟨l, fd⟩ ⟨hl, hf⟩
  dsimp only at hl hf
  walk_at "w"
  refine lpoly_spec B m l _ (Or.inr (Or.inr ⟨_, rfl, get_newL (by simp)⟩)) (by omega) (by omega) ?_
  have hI : w ≤ 6 → (((uniq (tabL m (cut m l))).length : Int) = (m : Int) ↔ Twos (cut m l)) := fun h1 => by
    refine tab_uniq.trans ?_
    rw [← hm]
    exact twos_inj w1
  have hcl := cut_len (m : Int) l
  generalize cut (m : Int) l = f at *
  have go : ∀ bb : Bool, bb = decide (Twos f) → wSs (wF T (k + 3)) (fun x _ h' => E x (h'.take h.length)) (
    (.cons (.iff (.cmp .ne (.blt .repr (.cons (.call "shuffles_twos" (.cons (.var 1) (.cons (.var 5) .nil))) .nil)) (.blt .repr (.cons (.var 6) .nil))) (.cons (.ret (.cst (.bool false)))
    .nil) .nil)
    (.cons (.ret (.orr (.cmp .gt (.var 1) (.cst (.int 6))) (.cmp .eq (.call "_law_all_unlike" (.cons (.var 2) (.cons (.var 5) .nil))) (.var 6))))
    .nil))) [some (.m i), some (.d (.int w)), some (.d (.int m)), some (.r h.length), none, some (.d (.tuple (iL f))), some (.d (.bool bb))] (h.set i fd ++ [iL l]) { nx := fun _ h' => Q (.d .none) (h'.take h.length), rt := retW h.length Q, bk := fun _ _ => False, ct := fun _ _ => False } := by
    intro bb hb
    have hrp := repr_bool (b := bb)
    refine toSs ?_
    walk_at "w"
    refine stwos_spec B w f ?_
    rw [← hb]
    walk_at "w"
    refine ite_dec (fun h6 => ?_) (fun h6 => ?_)
    · walk_at "w"
      rw [decide_eq_true h6]
      exact q _ (hf.mono (by omega))
    · walk_at "w"
      refine unlike_spec B m f (by omega) (by
        rw [← hm]
        exact Nat.le_trans (Nat.pow_le_pow_right (by decide) (show w ≤ 6 by omega)) (by decide)) ?_
      rw [show decide (((uniq (tabL m f)).length : Int) = (m : Int)) = bb by rw [hb]; exact decide_eq_decide.mpr (hI (by omega))]
      walk_at "w"
      rw [show PyData.eqv (.bool bb) (.bool bb) = true by cases bb <;> decide +kernel]
      exact q _ (hf.mono (by omega))
  walk_at "w"
  refine ite_dec (fun h1 => ?_) (fun h1 => ?_)
  · walk_at "w"
    refine at_co (j := 1) rfl (by omega) ?_
    walk_at "w"
    refine ite_dec (fun h2 => ?_) (fun h2 => ?_)
    · walk_at "w"
      rw [alt_iL, intsL_iL]
      walk_at "w"
      refine ite_dec (fun h3 => ?_) (fun h3 => ?_)
      · walk_at "w"
        rw [alt_iL, intsL_iL]
        walk_at "wi"
        exact go _ (decide_eq_decide.mpr ⟨fun z => ⟨by omega, h2, h3, z⟩, fun z => z.2.2.2⟩)
      · walk_at "wi"
        exact go _ (decide_eq_decide.mpr ⟨fun z => absurd z h3, fun z => z.2.2.1⟩)
    · walk_at "wi"
      exact go _ (decide_eq_decide.mpr ⟨fun z => absurd z h2, fun z => z.2.1⟩)
  · walk_at "wi"
    exact go _ (decide_eq_decide.mpr ⟨fun z => absurd z h1, fun z => by have := z.1; omega⟩)
end Law
end
section
set_option Elab.async false
set_option linter.all false
set_option maxRecDepth 100000
set_option pp.maxSteps 1200
set_option maxHeartbeats 2000000
set_option exponentiation.threshold 3000
namespace Law
open PySem Mini
local macro_rules | `(tactic| walk_at "d") => `(tactic| ((try dsimp only [X1, Xs1, I1, S1, Ss1, List.getElem?_cons_zero, List.getElem?_cons_succ, List.set_cons_zero, List.set_cons_succ, setAll, id, List.cons_append, List.nil_append, wipeE]); (try simp only [wSeqI_l, wSeqI_t, wSeqI_r, wSeqI_s, wLstI_l, wLstI_r, lstW_l, lstW_r, seqW_l, seqW_t, seqW_r, datW_d, datW_r, datW_s, wHd_set, lenW_s, lenW_z, lenW_l, lenW_t, lenW_r, wRev_t, wRev_l, wRev_r, wAlt_t, wAlt_l, wAlt_r, wTru_n, wTru_b, wTru_i, wTru_z, wTru_l, wTru_t, wTru_r, wIx_s, wIx_z, wIx_l, wIx_t, wIx_r, wSl_t, wSl_l, wSl_r, wAdd_ii, wAdd_tt, wAdd_zz, wAdd_ll, wAdd_lr, wAdd_rl, wAdd_rr, wMul_ii, wMul_li, wMul_ti, wSub_ii, wFdv_ii, wMod_ii, wPow_ii, wNeg_i, wEq_ii, wEq_zz, wEq_nn, wEq_nb, wEq_ni, wEq_nz, wEq_nl, wEq_nt, wEq_nr, wEq_bn, wEq_bb, wEq_bi, wEq_bz, wEq_bl, wEq_bt, wEq_br, wEq_in, wEq_ib, wEq_iz, wEq_il, wEq_it, wEq_ir, wEq_zn, wEq_zb, wEq_zi, wEq_zl, wEq_zt, wEq_zr, wEq_ln, wEq_lb, wEq_li, wEq_lz, wEq_ll, wEq_lt, wEq_lr, wEq_tn, wEq_tb, wEq_ti, wEq_tz, wEq_tl, wEq_tt, wEq_tr, wEq_rn, wEq_rb, wEq_ri, wEq_rz, wEq_rl, wEq_sl, wEq_rt, wEq_rr, wNe_ii, wNe_zz, wNe_nn, wNe_nb, wNe_ni, wNe_nz, wNe_nl, wNe_nt, wNe_nr, wNe_bn, wNe_bb, wNe_bi, wNe_bz, wNe_bl, wNe_bt, wNe_br, wNe_in, wNe_ib, wNe_iz, wNe_il, wNe_it, wNe_ir, wNe_zn, wNe_zb, wNe_zi, wNe_zl, wNe_zt, wNe_zr, wNe_ln, wNe_lb, wNe_li, wNe_lz, wNe_ll, wNe_lt, wNe_lr, wNe_tn, wNe_tb, wNe_ti, wNe_tz, wNe_tl, wNe_tt, wNe_tr, wNe_rn, wNe_rb, wNe_ri, wNe_rz, wNe_rl, wNe_rt, wNe_rr, wLt_ii, wLe_ii, wGt_ii, wGe_ii, wInn_, wNin_, inW_l, inW_t, inW_r, inW_m, wIx_m, wIs_mn, wB_sorted, wB_max1, wSetI_m, wLenSet_e, wSrtSet_e, wDgetD_e, wIdx_e, wIs_nn, wIs_bn, wIs_in, wIs_zn, wIs_ln, wIs_tn, wIs_rn, wIs_sn, wIs_bb, wB_len, wB_abs, wB_int, wB_intb, wB_max, wB_min, wB_tuple, wB_list, wB_repr, wB_stri, wB_strz, wB_all, wB_any, wB_sum, wSl_s, wM_popAt, wM_clear, wM_reverse, wM_app, wM_pop, wM_ext, wRng_1, wRng_2, wRng_3, wRrg_1, wRrg_2, wRgv_1, wRgv_2, wBound_0, wBound_1, wIsi_i, wIsi_b, wIsi_n, wIsi_z, wIsi_l, wIsi_t, wIsi_r, tgW_1, tgW_2, ntt, nff, ite_tt, ite_ff, newL_e, wFrz_e, retW_e, gdOk_n, gdOk_s, id_eq, ite_T, ite_F, dec_T, dec_F, ty_int_none, ty_int_bool, ty_int_int, ty_int_str, ty_int_list, ty_int_tuple, ty_bool_none, ty_bool_bool, ty_bool_int, ty_bool_str, ty_bool_list, ty_bool_tuple, ty_tuple_none, ty_tuple_bool, ty_tuple_int, ty_tuple_str, ty_tuple_list, ty_tuple_tuple, ty_list_none, ty_list_bool, ty_list_int, ty_list_str, ty_list_list, ty_list_tuple, ty_str_none, ty_str_bool, ty_str_int, ty_str_str, ty_str_list, ty_str_tuple])))
local macro_rules | `(tactic| walk_at "m1") => `(tactic| first
  | ((with_reducible refine' toX ?mok ?_); (case mok => rfl); walk_at "d")
  | ((with_reducible refine toXs ?_); walk_at "d")
  | ((with_reducible refine toSs ?_); walk_at "d")
  | ((with_reducible refine' toS ?mok ?_); (case mok => rfl); walk_at "d")
  | ((with_reducible refine toI ?_); walk_at "d")
  | ((with_reducible refine toT0 ?_); walk_at "d")
  | ((with_reducible refine toT1 ?_); walk_at "d")
  | ((with_reducible refine' wTup_at ?mok ?_); (case mok => rfl); walk_at "d")
  | ((with_reducible refine' wLst_at ?mok ?_); (case mok => rfl); walk_at "d"))
local macro_rules | `(tactic| walk_at "m") => `(tactic| (walk_at "d"; repeat walk_at "m1"))
local macro_rules | `(tactic| walk_at "wd") => `(tactic| ((try dsimp only [X1, Xs1, I1, S1, Ss1, List.getElem?_cons_zero, List.getElem?_cons_succ, List.set_cons_zero, List.set_cons_succ, setAll, id, List.cons_append, List.nil_append, wipeE]); (try simp only [X1, Xs1, I1, S1, Ss1, List.getElem?_cons_zero, List.getElem?_cons_succ, List.set_cons_zero, List.set_cons_succ, setAll, id, List.cons_append, List.nil_append, wipeE]); (try simp only [wSeqI_l, wSeqI_t, wSeqI_r, wSeqI_s, wLstI_l, wLstI_r, lstW_l, lstW_r, seqW_l, seqW_t, seqW_r, datW_d, datW_r, datW_s, wHd_set, lenW_s, lenW_z, lenW_l, lenW_t, lenW_r, wRev_t, wRev_l, wRev_r, wAlt_t, wAlt_l, wAlt_r, wTru_n, wTru_b, wTru_i, wTru_z, wTru_l, wTru_t, wTru_r, wIx_s, wIx_z, wIx_l, wIx_t, wIx_r, wSl_t, wSl_l, wSl_r, wAdd_ii, wAdd_tt, wAdd_zz, wAdd_ll, wAdd_lr, wAdd_rl, wAdd_rr, wMul_ii, wMul_li, wMul_ti, wSub_ii, wFdv_ii, wMod_ii, wPow_ii, wNeg_i, wEq_ii, wEq_zz, wEq_nn, wEq_nb, wEq_ni, wEq_nz, wEq_nl, wEq_nt, wEq_nr, wEq_bn, wEq_bb, wEq_bi, wEq_bz, wEq_bl, wEq_bt, wEq_br, wEq_in, wEq_ib, wEq_iz, wEq_il, wEq_it, wEq_ir, wEq_zn, wEq_zb, wEq_zi, wEq_zl, wEq_zt, wEq_zr, wEq_ln, wEq_lb, wEq_li, wEq_lz, wEq_ll, wEq_lt, wEq_lr, wEq_tn, wEq_tb, wEq_ti, wEq_tz, wEq_tl, wEq_tt, wEq_tr, wEq_rn, wEq_rb, wEq_ri, wEq_rz, wEq_rl, wEq_sl, wEq_rt, wEq_rr, wNe_ii, wNe_zz, wNe_nn, wNe_nb, wNe_ni, wNe_nz, wNe_nl, wNe_nt, wNe_nr, wNe_bn, wNe_bb, wNe_bi, wNe_bz, wNe_bl, wNe_bt, wNe_br, wNe_in, wNe_ib, wNe_iz, wNe_il, wNe_it, wNe_ir, wNe_zn, wNe_zb, wNe_zi, wNe_zl, wNe_zt, wNe_zr, wNe_ln, wNe_lb, wNe_li, wNe_lz, wNe_ll, wNe_lt, wNe_lr, wNe_tn, wNe_tb, wNe_ti, wNe_tz, wNe_tl, wNe_tt, wNe_tr, wNe_rn, wNe_rb, wNe_ri, wNe_rz, wNe_rl, wNe_rt, wNe_rr, wLt_ii, wLe_ii, wGt_ii, wGe_ii, wInn_, wNin_, inW_l, inW_t, inW_r, inW_m, wIx_m, wIs_mn, wB_sorted, wB_max1, wSetI_m, wLenSet_e, wSrtSet_e, wDgetD_e, wIdx_e, wIs_nn, wIs_bn, wIs_in, wIs_zn, wIs_ln, wIs_tn, wIs_rn, wIs_sn, wIs_bb, wB_len, wB_abs, wB_int, wB_intb, wB_max, wB_min, wB_tuple, wB_list, wB_repr, wB_stri, wB_strz, wB_all, wB_any, wB_sum, wSl_s, wM_popAt, wM_clear, wM_reverse, wM_app, wM_pop, wM_ext, wRng_1, wRng_2, wRng_3, wRrg_1, wRrg_2, wRgv_1, wRgv_2, wBound_0, wBound_1, wIsi_i, wIsi_b, wIsi_n, wIsi_z, wIsi_l, wIsi_t, wIsi_r, tgW_1, tgW_2, ntt, nff, ite_tt, ite_ff, newL_e, wFrz_e, retW_e, gdOk_n, gdOk_s, id_eq, ite_T, ite_F, dec_T, dec_F, ty_int_none, ty_int_bool, ty_int_int, ty_int_str, ty_int_list, ty_int_tuple, ty_bool_none, ty_bool_bool, ty_bool_int, ty_bool_str, ty_bool_list, ty_bool_tuple, ty_tuple_none, ty_tuple_bool, ty_tuple_int, ty_tuple_str, ty_tuple_list, ty_tuple_tuple, ty_list_none, ty_list_bool, ty_list_int, ty_list_str, ty_list_list, ty_list_tuple, ty_str_none, ty_str_bool, ty_str_int, ty_str_str, ty_str_list, ty_str_tuple, bne_ff, bne_ft, bne_tf, bne_tt, bne_fb, bne_tb, iL_len, take_all, take_set, take_app, take_setapp, take_app2, take_app3, List.set_set, set_new, eqv_nilI, eqv_nilL, eqv_tup, eqv_lis, List.append_nil, ne_same, iL_snoc, iL_app, rep_one, Option.isSome_some, Option.isSome_none])))
local macro_rules | `(tactic| walk_at "ws") => `(tactic| first
  | omega
  | exact in62_of (by omega) (by omega)
  | exact ⟨in62_of (by omega) (by omega), in62_of (by omega) (by omega)⟩
  | exact ⟨in62_of (by omega) (by omega), in62_of (by omega) (by omega), by omega⟩
  | exact mulOk_l (by omega)
  | exact rep1_ok' (by omega) (by omega)
  | exact rep1_ok' b2i_nn (Int.le_trans b2i_le (by decide))
  | exact ⟨by simp, by omega, by omega, by simp⟩
  | exact mulOk_r (by omega)
  | exact ⟨by omega, log9 (by omega) (by omega)⟩
  | exact ⟨(by first | exact sh_tup | exact sh_lis | exact sh_nil | exact sh_nill | exact sh_int _ | rfl), (by first | exact sh_tup | exact sh_lis | exact sh_nil | exact sh_nill | exact sh_int _ | rfl)⟩
  | (simp only [List.length_append, List.length_replicate, List.length_singleton, List.length_cons, List.length_nil, iL_len, rgL_n]; omega)
  | exact fun _ => trivial
  | exact fun _ => get_old (by assumption)
  | exact fun _ => get_old get_new
  | assumption
  | rfl
  | decide)
local macro_rules | `(tactic| walk_at "w1") => `(tactic| first
  | ((with_reducible refine' toX ?mok ?_); (case mok => rfl); walk_at "wd")
  | ((with_reducible refine toXs ?_); walk_at "wd")
  | ((with_reducible refine toSs ?_); walk_at "wd")
  | ((with_reducible refine' toS ?mok ?_); (case mok => rfl); walk_at "wd")
  | ((with_reducible refine toI ?_); walk_at "wd")
  | ((with_reducible refine toT0 ?_); walk_at "wd")
  | ((with_reducible refine toT1 ?_); walk_at "wd")
  | ((with_reducible refine' wTup_at ?mok ?_); (case mok => rfl); walk_at "wd")
  | ((with_reducible refine' wLst_at ?mok ?_); (case mok => rfl); walk_at "wd")
  | ((with_reducible refine' frz_at ?mok ?mok2 ?_); (case mok => first | rfl | simp); (case mok2 => first | rfl | simp); walk_at "wd")
  | ((with_reducible refine' cell_at ?mok ?_); (case mok => first | exact get_new | assumption | exact get_c | exact getL rfl | exact get_old get_c | exact get_old (getL rfl) | exact get_set (by assumption) | exact get_newL (by simp) | exact get_old get_new | exact get_old (by assumption) | exact get_old (get_set (by assumption)) | exact get_old (get_old get_new)); walk_at "wd")
  | ((with_reducible refine' dct_at ?mok ?_); (case mok => first | exact get_new | assumption | exact get_c | exact getL rfl | exact get_old get_c | exact get_old (getL rfl) | exact get_set (by assumption) | exact get_newL (by simp) | exact get_old get_new | exact get_old (by assumption) | exact get_old (get_set (by assumption)) | exact get_old (get_old get_new)); walk_at "wd")
  | ((with_reducible refine' if_yes ?mok ?_); (case mok => omega); walk_at "wd")
  | ((with_reducible refine' if_no ?mok ?_); (case mok => omega); walk_at "wd")
  | ((with_reducible refine' ifn_yes ?mok ?_); (case mok => omega); walk_at "wd")
  | ((with_reducible refine' ifn_no ?mok ?_); (case mok => omega); walk_at "wd")
  | ((with_reducible refine' at_lit ?mok ?_); (case mok => rfl); walk_at "wd")
  | ((with_reducible refine' at_int ?mok ?mok2 ?_); (case mok => decide); (case mok2 => rfl); walk_at "wd")
  | ((with_reducible refine' wRaise_of ?mok ?mok2 ?mok3 ?_); (case mok => rfl); (case mok2 => rfl); (case mok3 => decide); walk_at "wd")
  | ((with_reducible refine' And.intro ?mok ?_); (case mok => walk_at "ws"); walk_at "wd"))
local macro_rules | `(tactic| walk_at "hn") => `(tactic| simp only [List.append_assoc, List.cons_append, List.nil_append, len_c1, len_c2, len_c3, len_c4, len_c5, len_c6, set_c, setL, List.set_cons_succ, List.set_cons_zero, take_c1])
local macro_rules | `(tactic| walk_at "w") => `(tactic| (walk_at "wd"; repeat walk_at "w1"))
local macro_rules | `(tactic| walk_at "wi") => `(tactic| (walk_at "wd"; repeat ((fail_if_success (with_reducible refine' isIff ?_)); walk_at "w1")))
variable {T : List MF} {k : Nat} {h : MH} {Q : MQ} {E : ME}
theorem law_spec (B : Tab T) (ns : List Int) (hl : ns.length ≤ 63) (q : ∀ h', Q (.d (.bool true)) h') : wF T (k + 9) "law" [.s ns] h Q E := by
  refine toF B.t_law rfl ?_
  simp only [f_law, startE, List.map_cons, List.map_nil, List.length_cons, List.length_nil, Nat.reduceAdd, Nat.reduceSub, List.replicate_succ, List.replicate_zero, List.cons_append, List.nil_append]
  walk_at "w"
  refine feed_spec B ns fun fd hf => ?_
  walk_at "w"
  refine for_st (α := MCell × Option MV) (fun (fd, s2) => [some (.s ns), some (.m h.length), s2]) (fun s => h ++ [s.1]) (fun i s => IsTape (1000 * i) s.1) (fd, none) rfl rfl hf ?_ ?_
  · rintro i ⟨fd, s2⟩ x hx hf
    obtain ⟨rfl, hi⟩ := rgL_get hx
    dsimp only at hf
    have hi : i < 4 := by simpa using hi
    refine ⟨trivial, ?_⟩
    walk_at "w"
    refine lright_spec B h.length get_new hf (by omega) fun fd hf => ?_
    first | rw [set_new] | rw [set_c] | rw [set_old get_c, set_c] | rw [set6] | rw [set5] | rw [set4] | rw [set3] | rw [set2] | rw [List.set_set] | rw [set_old get_new, set_new] | rw [set_old (get_set hi), List.set_set] | rw [set_old hi] | skip
    walk_at "w"
    refine pright_spec B h.length get_new hf (by omega) fun fd hf => ?_
    first | rw [set_new] | rw [set_c] | rw [set_old get_c, set_c] | rw [set6] | rw [set5] | rw [set4] | rw [set3] | rw [set2] | rw [List.set_set] | rw [set_old get_new, set_new] | rw [set_old (get_set hi), List.set_set] | rw [set_old hi] | skip
    walk_at "w"
    refine tright_spec B h.length get_new hf (by omega) fun fd hf => ?_
    first | rw [set_new] | rw [set_c] | rw [set_old get_c, set_c] | rw [set6] | rw [set5] | rw [set4] | rw [set3] | rw [set2] | rw [List.set_set] | rw [set_old get_new, set_new] | rw [set_old (get_set hi), List.set_set] | rw [set_old hi] | skip
    walk_at "w"
    exact ⟨(fd, _), (by first | exact trivial | rfl), (by first | exact trivial | rfl), hf.mono (by omega)⟩
  rintro ⟨fd, s2⟩ hf
  refine ⟨trivial, ?_⟩
  walk_at "w"
  exact q _
end Law
end
section
set_option Elab.async false
set_option linter.all false
set_option maxRecDepth 100000
set_option maxHeartbeats 4000000
namespace Law
open PySem Mini
def tabB : Tb := ⟨["abs", "len", "list", "range", "repr", "set", "sum", "tuple"], [], ["common", "shuffles_line", "shuffles_power", "shuffles_twos", "_law_feed", "_law_draw", "_law_common", "_law_poly", "_law_value", "_law_number", "_law_great", "_law_power_of", "_law_all_unlike", "_law_line_right", "_law_power_right", "_law_twos_right", "law"], [], [], [], []⟩
def tabT : List MF := [f_common, f_shuffles_line, f_shuffles_power, f_shuffles_twos, f__law_feed, f__law_draw, f__law_common, f__law_poly, f__law_value, f__law_number, f__law_great, f__law_power_of, f__law_all_unlike, f__law_line_right, f__law_power_right, f__law_twos_right, f_law]
def topS (i : Nat) : Stmt := PySem.Challenge.pw_shufflerests_k43_told_signs.main.body.getD i (.Pass ⟨0, 0, 0, 0⟩)
theorem st_common : StOk tabB f_common (topS 1) := ⟨⟨rfl, rfl, rfl, by decide +kernel, rfl, by decide +kernel, by decide +kernel⟩, by decide +kernel, by decide, fun _ _ _ _ _ _ us hl => match us, hl with | [_, _], _ => rfl⟩
theorem st_shuffles_line : StOk tabB f_shuffles_line (topS 3) := ⟨⟨rfl, rfl, rfl, by decide +kernel, rfl, by decide +kernel, by decide +kernel⟩, by decide +kernel, by decide, fun _ _ _ _ _ _ us hl => match us, hl with | [_, _], _ => rfl⟩
theorem st_shuffles_power : StOk tabB f_shuffles_power (topS 4) := ⟨⟨rfl, rfl, rfl, by decide +kernel, rfl, by decide +kernel, by decide +kernel⟩, by decide +kernel, by decide, fun _ _ _ _ _ _ us hl => match us, hl with | [_, _], _ => rfl⟩
theorem st_shuffles_twos : StOk tabB f_shuffles_twos (topS 5) := ⟨⟨rfl, rfl, rfl, by decide +kernel, rfl, by decide +kernel, by decide +kernel⟩, by decide +kernel, by decide, fun _ _ _ _ _ _ us hl => match us, hl with | [_, _], _ => rfl⟩
theorem st__law_feed : StOk tabB f__law_feed (topS 7) := ⟨⟨rfl, rfl, rfl, by decide +kernel, rfl, by decide +kernel, by decide +kernel⟩, by decide +kernel, by decide, fun _ _ _ _ _ _ us hl => match us, hl with | [_], _ => rfl⟩
theorem st__law_draw : StOk tabB f__law_draw (topS 8) := ⟨⟨rfl, rfl, rfl, by decide +kernel, rfl, by decide +kernel, by decide +kernel⟩, by decide +kernel, by decide, fun _ _ _ _ _ _ us hl => match us, hl with | [_, _], _ => rfl⟩
theorem st__law_common : StOk tabB f__law_common (topS 9) := ⟨⟨rfl, rfl, rfl, by decide +kernel, rfl, by decide +kernel, by decide +kernel⟩, by decide +kernel, by decide, fun _ _ _ _ _ _ us hl => match us, hl with | [_, _], _ => rfl⟩
theorem st__law_poly : StOk tabB f__law_poly (topS 10) := ⟨⟨rfl, rfl, rfl, by decide +kernel, rfl, by decide +kernel, by decide +kernel⟩, by decide +kernel, by decide, fun _ _ _ _ _ _ us hl => match us, hl with | [_, _], _ => rfl⟩
theorem st__law_value : StOk tabB f__law_value (topS 11) := ⟨⟨rfl, rfl, rfl, by decide +kernel, rfl, by decide +kernel, by decide +kernel⟩, by decide +kernel, by decide, fun _ _ _ _ _ _ us hl => match us, hl with | [_, _, _], _ => rfl⟩
theorem st__law_number : StOk tabB f__law_number (topS 12) := ⟨⟨rfl, rfl, rfl, by decide +kernel, rfl, by decide +kernel, by decide +kernel⟩, by decide +kernel, by decide, fun _ _ _ _ _ _ us hl => match us, hl with | [_], _ => rfl⟩
theorem st__law_great : StOk tabB f__law_great (topS 13) := ⟨⟨rfl, rfl, rfl, by decide +kernel, rfl, by decide +kernel, by decide +kernel⟩, by decide +kernel, by decide, fun _ _ _ _ _ _ us hl => match us, hl with | [_], _ => rfl⟩
theorem st__law_power_of : StOk tabB f__law_power_of (topS 14) := ⟨⟨rfl, rfl, rfl, by decide +kernel, rfl, by decide +kernel, by decide +kernel⟩, by decide +kernel, by decide, fun _ _ _ _ _ _ us hl => match us, hl with | [_, _], _ => rfl⟩
theorem st__law_all_unlike : StOk tabB f__law_all_unlike (topS 15) := ⟨⟨rfl, rfl, rfl, by decide +kernel, rfl, by decide +kernel, by decide +kernel⟩, by decide +kernel, by decide, fun _ _ _ _ _ _ us hl => match us, hl with | [_, _], _ => rfl⟩
theorem st__law_line_right : StOk tabB f__law_line_right (topS 16) := ⟨⟨rfl, rfl, rfl, by decide +kernel, rfl, by decide +kernel, by decide +kernel⟩, by decide +kernel, by decide, fun _ _ _ _ _ _ us hl => match us, hl with | [_], _ => rfl⟩
theorem st__law_power_right : StOk tabB f__law_power_right (topS 17) := ⟨⟨rfl, rfl, rfl, by decide +kernel, rfl, by decide +kernel, by decide +kernel⟩, by decide +kernel, by decide, fun _ _ _ _ _ _ us hl => match us, hl with | [_], _ => rfl⟩
theorem st__law_twos_right : StOk tabB f__law_twos_right (topS 18) := ⟨⟨rfl, rfl, rfl, by decide +kernel, rfl, by decide +kernel, by decide +kernel⟩, by decide +kernel, by decide, fun _ _ _ _ _ _ us hl => match us, hl with | [_], _ => rfl⟩
theorem st_law : StOk tabB f_law (topS 19) := ⟨⟨rfl, rfl, rfl, by decide +kernel, rfl, by decide +kernel, by decide +kernel⟩, by decide +kernel, by decide, fun _ _ _ _ _ _ us hl => match us, hl with | [_], _ => rfl⟩
end Law
end
section
set_option Elab.async false
set_option linter.all false
set_option maxRecDepth 100000
namespace Law
open PySem Mini
theorem tabOk : Tab tabT := ⟨rfl, rfl, rfl, rfl, rfl, rfl, rfl, rfl, rfl, rfl, rfl, rfl, rfl, rfl, rfl, rfl, rfl⟩
theorem law_main : ∀ ns : List Int, ns.length ≤ 63 → ∀ (Q : MQ) (E : ME), (∀ h', Q (.d (.bool true)) h') → wF tabT 12 "law" [.s ns] [] Q E := by
  intro ns hl Q E q
  exact law_spec tabOk ns hl q
end Law
open PySem PySem.W PyProof.Rows
set_option maxHeartbeats 0 in
theorem PySem.Challenge.cw_shufflerests_k43_told_signs_holds : PySem.Challenge.rw_shufflerests_k43_told_signs.Holds := by
  w_on; o_law; k_head; (case hw => w_witness2)
  k_fill
  refine Mini.walkM (l := PySem.Challenge.rw_shufflerests_k43_told_signs) (n := 63) 12 Law.tabT Law.tabB "_law_script" Law.f_law rfl (by decide) rfl (by decide) rfl rfl rfl (fun ns hl Q E q => Law.law_main ns hl Q E q) (fun w h Y => PySem.W.kIn_of Y) ?F
  case F =>
    intro w mg h KX G
    have b0 := Mini.bltAt (x := "abs") KX G (by k_is)
    have b1 := Mini.bltAt (x := "len") KX G (by k_is)
    have b2 := Mini.bltAt (x := "list") KX G (by k_is)
    have b3 := Mini.bltAt (x := "range") KX G (by k_is)
    have b4 := Mini.bltAt (x := "repr") KX G (by k_is)
    have b5 := Mini.bltAt (x := "set") KX G (by k_is)
    have b6 := Mini.bltAt (x := "sum") KX G (by k_is)
    have b7 := Mini.bltAt (x := "tuple") KX G (by k_is)
    refine' Mini.withDef (x := "common") (y := "common") (st := Law.topS 1) KX G ?a ?l ?c ?k (fun d0 => ?_)
    (case a => k_is); (case l => k_is); (case c => k_is); (case k => k_is)
    refine' Mini.withDef (x := "shuffles_line") (y := "shuffles_line") (st := Law.topS 3) KX G ?a ?l ?c ?k (fun d1 => ?_)
    (case a => k_is); (case l => k_is); (case c => k_is); (case k => k_is)
    refine' Mini.withDef (x := "shuffles_power") (y := "shuffles_power") (st := Law.topS 4) KX G ?a ?l ?c ?k (fun d2 => ?_)
    (case a => k_is); (case l => k_is); (case c => k_is); (case k => k_is)
    refine' Mini.withDef (x := "shuffles_twos") (y := "shuffles_twos") (st := Law.topS 5) KX G ?a ?l ?c ?k (fun d3 => ?_)
    (case a => k_is); (case l => k_is); (case c => k_is); (case k => k_is)
    refine' Mini.withDef (x := "_law_feed") (y := "_law_feed") (st := Law.topS 7) KX G ?a ?l ?c ?k (fun d4 => ?_)
    (case a => k_is); (case l => k_is); (case c => k_is); (case k => k_is)
    refine' Mini.withDef (x := "_law_draw") (y := "_law_draw") (st := Law.topS 8) KX G ?a ?l ?c ?k (fun d5 => ?_)
    (case a => k_is); (case l => k_is); (case c => k_is); (case k => k_is)
    refine' Mini.withDef (x := "_law_common") (y := "_law_common") (st := Law.topS 9) KX G ?a ?l ?c ?k (fun d6 => ?_)
    (case a => k_is); (case l => k_is); (case c => k_is); (case k => k_is)
    refine' Mini.withDef (x := "_law_poly") (y := "_law_poly") (st := Law.topS 10) KX G ?a ?l ?c ?k (fun d7 => ?_)
    (case a => k_is); (case l => k_is); (case c => k_is); (case k => k_is)
    refine' Mini.withDef (x := "_law_value") (y := "_law_value") (st := Law.topS 11) KX G ?a ?l ?c ?k (fun d8 => ?_)
    (case a => k_is); (case l => k_is); (case c => k_is); (case k => k_is)
    refine' Mini.withDef (x := "_law_number") (y := "_law_number") (st := Law.topS 12) KX G ?a ?l ?c ?k (fun d9 => ?_)
    (case a => k_is); (case l => k_is); (case c => k_is); (case k => k_is)
    refine' Mini.withDef (x := "_law_great") (y := "_law_great") (st := Law.topS 13) KX G ?a ?l ?c ?k (fun d10 => ?_)
    (case a => k_is); (case l => k_is); (case c => k_is); (case k => k_is)
    refine' Mini.withDef (x := "_law_power_of") (y := "_law_power_of") (st := Law.topS 14) KX G ?a ?l ?c ?k (fun d11 => ?_)
    (case a => k_is); (case l => k_is); (case c => k_is); (case k => k_is)
    refine' Mini.withDef (x := "_law_all_unlike") (y := "_law_all_unlike") (st := Law.topS 15) KX G ?a ?l ?c ?k (fun d12 => ?_)
    (case a => k_is); (case l => k_is); (case c => k_is); (case k => k_is)
    refine' Mini.withDef (x := "_law_line_right") (y := "_law_line_right") (st := Law.topS 16) KX G ?a ?l ?c ?k (fun d13 => ?_)
    (case a => k_is); (case l => k_is); (case c => k_is); (case k => k_is)
    refine' Mini.withDef (x := "_law_power_right") (y := "_law_power_right") (st := Law.topS 17) KX G ?a ?l ?c ?k (fun d14 => ?_)
    (case a => k_is); (case l => k_is); (case c => k_is); (case k => k_is)
    refine' Mini.withDef (x := "_law_twos_right") (y := "_law_twos_right") (st := Law.topS 18) KX G ?a ?l ?c ?k (fun d15 => ?_)
    (case a => k_is); (case l => k_is); (case c => k_is); (case k => k_is)
    refine' Mini.withDef (x := "law") (y := "law") (st := Law.topS 19) KX G ?a ?l ?c ?k (fun d16 => ?_)
    (case a => k_is); (case l => k_is); (case c => k_is); (case k => k_is)
    exact ⟨⟨b0, ⟨b1, ⟨b2, ⟨b3, ⟨b4, ⟨b5, ⟨b6, ⟨b7, trivial⟩⟩⟩⟩⟩⟩⟩⟩, trivial, ⟨⟨_, d0, Law.st_common⟩, ⟨⟨_, d1, Law.st_shuffles_line⟩, ⟨⟨_, d2, Law.st_shuffles_power⟩, ⟨⟨_, d3, Law.st_shuffles_twos⟩, ⟨⟨_, d4, Law.st__law_feed⟩, ⟨⟨_, d5, Law.st__law_draw⟩, ⟨⟨_, d6, Law.st__law_common⟩, ⟨⟨_, d7, Law.st__law_poly⟩, ⟨⟨_, d8, Law.st__law_value⟩, ⟨⟨_, d9, Law.st__law_number⟩, ⟨⟨_, d10, Law.st__law_great⟩, ⟨⟨_, d11, Law.st__law_power_of⟩, ⟨⟨_, d12, Law.st__law_all_unlike⟩, ⟨⟨_, d13, Law.st__law_line_right⟩, ⟨⟨_, d14, Law.st__law_power_right⟩, ⟨⟨_, d15, Law.st__law_twos_right⟩, ⟨⟨_, d16, Law.st_law⟩, trivial⟩⟩⟩⟩⟩⟩⟩⟩⟩⟩⟩⟩⟩⟩⟩⟩⟩, rfl, trivial, trivial, trivial, trivial⟩
end
